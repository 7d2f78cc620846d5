import PyProof.Rows.All
import Wide.All
import OpenK.AllK
import Wide.FinOn
import HandS.ForMost
import HandS.Exc
import HandS.Defaults
import HandS.TupAny
import HandS.Wide
import HandS.Style
import HandS.IsInst
import HandS.SortInts
import HandS.SetKeys
import PyProof.TupleOfSeq
import KE.GoesEnum
import HandS.Zip
import HandS.Iter
import HandS.Small
import HandS.NoneIn
import HandS.Comp
import HandS.Ends
import HandS.EndBits
import PyProof.StrLawsRepr
import HandS.Words
import HandS.Head0
import HandS.Head1
import HandS.Head2
import HandS.HeadEnd
import HandS.HeadHook1
import HandS.HeadHook2
import PySem.Challenge.RW_flatbonds_k36_what_is_a_laying
set_option Elab.async false
set_option linter.all false
set_option maxRecDepth 100000
set_option maxHeartbeats 4000000
namespace Dl
open PySem PySem.Spec PyProof.Rows L2

/-- a def keeps its promise wherever no repr is under way -/
structure FnG (P : Program) (w : World) (K : PySem.W.Frag) (mg : Str → Option Value) (base : Heap)
    (k : Nat) (f : Addr) (fd : FuncData) (ps : List Str) (sp : Sp) : Prop where
  len : ∀ vs H Q E, sp vs H Q E → vs.length = ps.length
  go : ∀ (A : Around) (outer : List Env) (s : Shared) (H : Hp) (args : Args) (us : List Value) (vs : List V) (Q : VK) (E : XK),
    Room k A → A.guards = some [] → Env0 P w K mg base A outer s H → BindsTo s fd args (ps.zip us) → Vals vs us →
    sp vs H Q E → codeAny (model P w) A (.call (.ref f) args) (CR (L2.CX P w) outer P w H s Q E) s

theorem FnG.up {P : Program} {w : World} {K : PySem.W.Frag} {mg : Str → Option Value} {base : Heap} {j k : Nat}
    {f : Addr} {fd : FuncData} {ps : List Str} {sp : Sp} (F : FnG P w K mg base j f fd ps sp) (h : j ≤ k) :
    FnG P w K mg base k f fd ps sp :=
  ⟨F.len, fun A outer s H args us vs Q E hr => F.go A outer s H args us vs Q E (hr.mono h)⟩

section
variable {P : Program} {w : World} {K : PySem.W.Frag} {mg : Str → Option Value} {base : Heap}
  {x qual : Str} {params : Arguments} {body : List Stmt} {scope : Scope} {f : Addr} {fd : FuncData}

/-- a def by its body -/
theorem FnG.of_body {N ps : List Str} {k : Nat} {sp : Sp} (F : FunD K x qual params body scope [] [] f fd)
    (S : FnScope N ps scope) (len : ∀ vs H Q E, sp vs H Q E → vs.length = ps.length)
    (hb : ∀ (cd : Value) (A : Around) (outer : List Env) (s : Shared) (H : Hp) (vs : List V) (Q : VK) (E : XK),
      Room k (A.deeper (envOfC qual scope s.heap.objs.size f cd)) → A.guards = some [] → sp vs H Q E →
      ∃ t, PSs (cxOf (L2.CX P w) P w K mg base N qual scope f cd A outer s H E) body t ∧
        t { nx := fun _ H' => Q .non H', rt := Q } (start N vs) H) :
    FnG P w K mg base (k + 1) f fd ps sp := by
  obtain ⟨oc, od, dV, kV, doc, pm, an, cd, ct, osl, hfd, lk, hcd, _, _⟩ := F.ex
  subst hfd
  refine ⟨len, fun A outer s H args us vs Q E room gu e0 bind rel pro => ?_⟩
  have ln := len vs H Q E pro
  have kin : K.In s.heap := e0.mod.kin.keeps (fun b o e => (e0.bs b o e).1)
  have nolim : s.heap.NoLimit := e0.mod.nolimit.keeps (fun b o e => (e0.bs b o e).1)
  have kinds : ∀ y ∈ ps.zip us, scope.names.lookup y.1 = some .local ∨
      (scope.names.lookup y.1 = some .cell ∧ ((cellsFrom (s.heap.objs.size + 1) scope.names []).lookup y.1).isSome = true) := by
    intro y hy
    cases S.par y.1 (List.of_mem_zip (show (y.1, y.2) ∈ ps.zip us from hy)).1 with
    | inl q => exact Or.inl q
    | inr q => exact Or.inr ⟨q, PySem.W.cellsFrom_some _ _ _ (Or.inl q)⟩
  refine codeAny_call_function room.depth (kin _ _ lk) rfl S.co S.gen rfl (PySem.W.codeRec_of kin hcd) (bind _ _ _ _ ?_)
  refine wpAny_newFunctionEnv_cells S.kind kinds (fun env he s1 ic => ?_)
  subst he
  refine ⟨nolim.keeps ic.toInCall.keep, codeAny_func ?_⟩
  obtain ⟨t, ht, hq⟩ := hb cd A outer s H vs Q E (room.deeper _) gu pro
  have inv := inv_start (CX := L2.CX P w) (E := E) (base := base) (f := f) (qual := qual) S room.hd e0 ln rel ic
  refine wpAny_mono (ht.run [] s1 _ H _ inv hq) (fun fl s2 hs => ?_) (fun e s2 he => he)
  cases fl with
  | ret u =>
    obtain ⟨v, σ2, H2, J, rv, qv⟩ := hs
    exact ⟨v, H2, J.os, J.bare, J.base, J.hok, rv, qv⟩
  | next =>
    obtain ⟨σ2, H2, J, qv⟩ := hs
    exact ⟨V.non, H2, J.os, J.bare, J.base, J.hok, rfl, qv⟩
  | brk => exact (hs.choose_spec.choose_spec.2 : False).elim
  | cont => exact (hs.choose_spec.choose_spec.2 : False).elim
end

section
variable {X : Cx} {pins : List (Addr × Obj)} {σ : L2.St} {H : Hp} {s : Shared} {k : Nat} {f : Addr} {fd : FuncData}
  {ps : List Str} {sp : Sp} {W : WX} {Q : VK} {us : List Value} {vs : List V} {args : Args}

/-- the callee runs; what it raises is wished for at the caller's slots -/
theorem run_g (F : FnG X.prog X.w X.K X.mg X.base k f fd ps sp) (hr : Room k X.A) (hg : X.A.guards = some [])
    (tk : Takes X W) (I : Inv X pins σ H s) (hb : BindsTo s fd args (ps.zip us)) (r : Vals vs us)
    (h : sp vs H Q (fun cls d H' => W cls d σ H')) :
    wpAny (model X.prog X.w) X.A (call (.ref f) args.pos args.kw) (EP X pins σ Q) X.xe s := by
  refine wpAny_call (codeAny_mono (F.go X.A X.stack s H args us vs Q _ hr hg I.env0 hb r h) (fun r s2 hq => ?_))
  match r, hq with
  | .error e, hq => exact tk e s2 (XE.of_call I (fun _ _ _ z => z) hq)
  | .ok (.ret u), hq => exact I.after hq
  | .ok .next, hq => exact False.elim hq
  | .ok .brk, hq => exact False.elim hq
  | .ok .cont, hq => exact False.elim hq
end
end Dl
set_option Elab.async false
set_option linter.all false
set_option maxRecDepth 100000
set_option maxHeartbeats 4000000
namespace Dl
open PySem PySem.Spec PyProof.Rows L2

/-! ### values as data, a store of the objects that change -/
inductive DV where
  | non | bl (b : Bool) | int (i : Int) | str (x : Str) | ty (n : String) | obj (a : Addr)
  | tup (ds : List DV) | frl (ns : List Int) | ref (i : Nat)

inductive DO where
  | lst (ds : List DV)
  | dk (kvs : List (Key × DV))
  | dt (kvs : List (List Key × DV))
  | ins (C : Addr) (fs : List (Str × DV))

abbrev DSt := List (Option DV)
abbrev DHp := List DO

/-- a list that never changes -/
def FrL (K : PySem.W.Frag) (H : Hp) (a : Addr) (xs : List V) : Prop := (∃ o, H a = some (.frz o (.lst xs))) ∨ ∀ H' : Hp, SqL K H' a xs

mutual
def VR (K : PySem.W.Frag) (ro : List Addr) (H : Hp) : DV → V → Prop
  | .non, v => v = .non
  | .bl b, v => v = .bl b
  | .int i, v => v = .int i
  | .str x, v => v = .str x
  | .ty n, v => v = .ty n
  | .obj a, v => v = .ref a
  | .frl ns, v => ∃ a, v = .ref a ∧ FrL K H a (ns.map V.int)
  | .ref i, v => ∃ a, ro[i]? = some a ∧ v = .ref a
  | .tup ds, v => ∃ a vs, v = .ref a ∧ H a = some (.tup vs) ∧ VRs K ro H ds vs
def VRs (K : PySem.W.Frag) (ro : List Addr) (H : Hp) : List DV → List V → Prop
  | [], vs => vs = []
  | d :: ds, vs => ∃ v r, vs = v :: r ∧ VR K ro H d v ∧ VRs K ro H ds r
end

/-- what never changes stands as it stood -/
structure Ext (H H' : Hp) : Prop where
  tup : ∀ b xs, H b = some (.tup xs) → H' b = some (.tup xs)
  frz : ∀ b o u, H b = some (.frz o u) → H' b = some (.frz o u)
theorem Ext.refl (H : Hp) : Ext H H := ⟨fun _ _ h => h, fun _ _ _ h => h⟩
theorem Ext.trans {H H1 H2 : Hp} (a : Ext H H1) (b : Ext H1 H2) : Ext H H2 := ⟨fun c xs h => b.tup c xs (a.tup c xs h), fun c o u h => b.frz c o u (a.frz c o u h)⟩
theorem Ext.new {H : Hp} {p : Addr} {o : HO} (h : H p = none) : Ext H (upd H p o) :=
  ⟨fun b xs e => by rw [upd_ne (ne_of_none e h)]; exact e, fun b q u e => by rw [upd_ne (ne_of_none e h)]; exact e⟩
/-- an object that may change -/
def Mv : HO → Prop
  | .tup _ => False
  | .frz _ _ => False
  | _ => True
theorem Ext.set {H : Hp} {p : Addr} {o u : HO} (h : H p = some u) (m : Mv u) : Ext H (upd H p o) :=
  ⟨fun b xs e => by
    by_cases z : b = p
    · subst z; rw [h] at e; cases e; exact m.elim
    · rw [upd_ne z]; exact e,
   fun b q u' e => by
    by_cases z : b = p
    · subst z; rw [h] at e; cases e; exact m.elim
    · rw [upd_ne z]; exact e⟩
theorem Ext.seqT {K : PySem.W.Frag} {H H' : Hp} {a : Addr} {xs : List V} (e : Ext H H') (h : SqT K H a xs) : SqT K H' a xs := by
  rcases h with (h | ⟨o, h⟩) | h
  · exact .inl (.inl (e.tup _ _ h))
  · exact .inl (.inr ⟨o, e.frz _ _ _ h⟩)
  · exact .inr h
theorem Ext.frl {K : PySem.W.Frag} {H H' : Hp} {a : Addr} {xs : List V} (e : Ext H H') (h : FrL K H a xs) : FrL K H' a xs := by
  rcases h with ⟨o, h⟩ | h
  · exact .inl ⟨o, e.frz _ _ _ h⟩
  · exact .inr h
theorem FrL.seq {K : PySem.W.Frag} {H : Hp} {a : Addr} {xs : List V} (h : FrL K H a xs) : SqL K H a xs := by
  rcases h with ⟨o, h⟩ | h
  · exact .inl (.inr ⟨o, h⟩)
  · exact h H

abbrev Pre (ro ro' : List Addr) : Prop := ro <+: ro'
theorem Pre.get {ro ro' : List Addr} (p : Pre ro ro') {i : Nat} {a : Addr} (h : ro[i]? = some a) : ro'[i]? = some a := by
  obtain ⟨t, rfl⟩ := p
  rw [List.getElem?_append_left (List.getElem?_eq_some_iff.mp h).1]
  exact h

section
variable {K : PySem.W.Frag} {ro ro' : List Addr} {H H' : Hp}
mutual
theorem VR.stay (p : Pre ro ro') (e : Ext H H') : ∀ {d : DV} {v : V}, VR K ro H d v → VR K ro' H' d v
  | .non, _, h | .bl _, _, h | .int _, _, h | .str _, _, h | .ty _, _, h | .obj _, _, h => by simpa only [VR] using h
  | .frl ns, _, h => by
    simp only [VR] at h ⊢
    obtain ⟨a, rfl, h⟩ := h
    exact ⟨a, rfl, e.frl h⟩
  | .ref i, _, h => by
    simp only [VR] at h ⊢
    obtain ⟨a, h1, h2⟩ := h
    exact ⟨a, p.get h1, h2⟩
  | .tup ds, _, h => by
    simp only [VR] at h ⊢
    obtain ⟨a, vs, h1, h2, h3⟩ := h
    exact ⟨a, vs, h1, e.tup _ _ h2, VRs.stay p e h3⟩
theorem VRs.stay (p : Pre ro ro') (e : Ext H H') : ∀ {ds : List DV} {vs : List V}, VRs K ro H ds vs → VRs K ro' H' ds vs
  | [], _, h => by simpa only [VRs] using h
  | d :: ds, _, h => by
    simp only [VRs] at h ⊢
    obtain ⟨v, r, h1, h2, h3⟩ := h
    exact ⟨v, r, h1, VR.stay p e h2, VRs.stay p e h3⟩
end

theorem VRs.length : ∀ {ds : List DV} {vs : List V}, VRs K ro H ds vs → ds.length = vs.length
  | [], _, h => by simp only [VRs] at h; subst h; rfl
  | d :: ds, _, h => by
    simp only [VRs] at h
    obtain ⟨v, r, rfl, _, h3⟩ := h
    simp [VRs.length h3]
theorem VRs.nil : VRs K ro H [] [] := by simp only [VRs]
theorem VRs.cons {d : DV} {v : V} {ds : List DV} {vs : List V} (a : VR K ro H d v) (b : VRs K ro H ds vs) : VRs K ro H (d :: ds) (v :: vs) := by
  simp only [VRs]; exact ⟨v, vs, rfl, a, b⟩
theorem VRs.nil_inv {vs : List V} (h : VRs K ro H [] vs) : vs = [] := by simpa only [VRs] using h
theorem VRs.cons_inv {d : DV} {ds : List DV} {vs : List V} (h : VRs K ro H (d :: ds) vs) : ∃ v r, vs = v :: r ∧ VR K ro H d v ∧ VRs K ro H ds r := by simpa only [VRs] using h
theorem VRs.append : ∀ {as bs : List DV} {vs ws : List V}, VRs K ro H as vs → VRs K ro H bs ws → VRs K ro H (as ++ bs) (vs ++ ws)
  | [], _, _, _, h, g => by rw [h.nil_inv]; exact g
  | a :: as, bs, _, ws, h, g => by
    obtain ⟨v, r, rfl, h1, h2⟩ := h.cons_inv
    exact VRs.cons h1 (VRs.append h2 g)
theorem VRs.get : ∀ {ds : List DV} {vs : List V} {i : Nat} {d : DV}, VRs K ro H ds vs → ds[i]? = some d → ∃ v, vs[i]? = some v ∧ VR K ro H d v
  | [], _, _, _, _, e => by simp at e
  | d :: ds, _, 0, d', h, e => by
    obtain ⟨v, r, rfl, h1, h2⟩ := h.cons_inv
    simp at e; subst e
    exact ⟨v, rfl, h1⟩
  | d :: ds, _, i + 1, d', h, e => by
    obtain ⟨v, r, rfl, h1, h2⟩ := h.cons_inv
    obtain ⟨w, a, b⟩ := VRs.get (i := i) h2 (by simpa using e)
    exact ⟨w, by simpa using a, b⟩
theorem VRs.getV : ∀ {ds : List DV} {vs : List V} {i : Nat} {v : V}, VRs K ro H ds vs → vs[i]? = some v → ∃ d, ds[i]? = some d ∧ VR K ro H d v
  | [], _, _, _, h, e => by rw [h.nil_inv] at e; simp at e
  | d :: ds, _, 0, d', h, e => by
    obtain ⟨v, r, rfl, h1, h2⟩ := h.cons_inv
    simp at e; subst e
    exact ⟨d, rfl, h1⟩
  | d :: ds, _, i + 1, d', h, e => by
    obtain ⟨v, r, rfl, h1, h2⟩ := h.cons_inv
    obtain ⟨w, a, b⟩ := VRs.getV (i := i) h2 (by simpa using e)
    exact ⟨w, by simpa using a, b⟩
theorem VRs.take : ∀ {ds : List DV} {vs : List V} (n : Nat), VRs K ro H ds vs → VRs K ro H (ds.take n) (vs.take n)
  | _, _, 0, _ => by simpa using VRs.nil
  | [], _, n + 1, h => by rw [h.nil_inv]; simpa using VRs.nil
  | d :: ds, _, n + 1, h => by
    obtain ⟨v, r, rfl, h1, h2⟩ := h.cons_inv
    simpa using VRs.cons h1 (VRs.take n h2)
theorem VRs.drop : ∀ {ds : List DV} {vs : List V} (n : Nat), VRs K ro H ds vs → VRs K ro H (ds.drop n) (vs.drop n)
  | _, _, 0, h => by simpa using h
  | [], _, n + 1, h => by rw [h.nil_inv]; simpa using VRs.nil
  | d :: ds, _, n + 1, h => by
    obtain ⟨v, r, rfl, h1, h2⟩ := h.cons_inv
    simpa using VRs.drop n h2
theorem VRs.set : ∀ {ds : List DV} {vs : List V} {d : DV} {v : V} (i : Nat), VR K ro H d v → VRs K ro H ds vs → VRs K ro H (ds.set i d) (vs.set i v)
  | [], _, _, _, _, _, h => by rw [h.nil_inv]; simpa using VRs.nil
  | e :: ds, _, d, v, 0, a, h => by
    obtain ⟨w, r, rfl, h1, h2⟩ := h.cons_inv
    simpa using VRs.cons a h2
  | e :: ds, _, d, v, i + 1, a, h => by
    obtain ⟨w, r, rfl, h1, h2⟩ := h.cons_inv
    simpa using VRs.cons h1 (VRs.set i a h2)
theorem VRs.eraseIdx : ∀ {ds : List DV} {vs : List V} (i : Nat), VRs K ro H ds vs → VRs K ro H (ds.eraseIdx i) (vs.eraseIdx i)
  | [], _, _, h => by rw [h.nil_inv]; simpa using VRs.nil
  | e :: ds, _, 0, h => by
    obtain ⟨w, r, rfl, h1, h2⟩ := h.cons_inv
    simpa using h2
  | e :: ds, _, i + 1, h => by
    obtain ⟨w, r, rfl, h1, h2⟩ := h.cons_inv
    simpa using VRs.cons h1 (VRs.eraseIdx i h2)
theorem VRs.reverse {ds : List DV} {vs : List V} (h : VRs K ro H ds vs) : VRs K ro H ds.reverse vs.reverse := by
  induction ds generalizing vs with
  | nil => rw [h.nil_inv]; simpa using VRs.nil
  | cons d ds ih =>
    obtain ⟨w, r, rfl, h1, h2⟩ := h.cons_inv
    simpa using VRs.append (ih h2) (VRs.cons h1 VRs.nil)
theorem VRs.ints : ∀ {ns : List Int} {vs : List V}, VRs K ro H (ns.map DV.int) vs → vs = ns.map V.int
  | [], _, h => h.nil_inv
  | n :: ns, _, h => by
    obtain ⟨w, r, rfl, h1, h2⟩ := h.cons_inv
    simp only [VR] at h1
    rw [h1, VRs.ints h2]; rfl
theorem VRs.ofInts : ∀ {ns : List Int}, VRs K ro H (ns.map DV.int) (ns.map V.int)
  | [] => VRs.nil
  | n :: ns => VRs.cons (by simp only [VR]) VRs.ofInts
end

/-! ### objects -/
def KR (K : PySem.W.Frag) (ro : List Addr) (H : Hp) {κ : Type} : List (κ × DV) → List (κ × V) → Prop := Paired fun p q => p.1 = q.1 ∧ VR K ro H p.2 q.2
def OR (K : PySem.W.Frag) (ro : List Addr) (H : Hp) (a : Addr) : DO → Prop
  | .lst ds => ∃ vs, H a = some (.lst vs) ∧ VRs K ro H ds vs
  | .dk kvs => ∃ ws, H a = some (.dK ws) ∧ KR K ro H kvs ws
  | .dt kvs => ∃ ws, H a = some (.dT ws) ∧ KR K ro H kvs ws
  | .ins C fs => ∃ dx ws, H a = some (.ins C dx ws) ∧ KR K ro H fs ws
structure HR (K : PySem.W.Frag) (ro : List Addr) (D : DHp) (H : Hp) : Prop where
  len : ro.length = D.length
  nd : ro.Nodup
  ob : ∀ (i : Nat) (o : DO) (a : Addr), D[i]? = some o → ro[i]? = some a → OR K ro H a o
/-- where the def began -/
structure Org where
  ro : List Addr
  H : Hp
structure SR (Z : Org) (K : PySem.W.Frag) (ro : List Addr) (H : Hp) (δ : DSt) (σ : L2.St) : Prop where
  pre : Pre Z.ro ro
  ext : Ext Z.H H
  len : δ.length = σ.length
  at_ : ∀ (i : Nat) (d : DV), δ[i]? = some (some d) → ∃ v, σ[i]? = some (some v) ∧ VR K ro H d v

section
variable {K : PySem.W.Frag} {ro ro' : List Addr} {H H' : Hp} {D D' : DHp}
theorem KR.stay {κ : Type} (p : Pre ro ro') (e : Ext H H') {kvs : List (κ × DV)} {ws : List (κ × V)} (h : KR K ro H kvs ws) : KR K ro' H' kvs ws :=
  Paired.mapP h fun _ _ z => ⟨z.1, z.2.stay p e⟩
theorem OR.stay {a : Addr} {o : DO} (p : Pre ro ro') (e : Ext H H') (k : H' a = H a) (h : OR K ro H a o) : OR K ro' H' a o := by
  cases o with
  | lst ds => obtain ⟨vs, h1, h2⟩ := h; exact ⟨vs, k.trans h1, h2.stay p e⟩
  | dk kvs => obtain ⟨vs, h1, h2⟩ := h; exact ⟨vs, k.trans h1, h2.stay p e⟩
  | dt kvs => obtain ⟨vs, h1, h2⟩ := h; exact ⟨vs, k.trans h1, h2.stay p e⟩
  | ins C fs => obtain ⟨dx, vs, h1, h2⟩ := h; exact ⟨dx, vs, k.trans h1, h2.stay p e⟩
theorem OR.there {a : Addr} {o : DO} (h : OR K ro H a o) : ∃ u, H a = some u ∧ Mv u := by
  cases o with
  | lst ds => obtain ⟨vs, h1, h2⟩ := h; exact ⟨_, h1, trivial⟩
  | dk kvs => obtain ⟨vs, h1, h2⟩ := h; exact ⟨_, h1, trivial⟩
  | dt kvs => obtain ⟨vs, h1, h2⟩ := h; exact ⟨_, h1, trivial⟩
  | ins C fs => obtain ⟨dx, vs, h1, h2⟩ := h; exact ⟨_, h1, trivial⟩
theorem SR.stay {Z : Org} {δ : DSt} {σ : L2.St} (p : Pre ro ro') (e : Ext H H') (h : SR Z K ro H δ σ) : SR Z K ro' H' δ σ :=
  ⟨h.pre.trans p, h.ext.trans e, h.len, fun i d q => let ⟨v, a, b⟩ := h.at_ i d q; ⟨v, a, b.stay p e⟩⟩
theorem HR.addr (h : HR K ro D H) {i : Nat} {o : DO} (e : D[i]? = some o) : ∃ a, ro[i]? = some a ∧ OR K ro H a o := by
  have hi : i < ro.length := by rw [h.len]; exact (List.getElem?_eq_some_iff.mp e).1
  exact ⟨ro[i], List.getElem?_eq_getElem hi, h.ob i o _ e (List.getElem?_eq_getElem hi)⟩
theorem HR.mem (h : HR K ro D H) {a : Addr} (m : a ∈ ro) : ∃ u, H a = some u ∧ Mv u := by
  obtain ⟨i, hi, e⟩ := List.getElem_of_mem m
  have hd : i < D.length := by rw [← h.len]; exact hi
  exact (h.ob i D[i] a (List.getElem?_eq_getElem hd) (by rw [List.getElem?_eq_getElem hi, e])).there
theorem HR.notin (h : HR K ro D H) {p : Addr} (n : H p = none) : p ∉ ro := fun m => by
  obtain ⟨u, e, _⟩ := h.mem m
  rw [n] at e; cases e
/-- a heap in which what is told of stands as it stood -/
theorem HR.ext (h : HR K ro D H) (e : Ext H H') (k : ∀ a ∈ ro, H' a = H a) : HR K ro D H' :=
  ⟨h.len, h.nd, fun i o a q r => (h.ob i o a q r).stay (List.prefix_refl _) e (k a (List.mem_of_getElem? r))⟩
/-- an untold object is laid -/
theorem HR.junk (h : HR K ro D H) {p : Addr} {o : HO} (n : H p = none) : HR K ro D (upd H p o) :=
  h.ext (Ext.new n) fun a m => upd_ne fun z => h.notin n (z ▸ m)
theorem HR.new (h : HR K ro D H) {p : Addr} {o : HO} {d : DO} (n : H p = none) (q : OR K (ro ++ [p]) (upd H p o) p d) : HR K (ro ++ [p]) (D ++ [d]) (upd H p o) := by
  have pre : Pre ro (ro ++ [p]) := List.prefix_append _ _
  refine ⟨by simp [h.len], ?_, fun i o' a e r => ?_⟩
  · rw [List.nodup_append]
    exact ⟨h.nd, by simp, fun a m b mb => by
      have : b = p := by simpa using mb
      subst this
      exact fun z => h.notin n (z ▸ m)⟩
  · by_cases hi : i < D.length
    · rw [List.getElem?_append_left hi] at e
      rw [List.getElem?_append_left (by rw [h.len]; exact hi)] at r
      exact (h.ob i o' a e r).stay pre (Ext.new n) (upd_ne fun z => h.notin n (z ▸ List.mem_of_getElem? r))
    · have hi' : i = D.length := by
        have := (List.getElem?_eq_some_iff.mp e).1
        simp at this; omega
      subst hi'
      rw [List.getElem?_append_right (Nat.le_refl _)] at e
      rw [List.getElem?_append_right (by rw [h.len]; exact Nat.le_refl _)] at r
      simp [h.len] at e r
      subst e; subst r
      exact q
theorem HR.set (h : HR K ro D H) {i : Nat} {a : Addr} {o : HO} {d : DO} (r : ro[i]? = some a) (q : OR K ro (upd H a o) a d) : HR K ro (D.set i d) (upd H a o) := by
  obtain ⟨u, hu, mu⟩ := h.mem (List.mem_of_getElem? r)
  refine ⟨by simp [h.len], h.nd, fun j o' b e rb => ?_⟩
  by_cases hj : i = j
  · subst hj
    rw [r] at rb; cases rb
    have hi : i < D.length := by
      have := (List.getElem?_eq_some_iff.mp e).1
      simpa using this
    rw [List.getElem?_set_self hi] at e; cases e
    exact q
  · rw [List.getElem?_set_ne hj] at e
    refine (h.ob j o' b e rb).stay (List.prefix_refl _) (Ext.set hu mu) (upd_ne fun z => ?_)
    subst z
    obtain ⟨h1, e1⟩ := List.getElem?_eq_some_iff.mp r
    obtain ⟨h2, e2⟩ := List.getElem?_eq_some_iff.mp rb
    exact hj ((List.getElem_inj h.nd).mp (e1.trans e2.symm))
theorem HR.extSet (h : HR K ro D H) {i : Nat} {a : Addr} {o : HO} (r : ro[i]? = some a) : Ext H (upd H a o) := by
  obtain ⟨u, hu, mu⟩ := h.mem (List.mem_of_getElem? r)
  exact Ext.set hu mu
end

/-! ### lifted readings -/
abbrev DR := DV → DHp → Prop
abbrev DE := DSt → DHp → DR → Prop
abbrev DT := DSt → DHp → (Bool → DHp → Prop) → Prop
abbrev DA := DSt → DHp → (List DV → DHp → Prop) → Prop
structure DEnds where
  nx : DSt → DHp → Prop
  rt : DR
  bk : DSt → DHp → Prop := fun _ _ => False
  ct : DSt → DHp → Prop := fun _ _ => False
abbrev DS := DEnds → DSt → DHp → Prop

/-- what is wanted, met at a store further on -/
def Post (K : PySem.W.Frag) (ro : List Addr) (H : Hp) (R : DR) (Q : VK) : Prop :=
  ∀ ro' d D' v H', Pre ro ro' → Ext H H' → HR K ro' D' H' → VR K ro' H' d v → R d D' → Q v H'
def PostT (K : PySem.W.Frag) (ro : List Addr) (H : Hp) (R : Bool → DHp → Prop) (Q : Bool → Hp → Prop) : Prop :=
  ∀ ro' b D' H', Pre ro ro' → Ext H H' → HR K ro' D' H' → R b D' → Q b H'
def PostA (K : PySem.W.Frag) (ro : List Addr) (H : Hp) (R : List DV → DHp → Prop) (Q : List V → Hp → Prop) : Prop :=
  ∀ ro' ds D' vs H', Pre ro ro' → Ext H H' → HR K ro' D' H' → VRs K ro' H' ds vs → R ds D' → Q vs H'
def PostS (Z : Org) (K : PySem.W.Frag) (ro : List Addr) (H : Hp) (R : DSt → DHp → Prop) (Q : L2.St → Hp → Prop) : Prop :=
  ∀ ro' δ D' σ H', Pre ro ro' → Ext H H' → HR K ro' D' H' → SR Z K ro' H' δ σ → R δ D' → Q σ H'
structure PostE (Z : Org) (K : PySem.W.Frag) (ro : List Addr) (H : Hp) (F : DEnds) (E : Ends) : Prop where
  nx : PostS Z K ro H F.nx E.nx
  rt : Post K ro H F.rt E.rt
  bk : PostS Z K ro H F.bk E.bk
  ct : PostS Z K ro H F.ct E.ct

section
variable {K : PySem.W.Frag} {ro ro' : List Addr} {H H' : Hp}
theorem Post.on {R : DR} {Q : VK} (h : Post K ro H R Q) (p : Pre ro ro') (e : Ext H H') : Post K ro' H' R Q :=
  fun ro2 d D2 v H2 p2 e2 => h ro2 d D2 v H2 (p.trans p2) (e.trans e2)
theorem PostT.on {R : Bool → DHp → Prop} {Q : Bool → Hp → Prop} (h : PostT K ro H R Q) (p : Pre ro ro') (e : Ext H H') : PostT K ro' H' R Q :=
  fun ro2 d D2 H2 p2 e2 => h ro2 d D2 H2 (p.trans p2) (e.trans e2)
theorem PostA.on {R : List DV → DHp → Prop} {Q : List V → Hp → Prop} (h : PostA K ro H R Q) (p : Pre ro ro') (e : Ext H H') : PostA K ro' H' R Q :=
  fun ro2 d D2 v H2 p2 e2 => h ro2 d D2 v H2 (p.trans p2) (e.trans e2)
theorem PostS.on {Z : Org} {R : DSt → DHp → Prop} {Q : L2.St → Hp → Prop} (h : PostS Z K ro H R Q) (p : Pre ro ro') (e : Ext H H') : PostS Z K ro' H' R Q :=
  fun ro2 d D2 v H2 p2 e2 => h ro2 d D2 v H2 (p.trans p2) (e.trans e2)
theorem PostE.on {Z : Org} {F : DEnds} {E : Ends} (h : PostE Z K ro H F E) (p : Pre ro ro') (e : Ext H H') : PostE Z K ro' H' F E :=
  ⟨h.nx.on p e, h.rt.on p e, h.bk.on p e, h.ct.on p e⟩
end

def liftE (Z : Org) (K : PySem.W.Frag) (f : DE) : TE := fun σ H Q => ∃ ro δ D R, SR Z K ro H δ σ ∧ HR K ro D H ∧ f δ D R ∧ Post K ro H R Q
def liftT (Z : Org) (K : PySem.W.Frag) (f : DT) : TT := fun σ H Q => ∃ ro δ D R, SR Z K ro H δ σ ∧ HR K ro D H ∧ f δ D R ∧ PostT K ro H R Q
def liftA (Z : Org) (K : PySem.W.Frag) (f : DA) : TA := fun σ H Q => ∃ ro δ D R, SR Z K ro H δ σ ∧ HR K ro D H ∧ f δ D R ∧ PostA K ro H R Q
def liftS (Z : Org) (K : PySem.W.Frag) (f : DS) : TS := fun E σ H => ∃ ro δ D F, SR Z K ro H δ σ ∧ HR K ro D H ∧ f F δ D ∧ PostE Z K ro H F E

/-! ### by values -/
def lift1 (K : PySem.W.Frag) (r : DV → DHp → DR → Prop) : V → Hp → VK → Prop := fun x H Q => ∃ ro D d R, HR K ro D H ∧ VR K ro H d x ∧ r d D R ∧ Post K ro H R Q
def lift2 (K : PySem.W.Frag) (r : DV → DV → DHp → DR → Prop) : R2 := fun x y H Q => ∃ ro D d e R, HR K ro D H ∧ VR K ro H d x ∧ VR K ro H e y ∧ r d e D R ∧ Post K ro H R Q
def liftL (K : PySem.W.Frag) (r : List DV → DHp → DR → Prop) : List V → Hp → VK → Prop := fun xs H Q => ∃ ro D ds R, HR K ro D H ∧ VRs K ro H ds xs ∧ r ds D R ∧ Post K ro H R Q
def liftM (K : PySem.W.Frag) (r : DV → List DV → DHp → DR → Prop) : V → List V → Hp → VK → Prop := fun x xs H Q => ∃ ro D d ds R, HR K ro D H ∧ VR K ro H d x ∧ VRs K ro H ds xs ∧ r d ds D R ∧ Post K ro H R Q

/-! ### composing -/
theorem PE.imp {X : Cx} {e : Expr} {t t' : TE} (h : PE X e t) (m : ∀ σ H Q, t' σ H Q → t σ H Q) : PE X e t' := ⟨fun pins s σ H Q I q => h.run pins s σ H Q I (m σ H Q q)⟩
theorem PT.imp {X : Cx} {e : Expr} {t t' : TT} (h : PT X e t) (m : ∀ σ H Q, t' σ H Q → t σ H Q) : PT X e t' := ⟨fun pins s σ H Q I q => h.run pins s σ H Q I (m σ H Q q)⟩
theorem PA.imp {X : Cx} {e : List Expr} {t t' : TA} (h : PA X e t) (m : ∀ σ H Q, t' σ H Q → t σ H Q) : PA X e t' := ⟨fun pos pins s σ H Q I q => h.run pos pins s σ H Q I (m σ H Q q)⟩
theorem PS.imp {X : Cx} {e : Stmt} {t t' : TS} (h : PS X e t) (m : ∀ D σ H, t' D σ H → t D σ H) : PS X e t' := ⟨fun pins s σ H D I q => h.run pins s σ H D I (m D σ H q)⟩
theorem PSs.imp {X : Cx} {e : List Stmt} {t t' : TS} (h : PSs X e t) (m : ∀ D σ H, t' D σ H → t D σ H) : PSs X e t' := ⟨fun pins s σ H D I q => h.run pins s σ H D I (m D σ H q)⟩

section
variable {Z : Org} {K : PySem.W.Frag} {σ : L2.St} {H : Hp}
/-- one expression, then what is done with its value -/
theorem lift_bind {ro : List Addr} {δ : DSt} {D : DHp} {f : DE} {R1 : DR} {Q : VK} (sr : SR Z K ro H δ σ) (hr : HR K ro D H) (h : f δ D R1)
    (go : ∀ ro1 d D1 v H1, Pre ro ro1 → Ext H H1 → SR Z K ro1 H1 δ σ → HR K ro1 D1 H1 → VR K ro1 H1 d v → R1 d D1 → Q v H1) : liftE Z K f σ H Q :=
  ⟨ro, δ, D, R1, sr, hr, h, fun ro1 d D1 v H1 p e hr1 vr q => go ro1 d D1 v H1 p e (sr.stay p e) hr1 vr q⟩
theorem lift_bindA {ro : List Addr} {δ : DSt} {D : DHp} {f : DA} {R1 : List DV → DHp → Prop} {Q : List V → Hp → Prop} (sr : SR Z K ro H δ σ) (hr : HR K ro D H) (h : f δ D R1)
    (go : ∀ ro1 d D1 v H1, Pre ro ro1 → Ext H H1 → SR Z K ro1 H1 δ σ → HR K ro1 D1 H1 → VRs K ro1 H1 d v → R1 d D1 → Q v H1) : liftA Z K f σ H Q :=
  ⟨ro, δ, D, R1, sr, hr, h, fun ro1 d D1 v H1 p e hr1 vr q => go ro1 d D1 v H1 p e (sr.stay p e) hr1 vr q⟩
theorem lift_bindT {ro : List Addr} {δ : DSt} {D : DHp} {f : DT} {R1 : Bool → DHp → Prop} {Q : Bool → Hp → Prop} (sr : SR Z K ro H δ σ) (hr : HR K ro D H) (h : f δ D R1)
    (go : ∀ ro1 b D1 H1, Pre ro ro1 → Ext H H1 → SR Z K ro1 H1 δ σ → HR K ro1 D1 H1 → R1 b D1 → Q b H1) : liftT Z K f σ H Q :=
  ⟨ro, δ, D, R1, sr, hr, h, fun ro1 b D1 H1 p e hr1 q => go ro1 b D1 H1 p e (sr.stay p e) hr1 q⟩

def fBin (r : DV → DV → DHp → DR → Prop) (fa fb : DE) : DE := fun δ D R => fa δ D fun x D1 => fb δ D1 fun y D2 => r x y D2 R
def fUn (r : DV → DHp → DR → Prop) (fa : DE) : DE := fun δ D R => fa δ D fun x D1 => r x D1 R
theorem lift_bin {r : DV → DV → DHp → DR → Prop} {fa fb : DE} {Q : VK} (h : liftE Z K (fBin r fa fb) σ H Q) : tOp (lift2 K r) (liftE Z K fa) (liftE Z K fb) σ H Q := by
  obtain ⟨ro, δ, D, R, sr, hr, f, po⟩ := h
  refine lift_bind sr hr f fun ro1 x D1 v H1 p1 e1 sr1 hr1 vx q1 => ?_
  refine lift_bind sr1 hr1 q1 fun ro2 y D2 u H2 p2 e2 sr2 hr2 vy q2 => ?_
  exact ⟨ro2, D2, x, y, R, hr2, vx.stay p2 e2, vy, q2, po.on (p1.trans p2) (e1.trans e2)⟩
theorem lift_un {r : DV → DHp → DR → Prop} {fa : DE} {Q : VK} (h : liftE Z K (fUn r fa) σ H Q) : tUn (lift1 K r) (liftE Z K fa) σ H Q := by
  obtain ⟨ro, δ, D, R, sr, hr, f, po⟩ := h
  refine lift_bind sr hr f fun ro1 x D1 v H1 p1 e1 sr1 hr1 vx q1 => ?_
  exact ⟨ro1, D1, x, R, hr1, vx, q1, po.on p1 e1⟩
end
end Dl
set_option Elab.async false
set_option linter.all false
set_option maxRecDepth 100000
set_option maxHeartbeats 4000000
namespace Dl
open PySem PySem.Spec PyProof.Rows L2

/-! ### what == and repr see of a value -/
mutual
def pyF (g : Nat → Option PyData) : DV → Option PyData
  | .non => some .none
  | .bl b => some (.bool b)
  | .int i => some (.int i)
  | .str x => some (.str x)
  | .tup ds => (pyFs g ds).map .tuple
  | .frl ns => some (.list (ns.map .int))
  | .ref i => g i
  | .ty _ => none
  | .obj _ => none
def pyFs (g : Nat → Option PyData) : List DV → Option (List PyData)
  | [] => some []
  | d :: ds => (pyF g d).bind fun a => (pyFs g ds).map fun b => a :: b
end
def keyP : Key → PyData
  | .inl i => .int i
  | .inr x => .str x
def pyKv (g : Nat → Option PyData) : List (Key × DV) → Option (List (PyData × PyData))
  | [] => some []
  | (k, d) :: r => (pyF g d).bind fun a => (pyKv g r).map fun b => (keyP k, a) :: b
def pyG : Nat → DHp → Nat → Option PyData
  | 0, _, _ => none
  | n + 1, D, i => match D[i]? with
    | some (.lst ds) => (pyFs (pyG n D) ds).map .list
    | some (.dk kvs) => (pyKv (pyG n D) kvs).map .dict
    | _ => none
/-- the data at d, lists and dicts up to depth n -/
def py (n : Nat) (D : DHp) (d : DV) : Option PyData := pyF (pyG n D) d

/-! ### operators -/
inductive BO where
  | add | sub | mul | fdiv | mod | pow | shl | shr | band | bor | bxor
  deriving DecidableEq
def BO.op : BO → Operator
  | .add => .Add | .sub => .Sub | .mul => .Mult | .fdiv => .FloorDiv | .mod => .Mod | .pow => .Pow
  | .shl => .LShift | .shr => .RShift | .band => .BitAnd | .bor => .BitOr | .bxor => .BitXor
inductive CO where
  | eq | ne | lt | le | gt | ge | is | isN | isin | nin
  deriving DecidableEq
def CO.op : CO → CmpOp
  | .eq => .Eq | .ne => .NotEq | .lt => .Lt | .le => .LtE | .gt => .Gt | .ge => .GtE | .is => .Is | .isN => .IsNot | .isin => .In | .nin => .NotIn

def MulOk (i j : Int) : Prop := CMul i j ∨ i.natAbs.log2 + j.natAbs.log2 < 1000000
def rep {α : Type} (n : Nat) (xs : List α) : List α := (List.replicate n xs).flatten

def boSem (o : BO) (x y : DV) (D : DHp) (R : DR) : Prop :=
  match o, x, y with
  | .add, .int i, .int j => R (.int (i + j)) D
  | .add, .str a, .str b => a.length + b.length ≤ sizeLine ∧ R (.str (a ++ b)) D
  | .add, .tup a, .tup b => a.length + b.length ≤ sizeLine ∧ R (.tup (a ++ b)) D
  | .add, .ref i, .ref j => ∃ xs ys, D[i]? = some (.lst xs) ∧ D[j]? = some (.lst ys) ∧ xs.length + ys.length ≤ sizeLine ∧ R (.ref D.length) (D ++ [.lst (xs ++ ys)])
  | .sub, .int i, .int j => R (.int (i - j)) D
  | .mul, .int i, .int j => MulOk i j ∧ R (.int (i * j)) D
  | .mul, .ref i, .int k => ∃ xs, D[i]? = some (.lst xs) ∧ -(2 ^ 63) ≤ k ∧ k < 2 ^ 63 ∧ xs.length * k.toNat ≤ sizeLine ∧ R (.ref D.length) (D ++ [.lst (rep k.toNat xs)])
  | .fdiv, .int i, .int j => CDivN i j ∧ R (.int (i.fdiv j)) D
  | .mod, .int i, .int j => j ≠ 0 ∧ R (.int (i.fmod j)) D
  | .pow, .int i, .int j => CPow i j ∧ R (.int (i ^ j.toNat)) D
  | .shl, .int i, .int j => CPow i j ∧ R (.int (i * 2 ^ j.toNat)) D
  | .shr, .int i, .int j => 0 ≤ j ∧ R (.int (i / 2 ^ j.toNat)) D
  | .band, .int i, .int j => R (.int (Builtin.bitAnd i j)) D
  | .bor, .int i, .int j => R (.int (Builtin.bitOr i j)) D
  | .bxor, .int i, .int j => R (.int (Builtin.bitXor i j)) D
  | _, _, _ => False

def eqS (neg : Bool) (x y : DV) (D : DHp) (R : DR) : Prop :=
  (∃ i j, x = .str i ∧ y = .str j ∧ R (.bl (if neg then !decide (i = j) else decide (i = j))) D) ∨
  ∃ n a b, py n D x = some a ∧ py n D y = some b ∧ SeqAt.shaped a = true ∧ SeqAt.shaped b = true ∧ R (.bl (if neg then !PyData.eqv a b else PyData.eqv a b)) D
def isNon : DV → Bool
  | .non => true
  | _ => false
/-- scalars -/
def flatD : DV → Bool
  | .non => true | .bl _ => true | .int _ => true | .str _ => true
  | _ => false
def eqF : DV → DV → Bool
  | .non, .non => true
  | .bl a, .bl b => a == b
  | .bl a, .int j => (if a then 1 else 0) == j
  | .int i, .bl b => i == (if b then 1 else 0)
  | .int i, .int j => i == j
  | .str x, .str y => x == y
  | _, _ => false
def inF (x : DV) (ys : List DV) : Bool := ys.any fun y => eqF y x
def keyD : DV → Option Key
  | .int i => some (.inl i)
  | .str x => some (.inr x)
  | _ => none
def keysD : List DV → Option (List Key)
  | [] => some []
  | d :: ds => (keyD d).bind fun k => (keysD ds).map fun r => k :: r
def valD {κ : Type} [DecidableEq κ] (kvs : List (κ × DV)) (k : κ) : Option DV := (kvs.find? fun kv => decide (kv.1 = k)).map (·.2)
def putD {κ : Type} [DecidableEq κ] (kvs : List (κ × DV)) (k : κ) (v : DV) : List (κ × DV) :=
  if kvs.any fun kv => decide (kv.1 = k) then kvs.map fun kv => if kv.1 = k then (kv.1, v) else kv else kvs ++ [(k, v)]
def dropD {κ : Type} [DecidableEq κ] (kvs : List (κ × DV)) (k : κ) : List (κ × DV) := kvs.filter fun kv => decide (kv.1 ≠ k)
/-- d[k] of the dict at i -/
def getS (D : DHp) (i : Nat) (k : DV) : Option (Option DV) :=
  match D[i]?, k with
  | some (.dk kvs), .tup _ => none
  | some (.dk kvs), k => (keyD k).map fun q => valD kvs q
  | some (.dt kvs), .tup ks => (keysD ks).map fun q => valD kvs q
  | _, _ => none
def putS (D : DHp) (i : Nat) (k v : DV) : Option DHp :=
  match D[i]?, k with
  | some (.dk kvs), .tup _ => none
  | some (.dk kvs), k => (keyD k).bind fun q => if kvs.length < sizeLine then some (D.set i (.dk (putD kvs q v))) else none
  | some (.dt kvs), .tup ks => (keysD ks).bind fun q => if kvs.length < sizeLine then some (D.set i (.dt (putD kvs q v))) else none
  | _, _ => none
def inS (neg : Bool) (x y : DV) (D : DHp) (R : DR) : Prop :=
  match y with
  | .tup ys => flatD x = true ∧ ys.all flatD = true ∧ R (.bl (if neg then !inF x ys else inF x ys)) D
  | .ref i => (∃ ys, D[i]? = some (.lst ys) ∧ flatD x = true ∧ ys.all flatD = true ∧ R (.bl (if neg then !inF x ys else inF x ys)) D) ∨
      ∃ o, getS D i x = some o ∧ R (.bl (if neg then !o.isSome else o.isSome)) D
  | _ => False
def coSem (o : CO) (x y : DV) (D : DHp) (R : DR) : Prop :=
  match o, x, y with
  | .lt, .int i, .int j => R (.bl (decide (i < j))) D
  | .le, .int i, .int j => R (.bl (decide (i ≤ j))) D
  | .gt, .int i, .int j => R (.bl (decide (j < i))) D
  | .ge, .int i, .int j => R (.bl (decide (j ≤ i))) D
  | .is, x, .non => R (.bl (isNon x)) D
  | .isN, x, .non => R (.bl (!isNon x)) D
  | .eq, x, y => eqS false x y D R
  | .ne, x, y => eqS true x y D R
  | .isin, x, y => inS false x y D R
  | .nin, x, y => inS true x y D R
  | _, _, _ => False

/-! ### truth -/
def tru (d : DV) (D : DHp) : Option Bool :=
  match d with
  | .non => some false
  | .bl b => some b
  | .int i => some (i != 0)
  | .str x => if x.length ≤ sizeLine then some ((x.length : Int) != 0) else none
  | .tup ds => some (!ds.isEmpty)
  | .frl ns => some (!ns.isEmpty)
  | .ref i => match D[i]? with
    | some (.lst ds) => some (!ds.isEmpty)
    | some (.dk kvs) => some (!kvs.isEmpty)
    | _ => none
  | _ => none

/-! ### subscripts, slices -/
def ixD (x y : DV) (D : DHp) (R : DR) : Prop :=
  match x, y with
  | .tup ds, .int i => ∃ v, atI ds i = some v ∧ R v D
  | .frl ns, .int i => ∃ v, atI ns i = some v ∧ R (.int v) D
  | .str z, .int i => ∃ c, z.length ≤ sizeLine ∧ atI z.cps.toList i = some c ∧ R (.str ⟨#[c]⟩) D
  | .ref p, k => (∃ ds i v, D[p]? = some (.lst ds) ∧ k = .int i ∧ atI ds i = some v ∧ R v D) ∨ ∃ v, getS D p k = some (some v) ∧ R v D
  | _, _ => False
def cutL {α : Type} (xs : List α) (lo hi : Option Int) : List α := (xs.drop (HT.sIx xs.length 0 lo)).take (HT.sIx xs.length xs.length hi - HT.sIx xs.length 0 lo)
def slD (x : DV) (lo hi : Option Int) (D : DHp) (R : DR) : Prop :=
  match x with
  | .tup ds => R (.tup (cutL ds lo hi)) D
  | .frl ns => R (.ref D.length) (D ++ [.lst ((cutL ns lo hi).map .int)])
  | .ref p => ∃ ds, D[p]? = some (.lst ds) ∧ R (.ref D.length) (D ++ [.lst (cutL ds lo hi)])
  | _ => False
/-- [::-1] (k = 0), [:0:-1] (k = 1) -/
def rvD (k : Nat) (x : DV) (D : DHp) (R : DR) : Prop :=
  match x with
  | .tup ds => R (.tup (ds.drop k).reverse) D
  | .ref p => ∃ ds, D[p]? = some (.lst ds) ∧ R (.ref D.length) (D ++ [.lst (ds.drop k).reverse])
  | _ => False

/-! ### built-ins by name -/
inductive BI where
  | len | tuple | list | sorted | min | max | sum | abs | int | bool | str | repr | any | all | isinst
  deriving DecidableEq
def BI.id : BI → Str
  | .len => "len" | .tuple => "tuple" | .list => "list" | .sorted => "sorted" | .min => "min" | .max => "max" | .sum => "sum" | .abs => "abs"
  | .int => "int" | .bool => "bool" | .str => "str" | .repr => "repr" | .any => "any" | .all => "all" | .isinst => "isinstance"
def BI.val : BI → Value
  | .len => .builtin "len" | .tuple => .type "tuple" | .list => .type "list" | .sorted => .builtin "sorted" | .min => .builtin "min" | .max => .builtin "max"
  | .sum => .builtin "sum" | .abs => .builtin "abs" | .int => .type "int" | .bool => .type "bool" | .str => .type "str" | .repr => .builtin "repr"
  | .any => .builtin "any" | .all => .builtin "all" | .isinst => .builtin "isinstance"
def isort (ns : List Int) : List Int := ns.mergeSort fun a b => decide (a ≤ b)
def toInts : List DV → Option (List Int)
  | [] => some []
  | .int i :: r => (toInts r).map fun s => i :: s
  | _ :: _ => none
def toBls : List DV → Option (List Bool)
  | [] => some []
  | .bl i :: r => (toBls r).map fun s => i :: s
  | _ :: _ => none
/-- the items of a list, a tuple -/
def itemsD (d : DV) (D : DHp) : Option (List DV) :=
  match d with
  | .tup ds => some ds
  | .frl ns => some (ns.map .int)
  | .ref i => match D[i]? with
    | some (.lst ds) => some ds
    | _ => none
  | _ => none
/-- of a list alone -/
def itemsL : DV → DHp → Option (List DV)
  | .tup _, _ => none
  | d, D => itemsD d D
def lenD (d : DV) (D : DHp) : Option Nat :=
  match d with
  | .tup ds => some ds.length
  | .frl ns => some ns.length
  | .str x => if x.length ≤ sizeLine then some x.length else none
  | .ref i => match D[i]? with
    | some (.lst ds) => some ds.length
    | some (.dk kvs) => some kvs.length
    | _ => none
  | _ => none
def shownS (n : Nat) (d : DV) (D : DHp) (R : DR) : Prop := ∃ a, py n D d = some a ∧ a.showable = true ∧ a.depth ≤ 60 ∧ a.shown.length ≤ sizeLine ∧ R (.str a.shown) D
def tyD (d : DV) (D : DHp) : Option String :=
  match d with
  | .non => some "NoneType"
  | .bl _ => some "bool"
  | .int _ => some "int"
  | .str _ => some "str"
  | .tup _ => some "tuple"
  | .frl _ => some "list"
  | .ref i => match D[i]? with
    | some (.lst _) => some "list"
    | some (.dk _) => some "dict"
    | some (.dt _) => some "dict"
    | _ => none
  | _ => none
def isaT (t c : String) : Bool := t == c || (t == "bool" && c == "int")
def tyOk (c : String) : Bool := ["bool", "int", "str", "tuple", "list", "dict"].contains c
def tysD : List DV → Option (List String)
  | [] => some []
  | .ty n :: r => (tysD r).map fun s => n :: s
  | _ :: _ => none
def biSem (f : BI) (xs : List DV) (D : DHp) (R : DR) : Prop :=
  match f, xs with
  | .len, [x] => ∃ n, lenD x D = some n ∧ R (.int n) D
  | .tuple, [x] => ∃ ds, itemsD x D = some ds ∧ R (.tup ds) D
  | .list, [x] => ∃ ds, itemsD x D = some ds ∧ R (.ref D.length) (D ++ [.lst ds])
  | .sorted, [x] => ∃ ds ns, itemsD x D = some ds ∧ toInts ds = some ns ∧ R (.ref D.length) (D ++ [.lst ((isort ns).map .int)])
  | .min, [.int i, .int j] => R (.int (if j < i then j else i)) D
  | .max, [.int i, .int j] => R (.int (if j > i then j else i)) D
  | .min, [x] => ∃ ds ns, itemsL x D = some ds ∧ toInts ds = some ns ∧ ∃ m ∈ ns, (∀ y ∈ ns, m ≤ y) ∧ R (.int m) D
  | .max, [x] => ∃ ds ns, itemsL x D = some ds ∧ toInts ds = some ns ∧ ∃ m ∈ ns, (∀ y ∈ ns, y ≤ m) ∧ R (.int m) D
  | .sum, [x] => ∃ ds ns, itemsL x D = some ds ∧ toInts ds = some ns ∧ R (.int ns.sum) D
  | .abs, [.int i] => R (.int (if i < 0 then -i else i)) D
  | .int, [.int i] => R (.int i) D
  | .int, [.bl k] => R (.int (if k then 1 else 0)) D
  | .bool, [.int i] => R (.bl (i != 0)) D
  | .bool, [.bl k] => R (.bl k) D
  | .str, [.int i] => i.natAbs.log2 < 1920 ∧ R (.str (toString i)) D
  | .str, [.tup ds] => ∃ n, shownS n (.tup ds) D R
  | .repr, [x] => ∃ n, shownS n x D R
  | .any, [x] => ∃ ds bs, itemsL x D = some ds ∧ toBls ds = some bs ∧ R (.bl (bs.any id)) D
  | .all, [x] => ∃ ds bs, itemsL x D = some ds ∧ toBls ds = some bs ∧ R (.bl (bs.all id)) D
  | .isinst, [x, .ty c] => ∃ t, tyD x D = some t ∧ tyOk c = true ∧ R (.bl (isaT t c)) D
  | .isinst, [x, .tup cs] => ∃ t ns, tyD x D = some t ∧ tysD cs = some ns ∧ ns.all tyOk = true ∧ R (.bl (ns.any (isaT t))) D
  | _, _ => False

/-! ### methods of built-in types -/
inductive MT where
  | lappend | lextend | lpop | lpopAt | dget | dget2 | dsetd
  deriving DecidableEq
def MT.id : MT → Str
  | .lappend => "append" | .lextend => "extend" | .lpop => "pop" | .lpopAt => "pop" | .dget => "get" | .dget2 => "get" | .dsetd => "setdefault"
def MT.T : MT → String
  | .lappend => "list" | .lextend => "list" | .lpop => "list" | .lpopAt => "list" | .dget => "dict" | .dget2 => "dict" | .dsetd => "dict"
def MT.bid : MT → String
  | .lappend => "list.append" | .lextend => "list.extend" | .lpop => "list.pop" | .lpopAt => "list.pop" | .dget => "dict.get" | .dget2 => "dict.get" | .dsetd => "dict.setdefault"
def isLstD (x : DV) (D : DHp) : Prop := ∃ i xs, x = .ref i ∧ D[i]? = some (.lst xs)
def isDkD (x : DV) (D : DHp) : Prop := ∃ i, x = .ref i ∧ ((∃ xs, D[i]? = some (.dk xs)) ∨ ∃ xs, D[i]? = some (.dt xs))
def mtTy : MT → DV → DHp → Prop
  | .lappend, x, D => isLstD x D
  | .lextend, x, D => isLstD x D
  | .lpop, x, D => isLstD x D
  | .lpopAt, x, D => isLstD x D
  | .dget, x, D => isDkD x D
  | .dget2, x, D => isDkD x D
  | .dsetd, x, D => isDkD x D
def mtSem (m : MT) (x : DV) (ys : List DV) (D : DHp) (R : DR) : Prop :=
  match m, x, ys with
  | .lappend, .ref i, [y] => ∃ xs, D[i]? = some (.lst xs) ∧ xs.length < sizeLine ∧ R .non (D.set i (.lst (xs ++ [y])))
  | .lextend, .ref i, [.ref j] => ∃ xs zs, D[i]? = some (.lst xs) ∧ D[j]? = some (.lst zs) ∧ xs.length + zs.length ≤ sizeLine ∧ R .non (D.set i (.lst (xs ++ zs)))
  | .lpop, .ref i, [] => ∃ xs y, D[i]? = some (.lst xs) ∧ xs[xs.length - 1]? = some y ∧ R y (D.set i (.lst xs.dropLast))
  | .lpopAt, .ref i, [.int k] => ∃ xs j y, D[i]? = some (.lst xs) ∧ seqIndex? k xs.length = some j ∧ xs[j]? = some y ∧ R y (D.set i (.lst (xs.eraseIdx j)))
  | .dget, .ref i, [k] => ∃ o, getS D i k = some o ∧ R (o.getD .non) D
  | .dget2, .ref i, [k, z] => ∃ o, getS D i k = some o ∧ R (o.getD z) D
  | .dsetd, .ref i, [k, z] => ∃ kvs q, D[i]? = some (.dk kvs) ∧ keyD k = some q ∧ kvs.length < sizeLine ∧ (∀ v, valD kvs q = some v → R v D) ∧ (valD kvs q = none → R z (D.set i (.dk (kvs ++ [(q, z)]))))
  | _, _, _ => False

/-! ### the code -/
inductive T6 where
  | int | bool | str | tuple | list | dict
  deriving DecidableEq
def T6.nm : T6 → String
  | .int => "int" | .bool => "bool" | .str => "str" | .tuple => "tuple" | .list => "list" | .dict => "dict"
def T6.id : T6 → Str
  | .int => "int" | .bool => "bool" | .str => "str" | .tuple => "tuple" | .list => "list" | .dict => "dict"
def pickL {α : Type} (perm : List Nat) (xs : List α) : Option (List α) := perm.mapM fun j => xs[j]?
mutual
inductive IE where
  | var (i : Nat) | int (i : Int) | str (x : Str) | bl (b : Bool) | non | glo (x : Str) | tyc (t : T6)
  | bin (o : BO) (a b : IE) | neg (a : IE)
  | cmp (o : CO) (a b : IE) | chn (o p : CO) (a b c : IE)
  | and (a b : IE) | or (a b : IE) | not (a : IE)
  | ite (c : IB) (a b : IE)
  | tup (as : IEs) | lst (as : IEs) | dk0 | dt0 | dk (kvs : IKs)
  | idx (a i : IE) | slc (a : IE) (lo hi : IO) | rv (k : Nat) (a : IE)
  | bi (f : BI) (as : IEs)
  | call (f : Str) (as : IEs) | callk (f : Str) (as : IEs) (ks : List Str) (vs : IEs) (perm : List Nat)
  | mt (m : MT) (o : IE) (as : IEs)
  | lc (own : List (Str × Nat)) (tg : IT) (it : II) (cs : IC) (el : IE)
/-- tests -/
inductive IB where
  | val (a : IE) | not (a : IB) | and (a b : IB) | or (a b : IB)
inductive IC where
  | no | one (b : IB)
inductive IEs where
  | nil | cons (e : IE) (es : IEs)
inductive IKs where
  | nil | cons (k v : IE) (r : IKs)
inductive IO where
  | no | some (e : IE)
inductive II where
  | of (e : IE) | range1 (a : IE) | range2 (a b : IE) | enum (e : IE) | zip (a b : IE)
inductive IT where
  | nm (i : Nat) | tp (ts : ITs) | un (ts : ITs) | ix (o i : IE)
inductive ITs where
  | nil | cons (t : IT) (ts : ITs)
end
def IEs.len : IEs → Nat
  | .nil => 0
  | .cons _ ts => ts.len + 1
def ITs.len : ITs → Nat
  | .nil => 0
  | .cons _ ts => ts.len + 1
mutual
def slT : IT → List Nat
  | .nm i => [i]
  | .tp ts => slTs ts
  | .un ts => slTs ts
  | .ix _ _ => []
def slTs : ITs → List Nat
  | .nil => []
  | .cons t ts => slT t ++ slTs ts
end
/-- at turn i: none: not known; some none: it stops; some (some d): it gives d -/
abbrev DIt := Nat → DHp → Option (Option DV)
/-- what is raised: its class, the place of its fields -/
abbrev DX := Value → Option Nat → DHp → Prop
abbrev DSp := List DV → DHp → DR → DX → Prop
structure Ev where
  fn : Str → Option DSp
  gl : Str → Option DV
  ex : Value → Option Nat → DSt → DHp → Prop
def Ev.nox (Γ : Ev) : Ev := { Γ with ex := fun _ _ _ _ => False }
abbrev DG := DV → DSt → DHp → (DSt → DHp → Prop) → Prop
abbrev DGs := List DV → DSt → DHp → (DSt → DHp → Prop) → Prop
abbrev DI := DSt → DHp → (DIt → DHp → Prop) → Prop
def itOf (d : DV) (D : DHp) : Option DIt :=
  match d with
  | .tup ds => some fun i _ => some ds[i]?
  | .frl ns => some fun i _ => some (ns[i]?.map .int)
  | .ref p => match D[p]? with
    | some (.lst _) => some fun i D => match D[p]? with
      | some (.lst ds) => some ds[i]?
      | _ => none
    | _ => none
  | _ => none
def isTupD : DV → Bool
  | .tup _ => true
  | _ => false
def itRange (lo : Int) (n : Nat) : DIt := fun i _ => some (if i < n then some (.int (lo + i)) else none)
def itEnum (it : DIt) : DIt := fun i D => (it i D).map fun o => o.map fun d => .tup [.int i, d]
def itZip (a b : DIt) : DIt := fun i D => (a i D).bind fun x => (b i D).map fun y => x.bind fun u => y.map fun v => .tup [u, v]
def wipeD (δ : DSt) : List Nat → DSt
  | [] => δ
  | v :: vs => (wipeD δ vs).set v none
mutual
def wfV (k : Nat) : DV → Bool
  | .ref i => decide (i < k)
  | .tup ds => wfVs k ds
  | _ => true
def wfVs (k : Nat) : List DV → Bool
  | [] => true
  | d :: ds => wfV k d && wfVs k ds
end
def wfO (k : Nat) : DO → Bool
  | .lst ds => wfVs k ds
  | .dk kvs => kvs.all fun p => wfV k p.2
  | .dt kvs => kvs.all fun p => wfV k p.2
  | .ins _ fs => fs.all fun p => wfV k p.2
/-- the first k objects lean on no later one (D0: what stood at the start) -/
def OkCut (D0 : DHp) (k : Nat) (D : DHp) : Prop := D0.length ≤ k ∧ ∀ i o, i < k → D[i]? = some o → D0[i]? = some o ∨ wfO k o = true
def StCut (d0 : DSt) (k : Nat) (δ' δ : DSt) : Prop := δ'.length = δ.length ∧ ∀ (i : Nat) (d : DV), δ'[i]? = some (some d) → δ[i]? = some (some d) ∧ (wfV k d = true ∨ d0[i]? = some (some d))
/-- later objects may be forgotten -/
def Fgt (d0 : DSt) (D0 : DHp) (P : DSt → DHp → Prop) : DSt → DHp → Prop := fun δ D => P δ D ∨ ∃ k δ', OkCut D0 k D ∧ StCut d0 k δ' δ ∧ P δ' (D.take k)
def FgtV (D0 : DHp) (R : DR) : DR := fun d D => R d D ∨ ∃ k, OkCut D0 k D ∧ wfV k d = true ∧ R d (D.take k)

def lcLoop (it : DIt) (g : DG) (cs : DT) (el : DE) (own : List Nat) (δ : DSt) (l : Nat) (D0 : DHp) (R : DR) : Nat → Nat → DHp → Prop
  | 0, _, _ => False
  | n + 1, i, D => ∃ r, it i D = some r ∧ match r with
    | none => R (.ref l) D
    | some x => g x (wipeD δ own) D fun δ1 D1 => cs δ1 D1 fun b D2 =>
      if b = true then el δ1 D2 fun y D3 => ∃ acc, D3[l]? = some (.lst acc) ∧ acc.length < sizeLine ∧
        Fgt [] D0 (fun _ D4 => lcLoop it g cs el own δ l D0 R n (i + 1) D4) [] (D3.set l (.lst (acc ++ [y])))
      else Fgt [] D0 (fun _ D4 => lcLoop it g cs el own δ l D0 R n (i + 1) D4) [] D2

mutual
def semE : Ev → IE → DE
  | Γ, .var i => fun δ D R => ∃ d, δ[i]? = some (some d) ∧ R d D
  | Γ, .int i => fun _ D R => R (.int i) D
  | Γ, .str x => fun _ D R => R (.str x) D
  | Γ, .bl b => fun _ D R => R (.bl b) D
  | Γ, .non => fun _ D R => R .non D
  | Γ, .glo x => fun _ D R => ∃ d, Γ.gl x = some d ∧ R d D
  | _, .tyc t => fun _ D R => R (.ty t.nm) D
  | Γ, .bin o a b => fun δ D R => semE Γ a δ D fun x D1 => semE Γ b δ D1 fun y D2 => boSem o x y D2 R
  | Γ, .neg a => fun δ D R => semE Γ a δ D fun x D1 => ∃ i, x = .int i ∧ R (.int (-i)) D1
  | Γ, .cmp o a b => fun δ D R => semE Γ a δ D fun x D1 => semE Γ b δ D1 fun y D2 => coSem o x y D2 R
  | Γ, .chn o p a b c => fun δ D R => semE Γ a δ D fun x D1 => semE Γ b δ D1 fun y D2 => coSem o x y D2 fun z D3 => ∃ k, z = .bl k ∧
      if k = true then semE Γ c δ D3 fun w D4 => coSem p y w D4 R else R (.bl false) D3
  | Γ, .and a b => fun δ D R => semE Γ a δ D fun x D1 => ∃ k, x = .bl k ∧ if k = true then semE Γ b δ D1 R else R (.bl false) D1
  | Γ, .or a b => fun δ D R => semE Γ a δ D fun x D1 => ∃ k, x = .bl k ∧ if k = true then R (.bl true) D1 else semE Γ b δ D1 R
  | Γ, .not a => fun δ D R => semE Γ a δ D fun x D1 => ∃ k, tru x D1 = some k ∧ R (.bl (!k)) D1
  | Γ, .ite c a b => fun δ D R => semB Γ c δ D fun k D1 => if k = true then semE Γ a δ D1 R else semE Γ b δ D1 R
  | Γ, .tup as => fun δ D R => semEs Γ as δ D fun ds D1 => ds.length ≤ sizeLine ∧ R (.tup ds) D1
  | Γ, .lst as => fun δ D R => semEs Γ as δ D fun ds D1 => ds.length ≤ sizeLine ∧ R (.ref D1.length) (D1 ++ [.lst ds])
  | Γ, .dk0 => fun _ D R => R (.ref D.length) (D ++ [.dk []])
  | Γ, .dt0 => fun _ D R => R (.ref D.length) (D ++ [.dt []])
  | Γ, .dk kvs => fun δ D R => semKv Γ kvs δ (D ++ [.dk []]) fun kvs D1 => D1[D.length]? = some (.dk []) ∧ kvs.length ≤ 15 ∧ R (.ref D.length) (D1.set D.length (.dk (kvs.foldl (fun acc kv => putD acc kv.1 kv.2) [])))
  | Γ, .idx a i => fun δ D R => semE Γ a δ D fun x D1 => semE Γ i δ D1 fun y D2 => ixD x y D2 R
  | Γ, .slc a lo hi => fun δ D R => semE Γ a δ D fun x D1 => semO Γ lo δ D1 fun l D2 => semO Γ hi δ D2 fun h D3 => slD x l h D3 R
  | Γ, .rv k a => fun δ D R => semE Γ a δ D fun x D1 => rvD k x D1 R
  | Γ, .bi f as => fun δ D R => semEs Γ as δ D fun ds D1 => biSem f ds D1 R
  | Γ, .call f as => fun δ D R => ∃ sp, Γ.fn f = some sp ∧ semEs Γ as δ D fun ds D1 => sp ds D1 R fun c p D2 => Γ.ex c p δ D2
  | Γ, .callk f as ks vs perm => fun δ D R => ∃ sp, Γ.fn f = some sp ∧ semEs Γ as δ D fun ds D1 => ds.length = as.len ∧ semEs Γ vs δ D1 fun es D2 => es.length = ks.length ∧ ∃ fs, pickL perm (ds ++ es) = some fs ∧ sp fs D2 R fun c p D3 => Γ.ex c p δ D3
  | Γ, .mt m o as => fun δ D R => semE Γ o δ D fun x D1 => mtTy m x D1 ∧ semEs Γ as δ D1 fun ys D2 => mtSem m x ys D2 R
  | Γ, .lc own tg it cs el => fun δ D R => semI Γ it δ D fun w D1 => ∃ n, lcLoop w (semT Γ.nox tg) (semC Γ.nox cs) (semE Γ.nox el) (own.map (·.2)) δ D1.length (D1 ++ [.lst []]) R n 0 (D1 ++ [.lst []])
def semEs : Ev → IEs → DA
  | Γ, .nil => fun _ D R => R [] D
  | Γ, .cons e es => fun δ D R => semE Γ e δ D fun d D1 => semEs Γ es δ D1 fun ds D2 => R (d :: ds) D2
def semB : Ev → IB → DT
  | Γ, .val a => fun δ D R => semE Γ a δ D fun x D1 => ∃ k, tru x D1 = some k ∧ R k D1
  | Γ, .not a => fun δ D R => semB Γ a δ D fun k D1 => R (!k) D1
  | Γ, .and a b => fun δ D R => semB Γ a δ D fun k D1 => if k = true then semB Γ b δ D1 R else R false D1
  | Γ, .or a b => fun δ D R => semB Γ a δ D fun k D1 => if k = true then R true D1 else semB Γ b δ D1 R
/-- the tests of a comprehension -/
def semC : Ev → IC → DT
  | _, .no => fun _ D R => R true D
  | Γ, .one b => semB Γ b
def semKv : Ev → IKs → DSt → DHp → (List (Key × DV) → DHp → Prop) → Prop
  | Γ, .nil => fun _ D R => R [] D
  | Γ, .cons k v r => fun δ D R => semE Γ k δ D fun x D1 => semE Γ v δ D1 fun y D2 => ∃ q, keyD x = some q ∧ semKv Γ r δ D2 fun r D3 => R ((q, y) :: r) D3
def semO : Ev → IO → DSt → DHp → (Option Int → DHp → Prop) → Prop
  | Γ, .no => fun _ D R => R none D
  | Γ, .some e => fun δ D R => semE Γ e δ D fun x D1 => ∃ i, x = .int i ∧ R (some i) D1
def semI : Ev → II → DI
  | Γ, .of e => fun δ D R => semE Γ e δ D fun x D1 => ∃ w, itOf x D1 = some w ∧ R w D1
  | Γ, .range1 a => fun δ D R => semE Γ a δ D fun x D1 => ∃ j : Int, x = .int j ∧ -(2 ^ 62) ≤ j ∧ j < 2 ^ 62 ∧ R (itRange 0 j.toNat) D1
  | Γ, .range2 a b => fun δ D R => semE Γ a δ D fun x D1 => semE Γ b δ D1 fun y D2 => ∃ i j : Int, x = .int i ∧ y = .int j ∧ (-(2 ^ 62) ≤ i ∧ i < 2 ^ 62 ∧ -(2 ^ 62) ≤ j ∧ j < 2 ^ 62) ∧ R (itRange i (j - i).toNat) D2
  | Γ, .enum e => fun δ D R => semE Γ e δ D fun x D1 => ∃ w, itOf x D1 = some w ∧ R (itEnum w) D1
  | Γ, .zip a b => fun δ D R => semE Γ a δ D fun x D1 => semE Γ b δ D1 fun y D2 => ∃ v w, isTupD x = isTupD y ∧ itOf x D2 = some v ∧ itOf y D2 = some w ∧ R (itZip v w) D2
def semT : Ev → IT → DG
  | Γ, .nm i => fun v δ D R => R (δ.set i (some v)) D
  | Γ, .tp ts => fun v δ D R => ∃ ds, v = .tup ds ∧ ds.length = ts.len ∧ semTs Γ ts ds δ D R
  | Γ, .un ts => fun v δ D R => ∃ i ds, v = .ref i ∧ D[i]? = some (.lst ds) ∧ ds.length = ts.len ∧ semTs Γ ts ds δ D R
  | Γ, .ix o i => fun v δ D R => semE Γ o δ D fun x D1 => semE Γ i δ D1 fun y D2 => ∃ p, x = .ref p ∧
      ((∃ ds k j, D2[p]? = some (.lst ds) ∧ y = .int k ∧ ixN ds.length k = some j ∧ R δ (D2.set p (.lst (ds.set j v)))) ∨ ∃ D3, putS D2 p y v = some D3 ∧ R δ D3)
def semTs : Ev → ITs → DGs
  | Γ, .nil => fun vs δ D R => vs = [] ∧ R δ D
  | Γ, .cons t ts => fun vs δ D R => ∃ v r, vs = v :: r ∧ semT Γ t v δ D fun δ1 D1 => semTs Γ ts r δ1 D1 R
end

mutual
inductive IS where
  | asg (t : IT) (e : IE) | par2 (i j : Nat) (a b : IE) | par3 (i j k : Nat) (a b c : IE)
  | expr (e : IE) | ret (e : IE) | retN | pass | brk | cont
  | ife (c : IB) (a b : ISs)
  | for_ (t : IT) (it : II) (b : ISs)
  | while_ (c : IB) (b : ISs)
inductive ISs where
  | nil | cons (s : IS) (ss : ISs)
end
def forLoop (it : DIt) (g : DG) (b : DS) (F : DEnds) (d0 : DSt) (D0 : DHp) : Nat → Nat → DSt → DHp → Prop
  | 0, _, _, _ => False
  | n + 1, i, δ, D => ∃ r, it i D = some r ∧ match r with
    | none => F.nx δ D
    | some x => g x δ D fun δ1 D1 => b { F with nx := Fgt d0 D0 (forLoop it g b F d0 D0 n (i + 1)), ct := Fgt d0 D0 (forLoop it g b F d0 D0 n (i + 1)), bk := F.nx } δ1 D1
def whileLoop (c : DT) (b : DS) (F : DEnds) (d0 : DSt) (D0 : DHp) : Nat → DSt → DHp → Prop
  | 0, _, _ => False
  | n + 1, δ, D => c δ D fun k D1 => if k = true then b { F with nx := Fgt d0 D0 (whileLoop c b F d0 D0 n), ct := Fgt d0 D0 (whileLoop c b F d0 D0 n), bk := F.nx } δ D1 else F.nx δ D1
mutual
def semS (Γ : Ev) : IS → DS
  | .asg t e => fun F δ D => semE Γ e δ D fun x D1 => semT Γ t x δ D1 F.nx
  | .par2 i j a b => fun F δ D => semE Γ a δ D fun x D1 => semE Γ b δ D1 fun y D2 => F.nx ((δ.set i (some x)).set j (some y)) D2
  | .par3 i j k a b c => fun F δ D => semE Γ a δ D fun x D1 => semE Γ b δ D1 fun y D2 => semE Γ c δ D2 fun z D3 => F.nx (((δ.set i (some x)).set j (some y)).set k (some z)) D3
  | .expr e => fun F δ D => semE Γ e δ D fun _ D1 => F.nx δ D1
  | .ret e => fun F δ D => semE Γ e δ D F.rt
  | .retN => fun F _ D => F.rt .non D
  | .pass => fun F δ D => F.nx δ D
  | .brk => fun F δ D => F.bk δ D
  | .cont => fun F δ D => F.ct δ D
  | .ife c a b => fun F δ D => semB Γ c δ D fun k D1 => if k = true then semSs Γ a F δ D1 else semSs Γ b F δ D1
  | .for_ t it b => fun F δ D => semI Γ it δ D fun w D1 => ∃ n, forLoop w (semT Γ t) (semSs Γ b) F δ D1 n 0 δ D1
  | .while_ c b => fun F δ D => ∃ n, whileLoop (semB Γ c) (semSs Γ b) F δ D n δ D
def semSs (Γ : Ev) : ISs → DS
  | .nil => fun F δ D => F.nx δ D
  | .cons s ss => fun F δ D => semS Γ s { F with nx := semSs Γ ss F } δ D
end
end Dl
set_option Elab.async false
set_option linter.all false
set_option maxRecDepth 100000
set_option maxHeartbeats 4000000
namespace Dl
open PySem PySem.Spec PyProof.Rows L2

section
variable {K : PySem.W.Frag} {ro : List Addr} {H : Hp} {D : DHp} {R : DR} {Q : VK}
theorem pre_refl {ro : List Addr} : Pre ro ro := List.prefix_refl _
theorem Post.here (po : Post K ro H R Q) (hr : HR K ro D H) {d : DV} {v : V} (vr : VR K ro H d v) (q : R d D) : Q v H := po ro d D v H pre_refl (Ext.refl H) hr vr q
theorem Post.obj (po : Post K ro H R Q) (hr : HR K ro D H) {p : Addr} {o : HO} {d : DO} (n : H p = none) (q : OR K (ro ++ [p]) (upd H p o) p d) (r : R (.ref D.length) (D ++ [d])) : Q (.ref p) (upd H p o) :=
  po (ro ++ [p]) _ _ _ _ (List.prefix_append _ _) (Ext.new n) (hr.new n q) (by simp only [VR]; exact ⟨p, by rw [← hr.len]; simp, rfl⟩) r
theorem Post.lst (po : Post K ro H R Q) (hr : HR K ro D H) {p : Addr} {ds : List DV} {vs : List V} (n : H p = none) (q : VRs K ro H ds vs) (r : R (.ref D.length) (D ++ [.lst ds])) : Q (.ref p) (upd H p (.lst vs)) :=
  po.obj (d := .lst ds) hr n ⟨vs, upd_same, q.stay (List.prefix_append _ _) (Ext.new n)⟩ r
theorem Post.tup (po : Post K ro H R Q) (hr : HR K ro D H) {p : Addr} {ds : List DV} {vs : List V} (n : H p = none) (q : VRs K ro H ds vs) (r : R (.tup ds) D) : Q (.ref p) (upd H p (.tup vs)) :=
  po ro _ _ _ _ pre_refl (Ext.new n) (hr.junk n) (by simp only [VR]; exact ⟨p, vs, rfl, upd_same, q.stay pre_refl (Ext.new n)⟩) r
theorem Post.set (po : Post K ro H R Q) (hr : HR K ro D H) {i : Nat} {a : Addr} {o : HO} {d : DO} {x : DV} {v : V} (e : ro[i]? = some a) (q : OR K ro (upd H a o) a d) (vr : VR K ro H x v) (r : R x (D.set i d)) : Q v (upd H a o) :=
  po ro _ _ _ _ pre_refl (hr.extSet e) (hr.set e q) (vr.stay pre_refl (hr.extSet e)) r
theorem HR.lst (hr : HR K ro D H) {i : Nat} {ds : List DV} {v : V} (e : D[i]? = some (.lst ds)) (vr : VR K ro H (.ref i) v) : ∃ a vs, v = .ref a ∧ ro[i]? = some a ∧ H a = some (.lst vs) ∧ VRs K ro H ds vs := by
  simp only [VR] at vr
  obtain ⟨a, e1, rfl⟩ := vr
  obtain ⟨vs, h1, h2⟩ := hr.ob i _ a e e1
  exact ⟨a, vs, rfl, e1, h1, h2⟩
theorem HR.dk (hr : HR K ro D H) {i : Nat} {ds : List (Key × DV)} {v : V} (e : D[i]? = some (.dk ds)) (vr : VR K ro H (.ref i) v) : ∃ a vs, v = .ref a ∧ ro[i]? = some a ∧ H a = some (.dK vs) ∧ KR K ro H ds vs := by
  simp only [VR] at vr
  obtain ⟨a, e1, rfl⟩ := vr
  obtain ⟨vs, h1, h2⟩ := hr.ob i _ a e e1
  exact ⟨a, vs, rfl, e1, h1, h2⟩
theorem HR.dt (hr : HR K ro D H) {i : Nat} {ds : List (List Key × DV)} {v : V} (e : D[i]? = some (.dt ds)) (vr : VR K ro H (.ref i) v) : ∃ a vs, v = .ref a ∧ ro[i]? = some a ∧ H a = some (.dT vs) ∧ KR K ro H ds vs := by
  simp only [VR] at vr
  obtain ⟨a, e1, rfl⟩ := vr
  obtain ⟨vs, h1, h2⟩ := hr.ob i _ a e e1
  exact ⟨a, vs, rfl, e1, h1, h2⟩
theorem VR.tupH {ds : List DV} {v : V} (vr : VR K ro H (.tup ds) v) : ∃ a vs, v = .ref a ∧ H a = some (.tup vs) ∧ VRs K ro H ds vs := by simpa only [VR] using vr
theorem VR.tupD {ds : List DV} {v : V} (vr : VR K ro H (.tup ds) v) : ∃ a vs, v = .ref a ∧ SqT K H a vs ∧ VRs K ro H ds vs :=
  let ⟨a, vs, h1, h2, h3⟩ := vr.tupH
  ⟨a, vs, h1, SqT.of h2, h3⟩
theorem VR.frlD {ns : List Int} {v : V} (vr : VR K ro H (.frl ns) v) : ∃ a, v = .ref a ∧ SqL K H a (ns.map V.int) := by
  simp only [VR] at vr
  obtain ⟨a, h1, h2⟩ := vr
  exact ⟨a, h1, h2.seq⟩
/-- a list or a tuple -/
theorem HR.items (hr : HR K ro D H) {d : DV} {ds : List DV} {v : V} (e : itemsD d D = some ds) (vr : VR K ro H d v) : ∃ a vs, v = .ref a ∧ (SqL K H a vs ∨ SqT K H a vs) ∧ VRs K ro H ds vs := by
  cases d with
  | tup es =>
    cases (show some es = some ds from e)
    obtain ⟨a, vs, h1, h2, h3⟩ := vr.tupD
    exact ⟨a, vs, h1, .inr h2, h3⟩
  | frl ns =>
    cases (show some (ns.map DV.int) = some ds from e)
    obtain ⟨a, h1, h2⟩ := vr.frlD
    exact ⟨a, _, h1, .inl h2, VRs.ofInts⟩
  | ref i =>
    cases q : D[i]? with
    | none => simp only [itemsD, q] at e; cases e
    | some o =>
      simp only [itemsD, q] at e
      cases o with
      | lst es =>
        cases e
        obtain ⟨a, vs, h1, h2, h3, h4⟩ := hr.lst q vr
        exact ⟨a, vs, h1, .inl (SqL.of h3), h4⟩
      | _ => cases e
  | _ => cases e
end
theorem toInts_eq : ∀ {ds : List DV} {ns : List Int}, toInts ds = some ns → ds = ns.map DV.int
  | [], ns, h => by cases h; rfl
  | d :: r, ns, h => by
    cases d with
    | int i =>
      have h' : (toInts r).map (fun s => i :: s) = some ns := h
      cases q : toInts r with
      | none => rw [q] at h'; cases h'
      | some s => rw [q] at h'; cases h'; rw [toInts_eq q]; rfl
    | _ => cases h
theorem toInts_ints : ∀ ns : List Int, toInts (ns.map DV.int) = some ns
  | [] => rfl
  | n :: r => by
    show (toInts (r.map DV.int)).map (fun s => n :: s) = _
    rw [toInts_ints r]; rfl
theorem cutL_V {K : PySem.W.Frag} {ro : List Addr} {H : Hp} {ds : List DV} {vs : List V} (h : VRs K ro H ds vs) (lo hi : Option Int) : VRs K ro H (cutL ds lo hi) (cutV vs lo hi) := by
  unfold cutL cutV
  rw [h.length]
  exact (h.drop _).take _
theorem VRs.rep {K : PySem.W.Frag} {ro : List Addr} {H : Hp} {ds : List DV} {vs : List V} (h : VRs K ro H ds vs) : ∀ k : Nat, VRs K ro H (rep k ds) (List.replicate k vs).flatten
  | 0 => VRs.nil
  | k + 1 => by
    unfold Dl.rep
    rw [List.replicate_succ, List.replicate_succ, List.flatten_cons, List.flatten_cons]
    exact h.append (VRs.rep h k)

section
variable {X : Cx}
theorem bo_ok (o : BO) : OpR X (binaryOp o.op) (lift2 X.K (boSem o)) := by
  intro pins s σ H x y v u Q I rx ry h
  obtain ⟨ro, D, d, e, R, hr, vd, ve, q, po⟩ := h
  cases d with
  | int i =>
    simp only [VR] at vd
    subst vd
    cases e with
    | int j =>
      simp only [VR] at ve
      subst ve
      cases o with
      | add => exact op_add pins s σ H _ _ v u Q I rx ry ⟨i, j, rfl, rfl, po.here hr (by simp only [VR]) q⟩
      | sub => exact op_sub pins s σ H _ _ v u Q I rx ry ⟨i, j, rfl, rfl, po.here hr (by simp only [VR]) q⟩
      | mul =>
        obtain ⟨c, q⟩ : MulOk i j ∧ R (.int (i * j)) D := q
        rcases c with c | c
        · exact op_mul pins s σ H _ _ v u Q I rx ry ⟨i, j, rfl, rfl, c, po.here hr (by simp only [VR]) q⟩
        · exact op_mulW pins s σ H _ _ v u Q I rx ry ⟨i, j, rfl, rfl, c, po.here hr (by simp only [VR]) q⟩
      | fdiv =>
        obtain ⟨c, q⟩ : CDivN i j ∧ R (.int (i.fdiv j)) D := q
        exact op_fdivN pins s σ H _ _ v u Q I rx ry ⟨i, j, rfl, rfl, c, po.here hr (by simp only [VR]) q⟩
      | mod =>
        obtain ⟨c, q⟩ : j ≠ 0 ∧ R (.int (i.fmod j)) D := q
        exact op_modN pins s σ H _ _ v u Q I rx ry ⟨i, j, rfl, rfl, c, po.here hr (by simp only [VR]) q⟩
      | pow =>
        obtain ⟨c, q⟩ : CPow i j ∧ R (.int (i ^ j.toNat)) D := q
        exact op_pow pins s σ H _ _ v u Q I rx ry ⟨i, j, rfl, rfl, c, po.here hr (by simp only [VR]) q⟩
      | shl =>
        obtain ⟨c, q⟩ : CPow i j ∧ R (.int (i * 2 ^ j.toNat)) D := q
        exact op_shl pins s σ H _ _ v u Q I rx ry ⟨i, j, rfl, rfl, c, po.here hr (by simp only [VR]) q⟩
      | shr =>
        obtain ⟨c, q⟩ : 0 ≤ j ∧ R (.int (i / 2 ^ j.toNat)) D := q
        exact op_shr pins s σ H _ _ v u Q I rx ry ⟨i, j, rfl, rfl, c, po.here hr (by simp only [VR]) q⟩
      | band => exact op_and pins s σ H _ _ v u Q I rx ry ⟨i, j, rfl, rfl, po.here hr (by simp only [VR]) q⟩
      | bor => exact op_or pins s σ H _ _ v u Q I rx ry ⟨i, j, rfl, rfl, po.here hr (by simp only [VR]) q⟩
      | bxor => exact op_xor pins s σ H _ _ v u Q I rx ry ⟨i, j, rfl, rfl, po.here hr (by simp only [VR]) q⟩
    | _ => cases o <;> exact False.elim q
  | str i =>
    simp only [VR] at vd
    subst vd
    cases e with
    | str j =>
      simp only [VR] at ve
      subst ve
      cases o with
      | add =>
        obtain ⟨c, q⟩ : i.length + j.length ≤ sizeLine ∧ R (.str (i ++ j)) D := q
        exact op_add_str pins s σ H _ _ v u Q I rx ry ⟨i, j, rfl, rfl, c, po.here hr (by simp only [VR]) q⟩
      | _ => exact False.elim q
    | _ => cases o <;> exact False.elim q
  | tup as =>
    cases e with
    | tup bs =>
      cases o with
      | add =>
        obtain ⟨c, q⟩ : as.length + bs.length ≤ sizeLine ∧ R (.tup (as ++ bs)) D := q
        obtain ⟨a, vs, rfl, h1, h2⟩ := vd.tupD
        obtain ⟨b, ws, rfl, h3, h4⟩ := ve.tupD
        refine op_catA pins s σ H _ _ v u Q I rx ry ⟨a, b, vs, ws, rfl, rfl, h1, h3, by rw [← h2.length, ← h4.length]; exact c, fun z => ?_, fun _ z => ?_, fun _ _ p np => ?_⟩
        · subst z
          have e0 : as = [] := List.eq_nil_of_length_eq_zero (by rw [h2.length]; rfl)
          subst e0
          exact po.here hr ve q
        · subst z
          have e0 : bs = [] := List.eq_nil_of_length_eq_zero (by rw [h4.length]; rfl)
          subst e0
          rw [List.append_nil] at q
          exact po.here hr vd q
        · exact po.tup hr np (h2.append h4) q
      | _ => exact False.elim q
    | _ => cases o <;> exact False.elim q
  | ref i =>
    cases e with
    | ref j =>
      cases o with
      | add =>
        obtain ⟨xs, ys, e1, e2, c, q⟩ : ∃ xs ys, D[i]? = some (.lst xs) ∧ D[j]? = some (.lst ys) ∧ xs.length + ys.length ≤ sizeLine ∧ R (.ref D.length) (D ++ [DO.lst (xs ++ ys)]) := q
        obtain ⟨a, vs, rfl, _, h1, h2⟩ := hr.lst e1 vd
        obtain ⟨b, ws, rfl, _, h3, h4⟩ := hr.lst e2 ve
        exact op_cat pins s σ H _ _ v u Q I rx ry ⟨a, b, vs, ws, rfl, rfl, h1, h3, by rw [← h2.length, ← h4.length]; exact c, fun p np => po.lst hr np (h2.append h4) q⟩
      | _ => exact False.elim q
    | int k =>
      cases o with
      | mul =>
        obtain ⟨xs, e1, c1, c2, c3, q⟩ : ∃ xs, D[i]? = some (.lst xs) ∧ -(2 ^ 63) ≤ k ∧ k < 2 ^ 63 ∧ xs.length * k.toNat ≤ sizeLine ∧ R (.ref D.length) (D ++ [DO.lst (Dl.rep k.toNat xs)]) := q
        obtain ⟨a, vs, rfl, _, h1, h2⟩ := hr.lst e1 vd
        simp only [VR] at ve
        subst ve
        exact op_rep pins s σ H _ _ v u Q I rx ry ⟨a, k, vs, rfl, rfl, h1, c1, c2, by rw [← h2.length]; exact c3, fun p np => po.lst hr np (h2.rep _) q⟩
      | _ => exact False.elim q
    | _ => cases o <;> exact False.elim q
  | _ => cases o <;> cases e <;> exact False.elim q

theorem un_ok : UnR X (unaryOp .USub) (lift1 X.K fun x D R => ∃ i, x = .int i ∧ R (.int (-i)) D) := by
  intro pins s σ H x v Q I rx h
  obtain ⟨ro, D, d, R, hr, vd, ⟨i, rfl, q⟩, po⟩ := h
  simp only [VR] at vd
  subst vd
  exact un_neg pins s σ H _ v Q I rx ⟨i, rfl, po.here hr (by simp only [VR]) q⟩
end
end Dl
set_option Elab.async false
set_option linter.all false
set_option maxRecDepth 100000
set_option maxHeartbeats 4000000
namespace Dl
open PySem PySem.Spec PyProof.Rows L2

/-! ### data in the heap -/
/-- where the interpreter keeps its modules: a dict of the ground -/
def SysOk (base : Heap) : Prop := ∃ o es ep, base.get? sysModules = some o ∧ o.data = .dict es ep
section
variable {X : Cx} {pins : List (Addr × Obj)} {σ : L2.St} {H : Hp} {s : Shared}
theorem sys_ne (I : Inv X pins σ H s) (sy : SysOk X.base) {a : Addr} {o : HO} (h : H a = some o) : a ≠ sysModules := by
  obtain ⟨o', es, ep, e, _⟩ := sy
  intro z
  subst z
  have := (I.bs _ _ e).2
  rw [this] at h; cases h
theorem sys_neL (I : Inv X pins σ H s) (sy : SysOk X.base) {a : Addr} {xs : List V} (h : SqL X.K H a xs) : a ≠ sysModules := by
  obtain ⟨o', es, ep, e, d⟩ := sy
  intro z
  subst z
  obtain ⟨its, _, ⟨o, n, e2, _, _, d2⟩, _⟩ := I.list h
  have e3 := I.bk _ _ e
  rw [e2] at e3; cases e3
  rw [d] at d2; cases d2

def RdOk (h : Heap) (u : Value) (a : PyData) : Prop := ∃ as, Reads h u a as ∧ sysModules ∉ as
def RdsOk (h : Heap) (us : List Value) (a : List PyData) : Prop := ∃ as, ReadsAll h us a as ∧ sysModules ∉ as
theorem RdsOk.cons {h : Heap} {u : Value} {a : PyData} {us : List Value} {b : List PyData} (x : RdOk h u a) (y : RdsOk h us b) : RdsOk h (u :: us) (a :: b) := by
  obtain ⟨as, h1, h2⟩ := x
  obtain ⟨bs, h3, h4⟩ := y
  exact ⟨as ++ bs, .cons h1 h3, by simp [h2, h4]⟩
theorem readsAll_ints {h : Heap} : ∀ {ns : List Int} {us : List Value}, Vals (ns.map V.int) us → ReadsAll h us (ns.map .int) []
  | [], _, .nil => .nil
  | n :: ns, _, .cons r t => by
    obtain ⟨t', rfl⟩ := r
    exact ReadsAll.cons (as := []) (.int n t') (readsAll_ints t)
mutual
theorem reads_F (I : Inv X pins σ H s) (sy : SysOk X.base) {ro : List Addr} {g : Nat → Option PyData}
    (hg : ∀ i a v u, g i = some a → VR X.K ro H (.ref i) v → RelV v u → RdOk s.heap u a) :
    ∀ (d : DV) (a : PyData) (v : V) (u : Value), pyF g d = some a → VR X.K ro H d v → RelV v u → RdOk s.heap u a
  | .non, a, v, u, e, vr, r => by
    simp only [pyF] at e; cases e
    simp only [VR] at vr; subst vr; cases r
    exact ⟨[], .none, by simp⟩
  | .bl b, a, v, u, e, vr, r => by
    simp only [pyF] at e; cases e
    simp only [VR] at vr; subst vr; cases r
    exact ⟨[], .bool b, by simp⟩
  | .int i, a, v, u, e, vr, r => by
    simp only [pyF] at e; cases e
    simp only [VR] at vr; subst vr
    obtain ⟨t, rfl⟩ := r
    exact ⟨[], .int i t, by simp⟩
  | .str i, a, v, u, e, vr, r => by
    simp only [pyF] at e; cases e
    simp only [VR] at vr; subst vr
    obtain ⟨t, rfl⟩ := r
    exact ⟨[], .str i t, by simp⟩
  | .ty _, a, v, u, e, vr, r => by simp only [pyF] at e; cases e
  | .obj _, a, v, u, e, vr, r => by simp only [pyF] at e; cases e
  | .ref i, a, v, u, e, vr, r => hg i a v u (by simpa only [pyF] using e) vr r
  | .frl ns, a, v, u, e, vr, r => by
    simp only [pyF] at e; cases e
    obtain ⟨p, rfl, h⟩ := vr.frlD
    cases r
    obtain ⟨its, rv, ⟨o, n, e1, c, _, dd⟩, _⟩ := I.list h
    exact ⟨[p], .list e1 c dd (by simpa using readsAll_ints rv), by simpa using (sys_neL I sy h).symm⟩
  | .tup ds, a, v, u, e, vr, r => by
    simp only [pyF] at e
    obtain ⟨xs, e1, e2⟩ := Option.map_eq_some_iff.mp e
    subst e2
    obtain ⟨p, vs, rfl, h1, h2⟩ := vr.tupD
    cases r
    obtain ⟨its, rv, ⟨o, e3, c, n, dd⟩, _⟩ := I.tuple h1
    obtain ⟨as, h3, h4⟩ := reads_Fs I sy hg ds xs vs its e1 h2 rv
    exact ⟨as, .tuple e3 c dd (by simpa using h3), h4⟩
theorem reads_Fs (I : Inv X pins σ H s) (sy : SysOk X.base) {ro : List Addr} {g : Nat → Option PyData}
    (hg : ∀ i a v u, g i = some a → VR X.K ro H (.ref i) v → RelV v u → RdOk s.heap u a) :
    ∀ (ds : List DV) (as : List PyData) (vs : List V) (us : List Value), pyFs g ds = some as → VRs X.K ro H ds vs → Vals vs us → RdsOk s.heap us as
  | [], as, vs, us, e, vr, r => by
    simp only [pyFs] at e; cases e
    rw [vr.nil_inv] at r; cases r
    exact ⟨[], .nil, by simp⟩
  | d :: ds, as, vs, us, e, vr, r => by
    simp only [pyFs] at e
    obtain ⟨a, e1, e2⟩ := Option.bind_eq_some_iff.mp e
    obtain ⟨b, e3, e4⟩ := Option.map_eq_some_iff.mp e2
    subst e4
    obtain ⟨v, w, rfl, h1, h2⟩ := vr.cons_inv
    cases r with
    | cons r1 r2 => exact RdsOk.cons (reads_F I sy hg d a v _ e1 h1 r1) (reads_Fs I sy hg ds b w _ e3 h2 r2)
end
theorem reads_key {h : Heap} {k : Key} {u : Value} (e : keyIs k u = true) : RdOk h u (keyP k) := by
  rcases keyIs_shape e with ⟨i, t, rfl, rfl⟩ | ⟨x, t, rfl, rfl⟩
  · exact ⟨[], .int i t, by simp⟩
  · exact ⟨[], .str x t, by simp⟩
theorem reads_kv (I : Inv X pins σ H s) (sy : SysOk X.base) {ro : List Addr} {g : Nat → Option PyData}
    (hg : ∀ i a v u, g i = some a → VR X.K ro H (.ref i) v → RelV v u → RdOk s.heap u a) :
    ∀ (kvs : List (Key × DV)) (as : List (PyData × PyData)) (ws : List (Key × V)) (vs : List (Key × Value)) (es : List DictEntry),
      pyKv g kvs = some as → KR X.K ro H kvs ws → KV ws vs → Pairs (mixKind X.prog X.w) es vs → RdsOk s.heap (es.map (·.key)) (as.map (·.1)) ∧ RdsOk s.heap (es.map (·.val)) (as.map (·.2))
  | [], as, ws, vs, es, e, kr, kv, p => by
    simp only [pyKv] at e; cases e
    cases kr; cases kv; cases p
    exact ⟨⟨[], .nil, by simp⟩, ⟨[], .nil, by simp⟩⟩
  | (k, d) :: r, as, ws, vs, es, e, kr, kv, p => by
    simp only [pyKv] at e
    obtain ⟨a, e1, e2⟩ := Option.bind_eq_some_iff.mp e
    obtain ⟨b, e3, e4⟩ := Option.map_eq_some_iff.mp e2
    subst e4
    cases kr with
    | @cons _ q _ _ h1 h2 =>
      obtain ⟨k', v⟩ := q
      obtain ⟨rfl, vr⟩ := h1
      cases kv with
      | @cons _ q2 _ _ h3 h4 =>
        obtain ⟨k2, u⟩ := q2
        obtain ⟨rfl, rv⟩ := h3
        cases p with
        | cons h5 h6 h7 =>
          obtain ⟨i1, i2⟩ := reads_kv I sy hg r b _ _ _ e3 h2 h4 h7
          refine ⟨RdsOk.cons (reads_key h5) i1, ?_⟩
          have z := reads_F I sy hg d a v u e1 vr rv
          have h6' : _ = u := h6
          rw [← h6'] at z
          exact RdsOk.cons z i2
theorem reads_G (I : Inv X pins σ H s) (sy : SysOk X.base) {ro : List Addr} {D : DHp} (hr : HR X.K ro D H) :
    ∀ (n i : Nat) (a : PyData) (v : V) (u : Value), pyG n D i = some a → VR X.K ro H (.ref i) v → RelV v u → RdOk s.heap u a
  | 0, i, a, v, u, e, vr, r => by simp only [pyG] at e; cases e
  | n + 1, i, a, v, u, e, vr, r => by
    have ih := reads_G I sy hr n
    simp only [pyG] at e
    cases q : D[i]? with
    | none => simp only [q] at e; cases e
    | some o =>
      cases o with
      | lst ds =>
        simp only [q] at e
        obtain ⟨xs, e1, e2⟩ := Option.map_eq_some_iff.mp e
        subst e2
        obtain ⟨p, vs, rfl, _, h1, h2⟩ := hr.lst q vr
        cases r
        obtain ⟨z, its, m, rv, _, e3⟩ := I.lstM h1
        obtain ⟨as, h3, h4⟩ := reads_Fs I sy ih ds xs vs its e1 h2 rv
        exact ⟨p :: as, .list e3 rfl rfl (by simpa using h3), by simp [h4]; exact (sys_ne I sy h1).symm⟩
      | dk kvs =>
        simp only [q] at e
        obtain ⟨xs, e1, e2⟩ := Option.map_eq_some_iff.mp e
        subst e2
        obtain ⟨p, ws, rfl, _, h1, h2⟩ := hr.dk q vr
        cases r
        obtain ⟨z, hs, vs, kv, ob, es, ep, e3, ex, dd, _, pr, _⟩ := I.hok p _ h1
        obtain ⟨⟨b1, i1, j1⟩, ⟨b2, i2, j2⟩⟩ := reads_kv I sy ih kvs xs ws vs es.toList e1 h2 kv pr
        exact ⟨p :: b1 ++ b2, .dict e3 ex.1 dd i1 i2, by simp [j1, j2]; exact (sys_ne I sy h1).symm⟩
      | _ => simp only [q] at e; cases e
theorem py_reads (I : Inv X pins σ H s) (sy : SysOk X.base) {ro : List Addr} {D : DHp} (hr : HR X.K ro D H) {n : Nat} {d : DV} {a : PyData} {v : V} {u : Value}
    (e : py n D d = some a) (vr : VR X.K ro H d v) (r : RelV v u) : RdOk s.heap u a := reads_F I sy (reads_G I sy hr n) d a v u e vr r
end

/-! ### ==, != -/
section
variable {X : Cx}
theorem eq_okN (neg : Bool) (hu : X.A.units + 64 < cLine) (sy : SysOk X.base) : OpR X (compareOp (if neg then .NotEq else .Eq)) (lift2 X.K (eqS neg)) := by
  intro pins s σ H x y v u Q I rx ry h
  obtain ⟨ro, D, d, e, R, hr, vd, ve, ⟨i, j, rfl, rfl, q⟩ | ⟨n, a, b, e1, e2, s1, s2, q⟩, po⟩ := h
  · simp only [VR] at vd ve
    subst vd; subst ve
    have ed : decide (V.str i = V.str j) = decide (i = j) := by by_cases z : i = j <;> simp [z]
    cases neg with
    | false => exact op_eq pins s σ H _ _ v u Q I rx ry ⟨rfl, po.here hr (d := .bl (decide (i = j))) (by simp only [VR, ed]) q⟩
    | true => exact op_ne pins s σ H _ _ v u Q I rx ry ⟨rfl, po.here hr (d := .bl (!decide (i = j))) (by simp only [VR, ed]) q⟩
  obtain ⟨as, r1, _⟩ := py_reads I sy hr e1 vd rx
  obtain ⟨bs, r2, _⟩ := py_reads I sy hr e2 ve ry
  cases neg with
  | false => exact SeqAt.compareEq_shaped r1 r2 s1 s2 hu ⟨.bl _, H, I, rfl, po.here hr (show VR X.K ro H (.bl _) _ from by simp only [VR]; rfl) q⟩
  | true => exact SeqAt.compareNe_shaped r1 r2 s1 s2 hu ⟨.bl _, H, I, rfl, po.here hr (show VR X.K ro H (.bl _) _ from by simp only [VR]; rfl) q⟩

theorem nonV {K : PySem.W.Frag} {ro : List Addr} {H : Hp} {d : DV} {v : V} (h : VR K ro H d v) : decide (v = .non) = isNon d := by
  cases d <;> simp only [VR] at h
  case ref i => obtain ⟨a, _, rfl⟩ := h; rfl
  case frl i => obtain ⟨a, rfl, _⟩ := h; rfl
  case tup i => obtain ⟨a, _, rfl, _⟩ := h; rfl
  all_goals (subst h; rfl)

/-! ### in -/
theorem flat_V {K : PySem.W.Frag} {ro : List Addr} {H : Hp} {d : DV} {v : V} (f : flatD d = true) (h : VR K ro H d v) : flatV v = true := by
  cases d <;> first | (exact absurd (show false = true from f) Bool.false_ne_true) | (simp only [VR] at h; subst h; rfl)
theorem flat_all {K : PySem.W.Frag} {ro : List Addr} {H : Hp} : ∀ {ds : List DV} {vs : List V}, ds.all flatD = true → VRs K ro H ds vs → vs.all flatV = true
  | [], _, _, h => by rw [h.nil_inv]; rfl
  | d :: ds, _, f, h => by
    obtain ⟨v, r, rfl, h1, h2⟩ := h.cons_inv
    simp only [List.all_cons, Bool.and_eq_true] at f ⊢
    exact ⟨flat_V f.1 h1, flat_all f.2 h2⟩
theorem eqF_V {K : PySem.W.Frag} {ro : List Addr} {H : Hp} {d e : DV} {v w : V} (f : flatD d = true) (g : flatD e = true) (h : VR K ro H d v) (k : VR K ro H e w) : eqV v w = eqF d e := by
  cases d <;> first | (exact absurd (show false = true from f) Bool.false_ne_true) | skip
  all_goals (cases e <;> first | (exact absurd (show false = true from g) Bool.false_ne_true) | skip)
  all_goals (simp only [VR] at h k; subst h; subst k; first | rfl | simp [eqV, eqF])
theorem inF_V {K : PySem.W.Frag} {ro : List Addr} {H : Hp} {d : DV} {v : V} (f : flatD d = true) (h : VR K ro H d v) : ∀ {ds : List DV} {vs : List V}, ds.all flatD = true → VRs K ro H ds vs → inV v vs = inF d ds
  | [], _, _, k => by rw [k.nil_inv]; rfl
  | e :: ds, _, g, k => by
    obtain ⟨w, r, rfl, h1, h2⟩ := k.cons_inv
    simp only [List.all_cons, Bool.and_eq_true] at g
    show (eqV w v || inV v r) = (eqF e d || inF d ds)
    rw [eqF_V g.1 f h1 h, inF_V f h g.2 h2]
end
end Dl
set_option Elab.async false
set_option linter.all false
set_option maxRecDepth 100000
set_option maxHeartbeats 4000000
namespace Dl
open PySem PySem.Spec PyProof.Rows L2

/-! ### dicts -/
section
variable {K : PySem.W.Frag} {ro : List Addr} {H : Hp} {κ : Type} [DecidableEq κ]
theorem KR.val {kvs : List (κ × DV)} {ws : List (κ × V)} (h : KR K ro H kvs ws) (k : κ) : (valD kvs k = none ∧ valV ws k = none) ∨ ∃ d v, valD kvs k = some d ∧ valV ws k = some v ∧ VR K ro H d v := by
  induction h with
  | nil => exact .inl ⟨rfl, rfl⟩
  | @cons p q _ _ r t ih =>
    obtain ⟨k1, d⟩ := p
    obtain ⟨k2, v⟩ := q
    obtain ⟨e, vr⟩ := r
    simp only at e vr
    subst e
    by_cases z : k1 = k
    · exact .inr ⟨d, v, by simp [valD, z], by simp [valV, z], vr⟩
    · simpa [valD, valV, z] using ih
theorem KR.any {kvs : List (κ × DV)} {ws : List (κ × V)} (h : KR K ro H kvs ws) (k : κ) : (kvs.any fun kv => decide (kv.1 = k)) = ws.any fun kv => decide (kv.1 = k) := by
  induction h with
  | nil => rfl
  | @cons p q _ _ r t ih => rw [List.any_cons, List.any_cons, ih, r.1]
theorem KR.mapPut {kvs : List (κ × DV)} {ws : List (κ × V)} (h : KR K ro H kvs ws) (k : κ) {d : DV} {v : V} (vr : VR K ro H d v) :
    KR K ro H (kvs.map fun kv => if kv.1 = k then (kv.1, d) else kv) (ws.map fun kv => if kv.1 = k then (kv.1, v) else kv) := by
  induction h with
  | nil => exact .nil
  | @cons p q _ _ r t ih =>
    refine .cons ?_ ih
    by_cases z : p.1 = k
    · have z2 : q.1 = k := r.1 ▸ z
      simp only [z, z2, if_true]
      exact ⟨trivial, vr⟩
    · have z2 : ¬ q.1 = k := fun e => z (r.1.trans e)
      simp only [z, z2, if_false]
      exact r
theorem KR.snoc {kvs : List (κ × DV)} {ws : List (κ × V)} (h : KR K ro H kvs ws) (k : κ) {d : DV} {v : V} (vr : VR K ro H d v) : KR K ro H (kvs ++ [(k, d)]) (ws ++ [(k, v)]) := Paired.snoc h ⟨rfl, vr⟩
theorem KR.put {kvs : List (κ × DV)} {ws : List (κ × V)} (h : KR K ro H kvs ws) (k : κ) {d : DV} {v : V} (vr : VR K ro H d v) : KR K ro H (putD kvs k d) (putK ws k v) := by
  unfold putD putK
  rw [h.any k]
  split
  · exact h.mapPut k vr
  · exact h.snoc k vr
theorem KR.len {kvs : List (κ × DV)} {ws : List (κ × V)} (h : KR K ro H kvs ws) : kvs.length = ws.length := Paired.length h
end
theorem keyD_V {K : PySem.W.Frag} {ro : List Addr} {H : Hp} {d : DV} {k : Key} {v : V} (e : keyD d = some k) (vr : VR K ro H d v) : v = kV k := by
  cases d with
  | int i => cases e; simp only [VR] at vr; exact vr
  | str x => cases e; simp only [VR] at vr; exact vr
  | _ => cases e
theorem keysD_V {K : PySem.W.Frag} {ro : List Addr} {H : Hp} : ∀ {ds : List DV} {ks : List Key} {vs : List V}, keysD ds = some ks → VRs K ro H ds vs → vs = ks.map kV
  | [], ks, vs, e, vr => by cases e; exact vr.nil_inv
  | d :: ds, ks, vs, e, vr => by
    simp only [keysD] at e
    obtain ⟨k, e1, e2⟩ := Option.bind_eq_some_iff.mp e
    obtain ⟨r, e3, e4⟩ := Option.map_eq_some_iff.mp e2
    subst e4
    obtain ⟨v, w, rfl, h1, h2⟩ := vr.cons_inv
    rw [keyD_V e1 h1, keysD_V e3 h2]; rfl
/-- o1 of data is o2 of values -/
def OV (K : PySem.W.Frag) (ro : List Addr) (H : Hp) : Option DV → Option V → Prop
  | none, none => True
  | some d, some v => VR K ro H d v
  | _, _ => False
theorem OV.isSome {K : PySem.W.Frag} {ro : List Addr} {H : Hp} {o : Option DV} {p : Option V} (h : OV K ro H o p) : o.isSome = p.isSome := by
  cases o <;> cases p <;> first | rfl | exact h.elim
theorem OV.getD {K : PySem.W.Frag} {ro : List Addr} {H : Hp} {o : Option DV} {p : Option V} {d : DV} {v : V} (h : OV K ro H o p) (vr : VR K ro H d v) : VR K ro H (o.getD d) (p.getD v) := by
  cases o <;> cases p <;> first | exact vr | exact h | exact h.elim
theorem KR.ov {K : PySem.W.Frag} {ro : List Addr} {H : Hp} {κ : Type} [DecidableEq κ] {kvs : List (κ × DV)} {ws : List (κ × V)} (h : KR K ro H kvs ws) (k : κ) : OV K ro H (valD kvs k) (valV ws k) := by
  rcases h.val k with ⟨a, b⟩ | ⟨d, v, a, b, c⟩
  · rw [a, b]; trivial
  · rw [a, b]; exact c
theorem getS_D {K : PySem.W.Frag} {ro : List Addr} {H : Hp} {D : DHp} (hr : HR K ro D H) {i : Nat} {k : DV} {o : Option DV} {v y : V} (e : getS D i k = some o) (vi : VR K ro H (.ref i) v) (vk : VR K ro H k y) :
    ∃ a p, v = .ref a ∧ DGet H a y p ∧ OV K ro H o p := by
  cases q : D[i]? with
  | none => simp only [getS, q] at e; cases e
  | some ob =>
    cases ob with
    | dk kvs =>
      obtain ⟨a, ws, rfl, _, h1, h2⟩ := hr.dk q vi
      have go : ∀ q', keyD k = some q' → some (valD kvs q') = some o → ∃ a' p, V.ref a = .ref a' ∧ DGet H a' y p ∧ OV K ro H o p := fun q' e1 e2 => by
        have := keyD_V e1 vk
        subst this
        cases e2
        exact ⟨a, _, rfl, DGet.k h1, h2.ov q'⟩
      cases k with
      | int j => simp only [getS, q, keyD, Option.map_some] at e; exact go _ rfl e
      | str j => simp only [getS, q, keyD, Option.map_some] at e; exact go _ rfl e
      | _ => simp only [getS, q, keyD, Option.map_none] at e; cases e
    | dt kvs =>
      obtain ⟨a, ws, rfl, _, h1, h2⟩ := hr.dt q vi
      cases k with
      | tup ks =>
        simp only [getS, q] at e
        obtain ⟨qs, e1, e2⟩ := Option.map_eq_some_iff.mp e
        obtain ⟨b, vs, rfl, h3, h4⟩ := vk.tupH
        have := keysD_V e1 h4
        subst this
        subst e2
        exact ⟨a, _, rfl, DGet.t h1 h3, h2.ov qs⟩
      | _ => simp only [getS, q] at e; cases e
    | _ => simp only [getS, q] at e; cases e
theorem putS_D {K : PySem.W.Frag} {ro : List Addr} {H : Hp} {D D' : DHp} (hr : HR K ro D H) {i : Nat} {k d : DV} {v y x : V} (e : putS D i k d = some D') (vi : VR K ro H (.ref i) v) (vk : VR K ro H k y) (vd : VR K ro H d x) :
    ∃ a H', v = .ref a ∧ DPut H a y x H' ∧ Ext H H' ∧ HR K ro D' H' := by
  cases q : D[i]? with
  | none => simp only [putS, q] at e; cases e
  | some ob =>
    cases ob with
    | dk kvs =>
      obtain ⟨a, ws, rfl, h0, h1, h2⟩ := hr.dk q vi
      have go : ∀ q', keyD k = some q' → (if kvs.length < sizeLine then some (D.set i (.dk (putD kvs q' d))) else none) = some D' → ∃ a' H', V.ref a = .ref a' ∧ DPut H a' y x H' ∧ Ext H H' ∧ HR K ro D' H' := fun q' e1 e2 => by
        have := keyD_V e1 vk
        subst this
        by_cases hl : kvs.length < sizeLine
        · rw [if_pos hl] at e2; cases e2
          exact ⟨a, _, rfl, DPut.k h1 (by rw [← h2.len]; exact hl), hr.extSet h0, hr.set h0 ⟨_, upd_same, (h2.put q' vd).stay pre_refl (hr.extSet h0)⟩⟩
        · rw [if_neg hl] at e2; cases e2
      cases k with
      | int j => simp only [putS, q, keyD, Option.bind_some] at e; exact go _ rfl e
      | str j => simp only [putS, q, keyD, Option.bind_some] at e; exact go _ rfl e
      | _ => simp only [putS, q, keyD, Option.bind_none] at e; cases e
    | dt kvs =>
      obtain ⟨a, ws, rfl, h0, h1, h2⟩ := hr.dt q vi
      cases k with
      | tup ks =>
        simp only [putS, q] at e
        obtain ⟨qs, e1, e2⟩ := Option.bind_eq_some_iff.mp e
        obtain ⟨b, vs, rfl, h3, h4⟩ := vk.tupH
        have := keysD_V e1 h4
        subst this
        by_cases hl : kvs.length < sizeLine
        · rw [if_pos hl] at e2; cases e2
          exact ⟨a, _, rfl, DPut.t h1 h3 (by rw [← h2.len]; exact hl), hr.extSet h0, hr.set h0 ⟨_, upd_same, (h2.put qs vd).stay pre_refl (hr.extSet h0)⟩⟩
        · rw [if_neg hl] at e2; cases e2
      | _ => simp only [putS, q] at e; cases e
    | _ => simp only [putS, q] at e; cases e

/-! ### comparisons -/
section
variable {X : Cx}
theorem in_ok (neg : Bool) (hu : X.A.units + 1 < cLine) : OpR X (compareOp (if neg then .NotIn else .In)) (lift2 X.K (inS neg)) := by
  intro pins s σ H x y v u Q I rx ry h
  obtain ⟨ro, D, d, e, R, hr, vd, ve, q, po⟩ := h
  have seq : ∀ (a : Addr) (ys : List DV) (vs : List V), y = .ref a → (SqL X.K H a vs ∨ SqT X.K H a vs) → VRs X.K ro H ys vs → flatD d = true → ys.all flatD = true →
      R (.bl (if neg then !inF d ys else inF d ys)) D → wpAny (model X.prog X.w) X.A (compareOp (if neg then .NotIn else .In) v u) (EP X pins σ Q) X.xe s := by
    intro a ys vs ey hs h2 f1 f2 q
    subst ey
    have e1 := inF_V f1 vd f2 h2
    cases neg with
    | false =>
      refine op_in_seq pins s σ H x _ v u Q I rx ry ⟨a, vs, rfl, hs, flat_V f1 vd, flat_all f2 h2, ?_⟩
      exact po.here hr (d := .bl (inF d ys)) (by simp only [VR, Bool.false_eq_true, if_false, e1]) q
    | true =>
      refine op_notIn_seq pins s σ H x _ v u Q I rx ry ⟨a, vs, rfl, hs, flat_V f1 vd, flat_all f2 h2, ?_⟩
      exact po.here hr (d := .bl (!inF d ys)) (by simp only [VR, if_true, e1]) q
  cases e with
  | tup ys =>
    obtain ⟨f1, f2, q⟩ : flatD d = true ∧ ys.all flatD = true ∧ R (.bl (if neg then !inF d ys else inF d ys)) D := q
    obtain ⟨a, vs, rfl, h1, h2⟩ := ve.tupD
    exact seq a ys vs rfl (.inr h1) h2 f1 f2 q
  | ref i =>
    rcases q with ⟨ys, e1, f1, f2, q⟩ | ⟨o, e1, q⟩
    · obtain ⟨a, vs, rfl, _, h1, h2⟩ := hr.lst e1 ve
      exact seq a ys vs rfl (.inl (SqL.of h1)) h2 f1 f2 q
    · obtain ⟨a, p, rfl, g, ov⟩ := getS_D hr e1 ve vd
      obtain rfl : u = Value.ref a := ry
      cases neg with
      | false => exact d_in hu I g rx fun s2 I2 => ⟨.bl p.isSome, H, I2, rfl, po.here hr (d := .bl o.isSome) (by simp only [VR, ov.isSome]) q⟩
      | true => exact d_notIn hu I g rx fun s2 I2 => ⟨.bl (!p.isSome), H, I2, rfl, po.here hr (d := .bl (!o.isSome)) (by simp only [VR, ov.isSome]) q⟩
  | _ => exact False.elim q

theorem co_ok (o : CO) (hu : X.A.units + 64 < cLine) (sy : SysOk X.base) : OpR X (compareOp o.op) (lift2 X.K (coSem o)) := by
  intro pins s σ H x y v u Q I rx ry h
  have ord : ∀ (op : CmpOp) (f : Int → Int → Bool), OpR X (compareOp op) (rI0 fun i j => .bl (f i j)) → lift2 X.K (fun d e D R => ∃ i j, d = .int i ∧ e = .int j ∧ R (.bl (f i j)) D) x y H Q → wpAny (model X.prog X.w) X.A (compareOp op v u) (EP X pins σ Q) X.xe s := by
    intro op f rule h
    obtain ⟨ro, D, d, e, R, hr, vd, ve, ⟨i, j, rfl, rfl, q⟩, po⟩ := h
    simp only [VR] at vd ve
    subst vd; subst ve
    exact rule pins s σ H _ _ v u Q I rx ry ⟨i, j, rfl, rfl, po.here hr (by simp only [VR]) q⟩
  have intz : ∀ (o : CO) (f : Int → Int → Bool), (∀ d e D R, coSem o d e D R → ∃ i j, d = .int i ∧ e = .int j ∧ R (.bl (f i j)) D) → lift2 X.K (coSem o) x y H Q → lift2 X.K (fun d e D R => ∃ i j, d = .int i ∧ e = .int j ∧ R (.bl (f i j)) D) x y H Q := by
    intro o f hf h
    obtain ⟨ro, D, d, e, R, hr, vd, ve, q, po⟩ := h
    exact ⟨ro, D, d, e, R, hr, vd, ve, hf _ _ _ _ q, po⟩
  cases o with
  | eq => exact eq_okN false hu sy pins s σ H x y v u Q I rx ry h
  | ne => exact eq_okN true hu sy pins s σ H x y v u Q I rx ry h
  | isin => exact in_ok false (by omega) pins s σ H x y v u Q I rx ry h
  | nin => exact in_ok true (by omega) pins s σ H x y v u Q I rx ry h
  | lt => exact ord _ _ op_lt (intz .lt _ (fun d e D R q => by cases d <;> cases e <;> first | exact ⟨_, _, rfl, rfl, q⟩ | exact False.elim q) h)
  | le => exact ord _ _ op_le (intz .le _ (fun d e D R q => by cases d <;> cases e <;> first | exact ⟨_, _, rfl, rfl, q⟩ | exact False.elim q) h)
  | gt => exact ord _ _ op_gt (intz .gt _ (fun d e D R q => by cases d <;> cases e <;> first | exact ⟨_, _, rfl, rfl, q⟩ | exact False.elim q) h)
  | ge => exact ord _ _ op_ge (intz .ge _ (fun d e D R q => by cases d <;> cases e <;> first | exact ⟨_, _, rfl, rfl, q⟩ | exact False.elim q) h)
  | is =>
    obtain ⟨ro, D, d, e, R, hr, vd, ve, q, po⟩ := h
    cases e with
    | non =>
      have q' : R (.bl (isNon d)) D := by cases d <;> exact q
      simp only [VR] at ve
      exact op_isN pins s σ H x y v u Q I rx ry ⟨ve, po.here hr (d := .bl (isNon d)) (by simp only [VR, nonV vd]) q'⟩
    | _ => cases d <;> exact False.elim q
  | isN =>
    obtain ⟨ro, D, d, e, R, hr, vd, ve, q, po⟩ := h
    cases e with
    | non =>
      have q' : R (.bl (!isNon d)) D := by cases d <;> exact q
      simp only [VR] at ve
      exact op_notN pins s σ H x y v u Q I rx ry ⟨ve, po.here hr (d := .bl (!isNon d)) (by simp only [VR, nonV vd]) q'⟩
    | _ => cases d <;> exact False.elim q
end
theorem VRs.isEmpty {K : PySem.W.Frag} {ro : List Addr} {H : Hp} {ds : List DV} {vs : List V} (h : VRs K ro H ds vs) : ds.isEmpty = vs.isEmpty := by
  cases ds with
  | nil => rw [h.nil_inv]; rfl
  | cons d ds => obtain ⟨v, r, rfl, _, _⟩ := h.cons_inv; rfl
theorem KR.isEmpty {K : PySem.W.Frag} {ro : List Addr} {H : Hp} {κ : Type} {kvs : List (κ × DV)} {ws : List (κ × V)} (h : KR K ro H kvs ws) : kvs.isEmpty = ws.isEmpty := by
  cases h <;> rfl
theorem tru_V {K : PySem.W.Frag} {ro : List Addr} {H : Hp} {D : DHp} (hr : HR K ro D H) {d : DV} {k : Bool} {v : V} (e : tru d D = some k) (vr : VR K ro H d v) : TruV K v H k := by
  cases d with
  | non => cases e; simp only [VR] at vr; subst vr; rfl
  | bl b => cases e; simp only [VR] at vr; subst vr; rfl
  | int b => cases e; simp only [VR] at vr; subst vr; rfl
  | str x =>
    simp only [VR] at vr; subst vr
    simp only [tru] at e
    split at e
    · cases e; exact ⟨by assumption, rfl⟩
    · cases e
  | tup ds =>
    cases e
    obtain ⟨a, vs, rfl, h1, h2⟩ := vr.tupD
    exact .inr (.inl ⟨vs, h1, by rw [h2.isEmpty]⟩)
  | frl ns =>
    cases e
    obtain ⟨a, rfl, h1⟩ := vr.frlD
    exact .inl ⟨_, h1, by cases ns <;> rfl⟩
  | ref i =>
    cases q : D[i]? with
    | none => simp only [tru, q] at e; cases e
    | some o =>
      cases o with
      | lst ds =>
        simp only [tru, q] at e; cases e
        obtain ⟨a, vs, rfl, _, h1, h2⟩ := hr.lst q vr
        exact .inl ⟨vs, SqL.of h1, by rw [h2.isEmpty]⟩
      | dk ds =>
        simp only [tru, q] at e; cases e
        obtain ⟨a, vs, rfl, _, h1, h2⟩ := hr.dk q vr
        exact .inr (.inr ⟨vs, h1, by rw [h2.isEmpty]⟩)
      | _ => simp only [tru, q] at e; cases e
  | _ => cases e
end Dl
set_option Elab.async false
set_option linter.all false
set_option maxRecDepth 100000
set_option maxHeartbeats 4000000
namespace Dl
open PySem PySem.Spec PyProof.Rows L2

/-! ### sorted of anything that is collected -/
section
variable {prog : Program} {w : World} {A : Around} {E : Value → Shared → Prop} {s : Shared}
theorem sorted_any {ltv : Value → Value → Bool} (O : SrtO.Swo ltv) {v : Value} {vs : List Value} {Q : Value → Shared → Prop} (hz : vs.length ≤ sizeLine)
    (hc : ∀ (Q' : List Value → Shared → Prop) (E' : Value → Shared → Prop), (∀ (h' : Heap) (tk : Nat), (∀ b o, s.heap.get? b = some o → h'.get? b = some o) → Q' vs { s with heap := h', toks := tk }) → wpAny (model prog w) A.in1 (collect v) Q' E' s)
    (hS : 2 ≤ vs.length → ∀ (s' : Shared) (a : Addr), s'.heap.get? a = some (seqObj "list" vs.toArray 0) → SrtO.SortableO prog w A.in1.in1 s' a vs ltv)
    (h : ∀ (out : List Value) (h1 h' : Heap) (ep tk : Nat), SrtO.Srtd ltv out → SrtO.Stb ltv out vs → (∀ b o, s.heap.get? b = some o → h1.get? b = some o) → (∀ b o, h1.get? b = some o → h'.get? b = some o) →
      h'.get? h1.objs.size = some { cls := .type "list", data := .seq out.toArray ep } → Q (.ref h1.objs.size) { s with heap := h', toks := tk }) :
    wpAny (model prog w) A (call (.builtin "sorted") [v]) Q E s := by
  refine Calls.call_function_entry kind_sorted plain_sorted entry_sorted (args_sorted1 _) ?_
  unfold Builtin.«sorted»
  refine wpAny_bind (m := checkCount "sorted" 1 1 _) (wpAny_pure ?_)
  refine wpAny_bind (hc _ _ fun h1 tk keep1 => ?_)
  refine wpAny_bind (wpAny_newList ?_ hz)
  have at2 : (h1.push (seqObj "list" vs.toArray 0)).get? h1.objs.size = some (seqObj "list" vs.toArray 0) := Heap.get?_push_size _ rfl
  have keep2 : ∀ b o, h1.get? b = some o → b ≠ h1.objs.size ∧ (h1.push (seqObj "list" vs.toArray 0)).get? b = some o := fun b o e => ⟨Nat.ne_of_lt (Heap.lt_size e), Heap.get?_push_of_some _ e⟩
  refine wpAny_bind (wpAny_holding (wpAny_call_entry slot_list_sort ⟨_, at2, rfl⟩ entry_list_sort
    (SrtO.list_sort_ord O at2 hz (fun h2 => hS h2 _ _ at2) fun out hs hb => ⟨_, rfl, ?_⟩) (args_list_sort _)))
  obtain ⟨ep, he⟩ := sortedHeap_at (vs := vs) (out := out.toArray) at2
  refine wpAny_pure ⟨_, rfl, h out h1 _ ep tk hs hb keep1 (fun b o e => ?_) he⟩
  obtain ⟨ne, e2⟩ := keep2 b o e
  rw [sortedHeap_old ne (Heap.lt_size e2)]
  exact e2
end
end Dl
namespace Dl
open PySem PySem.Spec PyProof.Rows L2
theorem VRs.atI {K : PySem.W.Frag} {ro : List Addr} {H : Hp} {ds : List DV} {vs : List V} {i : Int} {d : DV} (h : VRs K ro H ds vs) (e : atI ds i = some d) : ∃ v, L2.atI vs i = some v ∧ VR K ro H d v := by
  unfold L2.atI at e ⊢
  rw [← h.length]
  cases q : ixN ds.length i with
  | none => rw [q] at e; cases e
  | some j =>
    rw [q] at e
    exact h.get e
section
variable {X : Cx}
theorem ix_ok (hu : X.A.units + 1 < cLine) : IxR X (lift2 X.K ixD) := by
  intro value slice pins s σ H x y v u Q I rx ry h hs
  obtain ⟨ro, D, d, e, R, hr, vd, ve, q, po⟩ := h
  cases d with
  | tup ds =>
    cases e with
    | int i =>
      obtain ⟨w, e1, q⟩ : ∃ v, atI ds i = some v ∧ R v D := q
      obtain ⟨a, vs, rfl, h1, h2⟩ := vd.tupD
      simp only [VR] at ve; subst ve
      obtain ⟨z, e2, vz⟩ := h2.atI e1
      exact ix_tup value slice pins s σ H _ _ v u Q I rx ry ⟨a, vs, i, z, rfl, rfl, h1, e2, po.here hr vz q⟩ hs
    | _ => exact False.elim q
  | frl ns =>
    cases e with
    | int i =>
      obtain ⟨w, e1, q⟩ : ∃ v, atI ns i = some v ∧ R (.int v) D := q
      obtain ⟨a, rfl, h1⟩ := vd.frlD
      simp only [VR] at ve; subst ve
      refine ix_list value slice pins s σ H _ _ v u Q I rx ry ⟨a, _, i, .int w, rfl, rfl, h1, ?_, po.here hr (by simp only [VR]) q⟩ hs
      unfold L2.atI at e1 ⊢
      rw [List.length_map]
      cases z : ixN ns.length i with
      | none => rw [z] at e1; cases e1
      | some j =>
        rw [z] at e1
        have e1' : ns[j]? = some w := e1
        show (ns.map V.int)[j]? = some (V.int w)
        rw [List.getElem?_map, e1']; rfl
    | _ => exact False.elim q
  | str z =>
    cases e with
    | int i =>
      obtain ⟨c, e1, e2, q⟩ : ∃ c, z.length ≤ sizeLine ∧ atI z.cps.toList i = some c ∧ R (.str ⟨#[c]⟩) D := q
      simp only [VR] at vd ve; subst vd; subst ve
      exact ix_str value slice pins s σ H _ _ v u Q I rx ry ⟨z, i, c, rfl, rfl, e1, e2, po.here hr (by simp only [VR]) q⟩ hs
    | _ => exact False.elim q
  | ref p =>
    have q' : (∃ ds i v, D[p]? = some (.lst ds) ∧ e = .int i ∧ atI ds i = some v ∧ R v D) ∨ ∃ v, getS D p e = some (some v) ∧ R v D := by
      cases e <;> exact q
    rcases q' with ⟨ds, i, w, e1, rfl, e2, q⟩ | ⟨w, e1, q⟩
    · obtain ⟨a, vs, rfl, _, h1, h2⟩ := hr.lst e1 vd
      simp only [VR] at ve; subst ve
      obtain ⟨z, e3, vz⟩ := h2.atI e2
      exact ix_list value slice pins s σ H _ _ v u Q I rx ry ⟨a, vs, i, z, rfl, rfl, SqL.of h1, e3, po.here hr vz q⟩ hs
    · obtain ⟨a, o, rfl, g, ov⟩ := getS_D hr e1 vd ve
      cases o with
      | none => exact ov.elim
      | some z =>
        obtain rfl : v = Value.ref a := rx
        exact tail_any (dict_typeIs I g) PySem.F.slot_dict_getitem.lookup (d_getItem hu I g ry fun w' s3 I3 rw' => ⟨z, H, I3, rw', po.here hr ov q⟩) hs
  | _ => cases e <;> exact False.elim q

/-! ### slices -/
def liftSl (K : PySem.W.Frag) (r : DV → Option Int → Option Int → DHp → DR → Prop) : V → Option Int → Option Int → Hp → VK → Prop := fun x lo hi H Q => ∃ ro D d R, HR K ro D H ∧ VR K ro H d x ∧ r d lo hi D R ∧ Post K ro H R Q
theorem sl_ok : SlR X (liftSl X.K slD) := by
  intro pins s σ H x v vl vu lo hi sl Q I rx hs pl pu h
  obtain ⟨ro, D, d, R, hr, vd, q, po⟩ := h
  cases d with
  | tup ds =>
    have q' : R (.tup (cutL ds lo hi)) D := q
    obtain ⟨a, vs, rfl, h1, h2⟩ := vd.tupD
    refine sl_tupA pins s σ H _ v vl vu lo hi sl Q I rx hs pl pu ⟨a, vs, rfl, h1, fun hw => ?_, fun _ p np => ?_⟩
    · have e : cutL ds lo hi = ds := by
        unfold cutL
        rw [h2.length, hw.1, hw.2, List.drop_zero, Nat.sub_zero, ← h2.length, List.take_length]
      rw [e] at q'
      exact po.here hr vd q'
    · exact po.tup hr np (cutL_V h2 lo hi) q'
  | frl ns =>
    have q' : R (.ref D.length) (D ++ [DO.lst ((cutL ns lo hi).map .int)]) := q
    obtain ⟨a, rfl, h1⟩ := vd.frlD
    refine sl_list pins s σ H _ v vl vu lo hi sl Q I rx hs pl pu ⟨a, _, rfl, h1, fun p np => po.lst hr np ?_ q'⟩
    have e : cutV (ns.map V.int) lo hi = (cutL ns lo hi).map V.int := by
      unfold cutV cutL
      rw [List.length_map, List.map_take, List.map_drop]
    rw [e]
    exact VRs.ofInts
  | ref p =>
    obtain ⟨ds, e1, q'⟩ : ∃ ds, D[p]? = some (.lst ds) ∧ R (.ref D.length) (D ++ [DO.lst (cutL ds lo hi)]) := q
    obtain ⟨a, vs, rfl, _, h1, h2⟩ := hr.lst e1 vd
    exact sl_list pins s σ H _ v vl vu lo hi sl Q I rx hs pl pu ⟨a, vs, rfl, SqL.of h1, fun p np => po.lst hr np (cutL_V h2 lo hi) q'⟩
  | _ => exact False.elim q
end

/-! ### [::-1], [:0:-1] -/
section
variable {prog : Program} {w : World} {A : Around} {E : Value → Shared → Prop} {s : Shared}
theorem fmap_congr {α β : Type} {f g : α → Option β} : ∀ {l : List α}, (∀ a ∈ l, f a = g a) → l.filterMap f = l.filterMap g
  | [], _ => rfl
  | a :: l, h => by rw [List.filterMap_cons, List.filterMap_cons, h a List.mem_cons_self, fmap_congr fun b hb => h b (List.mem_cons_of_mem _ hb)]
theorem rangeBack (n k : Nat) : (List.range (n - k)).map (fun m => n - 1 - m) = ((List.range n).drop k).reverse := by
  apply List.ext_getElem
  · simp
  · intro i h1 h2
    simp at h1 h2 ⊢
    omega
theorem pickBack (items : Array Value) (n k : Nat) (hn : n = items.size) : ((List.range (n - k)).filterMap fun (m : Nat) => items[(((n : Int) - 1) + (m : Int) * (-1)).toNat]?) = (items.toList.drop k).reverse := by
  have e : ∀ m ∈ List.range (n - k), items[(((n : Int) - 1) + (m : Int) * (-1)).toNat]? = items[n - 1 - m]? := fun m hm => by
    have := List.mem_range.mp hm
    have z : (((n : Int) - 1) + (m : Int) * (-1)).toNat = n - 1 - m := by omega
    rw [z]
  rw [fmap_congr e]
  have e2 : (List.range (n - k)).filterMap (fun m => items[n - 1 - m]?) = ((List.range (n - k)).map fun m => n - 1 - m).filterMap (items[·]?) := by
    rw [List.filterMap_map]; rfl
  rw [e2, rangeBack, List.filterMap_reverse]
  congr 1
  subst hn
  have e3 := PySem.W.krv_all items
  have e4 : ∀ (l : List Nat) (j : Nat), (∀ m ∈ l, m < items.size) → (l.drop j).filterMap (items[·]?) = (l.filterMap (items[·]?)).drop j := by
    intro l
    induction l with
    | nil => intro j _; simp
    | cons a l ih =>
      intro j hl
      cases j with
      | zero => simp
      | succ j =>
        have ha : a < items.size := hl a List.mem_cons_self
        rw [List.drop_succ_cons, List.filterMap_cons, Array.getElem?_eq_getElem ha, ih j fun m hm => hl m (List.mem_cons_of_mem _ hm)]
        rfl
  rw [e4 _ _ (fun m hm => List.mem_range.mp hm), e3]
def hiOf : Nat → Option Int
  | 0 => none
  | _ => some 0
theorem sliceApplied_back {sl : Addr} {vl vu vs : Value} {k n : Nat} {Q : Int × Int × Nat → Shared → Prop} (hk : k ≤ 1) (hs : s.heap.IsSliceOf sl vl vu vs) (pl : IsPart vl none) (pu : IsPart vu (hiOf k)) (ps : IsPart vs (some (-1)))
    (h : Q ((n : Int) - 1, -1, n - k) s) : wpAny (model prog w) A (Builtin.Slice.sliceApplied (.ref sl) (pure (n : Int))) Q E s := by
  obtain ⟨os, hos, hcs, hds⟩ := id hs
  unfold Builtin.Slice.sliceApplied Builtin.Slice.sliceFields
  refine wpAny_bind (wpAny_bind (wpAny_field hos hds (x := vl) rfl (wpAny_bind (wpAny_field hos hds (x := vu) rfl (wpAny_bind (wpAny_field hos hds (x := vs) rfl (wpAny_pure ?_)))))))
  refine wpAny_bind (HT.slicePart_ ps ?_)
  show wpAny _ _ (if ((-1 : Int) == 0) = true then _ else _) _ _ s
  rw [if_neg (by decide)]
  refine wpAny_bind (HT.slicePart_ pl (wpAny_bind (HT.slicePart_ pu (wpAny_bind (wpAny_pure ?_)))))
  show wpAny _ _ (match Builtin.Slice.sliceAdjust none (hiOf k) (-1) (n : Int) with | (lo, hi) => pure (lo, (-1 : Int), Builtin.Slice.slicePlaces lo hi (-1))) _ _ s
  have e : Builtin.Slice.sliceAdjust none (hiOf k) (-1) (n : Int) = ((n : Int) - 1, if k = 0 then -1 else min 0 ((n : Int) - 1)) := by
    have hc : k = 0 ∨ k = 1 := by omega
    rcases hc with rfl | rfl <;> simp [Builtin.Slice.sliceAdjust, hiOf]
  rw [e]
  have e2 : Builtin.Slice.slicePlaces ((n : Int) - 1) (if k = 0 then -1 else min 0 ((n : Int) - 1)) (-1) = n - k := by
    unfold Builtin.Slice.slicePlaces
    rw [if_neg (by decide)]
    have hc : k = 0 ∨ k = 1 := by omega
    rcases hc with rfl | rfl
    · rw [if_pos rfl]
      by_cases hn : n = 0
      · subst hn; simp
      · rw [if_pos (by omega)]
        simp only [Int.neg_neg, Int.ediv_one]; omega
    · simp only [show ¬ (1 : Nat) = 0 by decide, if_false]
      by_cases hn : n ≤ 1
      · rw [if_neg (by omega)]; simp; omega
      · rw [if_pos (by omega)]
        simp only [Int.neg_neg, Int.ediv_one]; omega
  show wpAny _ _ (pure ((n : Int) - 1, (-1 : Int), Builtin.Slice.slicePlaces ((n : Int) - 1) (if k = 0 then -1 else min 0 ((n : Int) - 1)) (-1))) _ _ s
  rw [e2]
  exact wpAny_pure h
theorem getItem_tuple_back {t sl : Addr} {items : Array Value} {vl vu vs : Value} {k : Nat} {Q : Value → Shared → Prop} (hk : k ≤ 1) (ht : IsTup s.heap t items) (hs : s.heap.IsSliceOf sl vl vu vs) (pl : IsPart vl none) (pu : IsPart vu (hiOf k)) (ps : IsPart vs (some (-1)))
    (h : Q (.ref s.heap.objs.size) { s with heap := s.heap.push { cls := .type "tuple", data := .seq (items.toList.drop k).reverse.toArray } })
    (hsz : items.size ≤ sizeLine) : wpAny (model prog w) A (getItem (.ref t) (.ref sl)) Q E s := by
  have hok : sizeOk (.seq (items.toList.drop k).reverse.toArray) := by
    show (items.toList.drop k).reverse.toArray.size ≤ sizeLine
    rw [List.size_toArray, List.length_reverse, List.length_drop, Array.length_toList]
    omega
  obtain ⟨os, hos, hcs, hds⟩ := id hs
  have hTs : s.TypeIs (.ref sl) "slice" := ⟨os, hos, hcs⟩
  unfold getItem
  try with_reducible refine wpAny_holding ?_
  first | refine wpAny_bind (wpAny_pure ?_) | skip
  refine wpAny_bind (wpAny_sequenceKey ht.typeIs (by decide) ?_)
  refine wpAny_bind (wpAny_callSpecial?_slot (name := Str.ofString "__getitem__") ht.typeIs slot_tuple_getitem (wpAny_call_entry slot_tuple_getitem ht.typeIs entry_tuple_getitem ?_ (args_tuple_getitem _ _)))
  show wpAny _ _ (Builtin.Tuple.tupleItemsOf (.ref t) >>= _) _ _ s
  refine wpAny_bind (tupleItemsOf_ ht (wpAny_bind (wpAny_typeOf hTs ?_)))
  rw [if_pos (by decide)]
  refine wpAny_bind (sliceApplied_back (n := items.size) hk hs pl pu ps ?_)
  have hno : ¬ ((((items.size : Int) - 1) == 0 && (-1 : Int) == 1 && (items.size - k) == items.size) = true) := by
    intro z
    rw [Bool.and_eq_true, Bool.and_eq_true] at z
    exact absurd z.1.2 (by decide)
  show wpAny _ _ (if (((items.size : Int) - 1) == 0 && (-1 : Int) == 1 && (items.size - k) == items.size) = true then _ else _) _ _ s
  rw [if_neg hno, pickBack items items.size k rfl]
  first
    | exact wpAny_bind (m := Builtin.Tuple.tupleExact _) (wpAny_newObj_type (wpAny_pure ⟨_, rfl, wpAny_pure h⟩) hok)
    | exact wpAny_bind (m := Builtin.Tuple.tupleExact _) (wpAny_newObj_type (wpAny_bind (wpAny_pure (wpAny_pure ⟨_, rfl, wpAny_pure h⟩))) hok)
    | exact wpAny_bind (wpAny_bind (m := Builtin.Tuple.tupleExact _) (wpAny_newObj_type (wpAny_pure (wpAny_pure ⟨_, rfl, wpAny_pure h⟩)) hok))
    | exact wpAny_bind (wpAny_bind (m := Builtin.Tuple.tupleExact _) (wpAny_newObj_type (wpAny_pure ⟨_, rfl, wpAny_pure h⟩) hok))
theorem slicePick_back (items : Array Value) {k : Nat} (hk : k ≤ 1) : slicePick items none (hiOf k) (some (-1)) = (items.toList.drop k).reverse.toArray := by
  unfold slicePick
  have e : sliceBounds none (hiOf k) (some (-1)) items.size = ((items.size : Int) - 1, if k = 0 then -1 else min 0 ((items.size : Int) - 1), -1) := by
    have hc : k = 0 ∨ k = 1 := by omega
    rcases hc with rfl | rfl <;> simp [sliceBounds, hiOf] <;> omega
  rw [e]
  show ((sliceRange ((items.size : Int) - 1) (if k = 0 then -1 else min 0 ((items.size : Int) - 1)) (-1)).filterMap (items[·]?)).toArray = _
  have e2 : sliceRange ((items.size : Int) - 1) (if k = 0 then -1 else min 0 ((items.size : Int) - 1)) (-1) = (List.range (items.size - k)).map fun m => items.size - 1 - m := by
    unfold sliceRange
    have h1 : ¬ ((-1 : Int) > 0) := by decide
    simp only [h1, if_false]
    have hc : k = 0 ∨ k = 1 := by omega
    have e3 : (if (items.size : Int) - 1 > (if k = 0 then -1 else min 0 ((items.size : Int) - 1)) then ((items.size : Int) - 1 - (if k = 0 then -1 else min 0 ((items.size : Int) - 1)) - -1 - 1) / (- -1) else 0).toNat = items.size - k := by
      rw [show (- -1 : Int) = 1 by decide, Int.ediv_one]
      rcases hc with rfl | rfl
      · simp only [if_true]; split <;> omega
      · simp only [show ¬ (1 : Nat) = 0 by decide, if_false]; split <;> omega
    first
      | rw [e3]
        apply List.map_congr_left
        intro m hm
        have := List.mem_range.mp hm
        omega
      | skip
  rw [e2]
  have z := pickBack items items.size k rfl
  rw [List.filterMap_map]
  rw [← z]
  congr 1
  apply fmap_congr
  intro m hm
  have := List.mem_range.mp hm
  have z : (((items.size : Int) - 1) + (m : Int) * (-1)).toNat = items.size - 1 - m := by omega
  simp only [Function.comp]
  rw [z]
end
end Dl
set_option Elab.async false
set_option linter.all false
set_option maxRecDepth 100000
set_option maxHeartbeats 4000000
namespace Dl
open PySem PySem.Spec PyProof.Rows L2

/-! ### e[::-1], e[:0:-1] -/
section
variable {X : Cx}
def hiE (k : Nat) (j : Nat) (p : Pos) : Option Expr := if k = 0 then none else some (.Constant (.int 0) j p)
theorem po_hi {k j : Nat} {p : Pos} (hk : k ≤ 1) : PO X (hiE k j p) (fun _ H Q => Q (hiOf k) H) := by
  have hc : k = 0 ∨ k = 1 := by omega
  rcases hc with rfl | rfl
  · exact ⟨fun pins s σ H Q I h => po_none.run pins s σ H Q I h⟩
  · have hst : PO X (some (.Constant (.int 0) j p)) (tPart (tC (.int 0))) := po_some pe_int
    exact ⟨fun pins s σ H Q I h => hst.run pins s σ H Q I ⟨0, rfl, h⟩⟩
theorem pe_rv {e : Expr} {te : TE} {k i j : Nat} {p0 p1 p2 p3 pos : Pos} (hk : k ≤ 1) (he : PE X e te) : PE X (.Subscript e (.Slice none (hiE k j p0) (some (.UnaryOp .USub (.Constant (.int 1) i p1) p2)) p3) pos) (tUn (lift1 X.K (rvD k)) te) := by
  refine ⟨fun pins s σ H Q I h => ?_⟩
  refine Subscript_ (thn (he.run pins s σ H _ I h) fun v s1 ⟨x, H1, I1, r1, q1⟩ => ?_)
  have hst : PO X (some (.UnaryOp .USub (.Constant (.int 1) i p1) p2)) (tPart (tUn (rU fun i => .int (-i)) (tC (.int 1)))) := po_some (pe_un un_neg pe_int)
  refine wpAny_Slice (thn (po_none.run pins s1 σ H1 (fun o H2 => o = none ∧ H2 = H1) I1 ⟨rfl, rfl⟩) fun vl s2 ⟨l, H2, I2, pl, el, e2⟩ => ?_)
  subst el e2
  refine thn ((po_hi hk).run pins s2 σ H2 (fun o H3 => o = hiOf k ∧ H3 = H2) I2 ⟨rfl, rfl⟩) fun vu s3 ⟨u, H3, I3, pu, eu, e3⟩ => ?_
  subst eu e3
  refine thn (hst.run pins s3 σ H3 (fun o H4 => o = some (-1) ∧ H4 = H3) I3 ⟨1, rfl, -1, rfl, rfl, rfl⟩) fun vs s4 ⟨o, H4, I4, ps, eo, e4⟩ => ?_
  subst eo e4
  have I5 : Inv X pins σ H4 { s4 with heap := s4.heap.push { cls := .type "slice", data := .fields #[vl, vu, vs] } } := I4.kept (t' := s4.toks) fun b ob q => Heap.get?_push_of_some _ q
  have isl := Heap.IsSliceOf.new s4.heap vl vu vs
  obtain ⟨ro, D, d, R, hr, vd, q, po⟩ := q1
  cases d with
  | tup ds =>
    have q' : R (.tup (ds.drop k).reverse) D := q
    obtain ⟨a, xs, rfl, h1, h2⟩ := vd.tupD
    cases r1
    obtain ⟨its, r, ht, hz⟩ := I5.tuple h1
    have hlen := r.length
    refine tail_any (ops := [.ref a, .ref s4.heap.objs.size]) ht.typeIs (slot_tuple_getitem.lookup) ?_ (by with_unfolding_all rfl)
    refine getItem_tuple_back hk ht isl pl pu ps ?_ (by rw [List.size_toArray]; omega)
    have r2 : Vals (xs.drop k).reverse ((its.toArray.toList.drop k).reverse) := (Vals.drop k r).reverse
    refine ⟨.ref _, _, I5.laid (t' := s4.toks) (o := .tup (xs.drop k).reverse) (fun b ob q => Heap.get?_push_of_some _ q) (Nat.le_refl _) ?_, rfl, po.tup hr (I5.hok.fresh (Nat.le_refl _)) (h2.drop k).reverse q'⟩
    exact ⟨by rw [List.length_reverse, List.length_drop]; omega, _, r2, IsTup.new _ _⟩
  | ref p =>
    obtain ⟨ds, e1, q'⟩ : ∃ ds, D[p]? = some (.lst ds) ∧ R (.ref D.length) (D ++ [DO.lst (ds.drop k).reverse]) := q
    obtain ⟨a, xs, rfl, _, h1, h2⟩ := hr.lst e1 vd
    cases r1
    obtain ⟨its, r, ht, hz⟩ := I5.list (SqL.of h1)
    have hlen := r.length
    refine tail_any (ops := [.ref a, .ref s4.heap.objs.size]) ht.isList.typeIs (PySem.slot_list_getitem.lookup) ?_ (by with_unfolding_all rfl)
    refine wpAny_getItem_list_slice ht.isList isl pl pu ps (by decide) ?_ (by rw [List.size_toArray]; omega)
    rw [slicePick_back _ hk]
    have r2 : Vals (xs.drop k).reverse ((its.toArray.toList.drop k).reverse) := (Vals.drop k r).reverse
    refine ⟨.ref _, _, I5.laid (t' := s4.toks) (o := .lst (xs.drop k).reverse) (fun b ob q => Heap.get?_push_of_some _ q) (Nat.le_refl _) ?_, rfl, po.lst hr (I5.hok.fresh (Nat.le_refl _)) (h2.drop k).reverse q'⟩
    exact ⟨by rw [List.length_reverse, List.length_drop]; omega, _, 0, r2, Heap.get?_push_size _ rfl⟩
  | _ => exact False.elim q
end

/-! ### built-ins -/
section
variable {K : PySem.W.Frag} {ro : List Addr} {H : Hp} {D : DHp}
theorem VRs.one {d : DV} {vs : List V} (h : VRs K ro H [d] vs) : ∃ v, vs = [v] ∧ VR K ro H d v := by
  obtain ⟨v, r, rfl, h1, h2⟩ := h.cons_inv
  rw [h2.nil_inv]
  exact ⟨v, rfl, h1⟩
theorem VRs.two {d e : DV} {vs : List V} (h : VRs K ro H [d, e] vs) : ∃ v u, vs = [v, u] ∧ VR K ro H d v ∧ VR K ro H e u := by
  obtain ⟨v, r, rfl, h1, h2⟩ := h.cons_inv
  obtain ⟨u, rfl, h3⟩ := h2.one
  exact ⟨v, u, rfl, h1, h3⟩
theorem HR.itemsL (hr : HR K ro D H) {d : DV} {ds : List DV} {v : V} (e : itemsL d D = some ds) (vr : VR K ro H d v) : ∃ a vs, v = .ref a ∧ SqL K H a vs ∧ VRs K ro H ds vs := by
  cases d with
  | tup es => cases (show none = some ds from e)
  | frl ns =>
    cases (show some (ns.map DV.int) = some ds from e)
    obtain ⟨a, h1, h2⟩ := vr.frlD
    exact ⟨a, _, h1, h2, VRs.ofInts⟩
  | ref i =>
    have e : itemsD (.ref i) D = some ds := e
    cases q : D[i]? with
    | none => simp only [itemsD, q] at e; cases e
    | some o =>
      simp only [itemsD, q] at e
      cases o with
      | lst es =>
        cases e
        obtain ⟨a, vs, h1, h2, h3, h4⟩ := hr.lst q vr
        exact ⟨a, vs, h1, SqL.of h3, h4⟩
      | _ => cases e
  | _ => cases (show none = some ds from e)
theorem toBls_eq : ∀ {ds : List DV} {ns : List Bool}, toBls ds = some ns → ds = ns.map DV.bl
  | [], ns, h => by cases h; rfl
  | d :: r, ns, h => by
    cases d with
    | bl i =>
      have h' : (toBls r).map (fun s => i :: s) = some ns := h
      cases q : toBls r with
      | none => rw [q] at h'; cases h'
      | some s => rw [q] at h'; cases h'; rw [toBls_eq q]; rfl
    | _ => cases h
theorem VRs.bls : ∀ {ns : List Bool} {vs : List V}, VRs K ro H (ns.map DV.bl) vs → vs = ns.map V.bl
  | [], _, h => h.nil_inv
  | n :: ns, _, h => by
    obtain ⟨w, r, rfl, h1, h2⟩ := h.cons_inv
    simp only [VR] at h1
    rw [h1, VRs.bls h2]; rfl
theorem int_seq (hr : HR K ro D H) {x : DV} {ds : List DV} {ns : List Int} {v : V} (e : itemsL x D = some ds) (f : toInts ds = some ns) (vr : VR K ro H x v) : ∃ a, v = .ref a ∧ SqL K H a (ns.map V.int) := by
  obtain ⟨a, vs, rfl, h1, h2⟩ := hr.itemsL e vr
  rw [toInts_eq f] at h2
  rw [h2.ints] at h1
  exact ⟨a, rfl, h1⟩
theorem bl_seq (hr : HR K ro D H) {x : DV} {ds : List DV} {ns : List Bool} {v : V} (e : itemsL x D = some ds) (f : toBls ds = some ns) (vr : VR K ro H x v) : ∃ a, v = .ref a ∧ SqL K H a (ns.map V.bl) := by
  obtain ⟨a, vs, rfl, h1, h2⟩ := hr.itemsL e vr
  rw [toBls_eq f] at h2
  rw [h2.bls] at h1
  exact ⟨a, rfl, h1⟩
theorem tyX_D (hr : HR K ro D H) {d : DV} {t : String} {v : V} (e : tyD d D = some t) (vr : VR K ro H d v) : TyX K H v (.type t) := by
  cases d with
  | non => cases e; simp only [VR] at vr; subst vr; exact .base .non
  | bl b => cases e; simp only [VR] at vr; subst vr; exact .base (.bl _)
  | int b => cases e; simp only [VR] at vr; subst vr; exact .base (.int _)
  | str b => cases e; simp only [VR] at vr; subst vr; exact .base (.str _)
  | tup b => cases e; obtain ⟨a, vs, rfl, h1, _⟩ := vr.tupH; exact .base (.tup h1)
  | frl b =>
    cases e
    simp only [VR] at vr
    obtain ⟨a, rfl, h⟩ := vr
    rcases h with ⟨o, h⟩ | h
    · exact .base (.frz h)
    · rcases h (fun _ => none) with (h | ⟨o, h⟩) | ⟨o, its, n, h1, h2, _⟩
      · cases h
      · cases h
      · exact .kList h1 h2
  | ref i =>
    cases q : D[i]? with
    | none => simp only [tyD, q] at e; cases e
    | some o =>
      simp only [tyD, q] at e
      cases o with
      | lst es => cases e; obtain ⟨a, vs, rfl, _, h3, _⟩ := hr.lst q vr; exact .base (.lst h3)
      | dk es => cases e; obtain ⟨a, vs, rfl, _, h3, _⟩ := hr.dk q vr; exact .base (.dK h3)
      | dt es => cases e; obtain ⟨a, vs, rfl, _, h3, _⟩ := hr.dt q vr; exact .base (.dT h3)
      | _ => cases e
  | _ => cases e
end
def tyAll : List String := ["NoneType", "bool", "int", "str", "tuple", "list", "dict"]
theorem tyD_mem {d : DV} {D : DHp} {t : String} (e : tyD d D = some t) : t ∈ tyAll := by
  cases d with
  | ref i =>
    cases q : D[i]? with
    | none => simp only [tyD, q] at e; cases e
    | some o => simp only [tyD, q] at e; cases o <;> cases e <;> decide
  | _ => cases e <;> decide
theorem kit_all : ∀ t ∈ tyAll, ∀ c ∈ ["bool", "int", "str", "tuple", "list", "dict"], kitB t c = some (isaT t c) := by decide +kernel
theorem kit_isa {K : PySem.W.Frag} {t c : String} (ht : t ∈ tyAll) (hc : tyOk c = true) : PySem.W.kitOne K (.type t) (.type c) = some (isaT t c) :=
  kit_ty (kit_all t ht c (by unfold tyOk at hc; simpa using hc))
theorem kit_isas {K : PySem.W.Frag} {t : String} (ht : t ∈ tyAll) : ∀ {ns : List String}, ns.all tyOk = true → PySem.W.kitAny K (.type t) (ns.map Value.type) = some (ns.any (isaT t))
  | [], _ => rfl
  | n :: ns, h => by
    rw [List.all_cons, Bool.and_eq_true] at h
    rw [List.map_cons, List.any_cons]
    refine kitAny_cons (kit_isa ht h.1) (fun e => ?_) fun e => ?_
    · rw [e, Bool.false_or]; exact kit_isas ht h.2
    · rw [e, Bool.true_or]
theorem clsV_tys {K : PySem.W.Frag} {ro : List Addr} {H : Hp} : ∀ {ds : List DV} {ns : List String} {vs : List V}, tysD ds = some ns → VRs K ro H ds vs → Paired ClsV vs (ns.map Value.type)
  | [], ns, vs, e, h => by cases e; rw [h.nil_inv]; exact .nil
  | d :: ds, ns, vs, e, h => by
    cases d with
    | ty n =>
      have e' : (tysD ds).map (fun s => n :: s) = some ns := e
      obtain ⟨v, r, rfl, h1, h2⟩ := h.cons_inv
      simp only [VR] at h1
      subst h1
      cases q : tysD ds with
      | none => rw [q] at e'; cases e'
      | some s => rw [q] at e'; cases e'; exact .cons (.ty n) (clsV_tys q h2)
    | _ => cases e

section
variable {X : Cx}
theorem shown_any (hg : X.A.guards = some []) (hu : X.A.units + 64 < cLine) (sy : SysOk X.base) {pins : List (Addr × Obj)} {s : Shared} {σ : L2.St} {H : Hp} {ro : List Addr} {D : DHp} {n : Nat} {d : DV} {R : DR} {Q : VK} {v : V} {u : Value} (I : Inv X pins σ H s) (hr : HR X.K ro D H) (vd : VR X.K ro H d v)
    (rx : RelV v u) (q : shownS n d D R) (po : Post X.K ro H R Q) : wpAny (model X.prog X.w) X.A (call (.builtin "repr") [u]) (EP X pins σ Q) X.xe s := by
  obtain ⟨a, e, h1, h2, h3, q⟩ := q
  obtain ⟨as, rd, nm⟩ := py_reads I sy hr e vd rx
  have fin : ∀ h' tk t, (∀ b o, s.heap.get? b = some o → h'.get? b = some o) → EP X pins σ Q (.str a.shown t) { s with heap := h', toks := tk } := fun h' tk t hk =>
    ⟨.str a.shown, H, I.kept hk, ⟨t, rfl⟩, po.here hr (d := .str a.shown) (by simp only [VR]) q⟩
  cases rd with
  | none => exact PySem.P.repr_of_none (fin s.heap _ _ fun _ _ e => e)
  | bool b => exact PySem.P.repr_of_bool (fin s.heap _ _ fun _ _ e => e)
  | int i t => exact PySem.P.repr_of_int (by simpa [PyData.showable] using h1) (fin s.heap _ _ fun _ _ e => e)
  | str x t => exact PySem.P.repr_of_str (fin s.heap _ _ fun _ _ e => e) (by simpa only [PyData.shown] using h3)
  | list e1 e2 e3 e4 => exact repr_of_reads' (.list e1 e2 e3 e4) h1 (fun _ => nm) hg (by omega) (fun _ _ e => e) (fun h' t tk hk => fin h' tk t hk) h3
  | tuple e1 e2 e3 e4 => exact repr_of_reads' (.tuple e1 e2 e3 e4) h1 (fun _ => nm) hg (by omega) (fun _ _ e => e) (fun h' t tk hk => fin h' tk t hk) h3
  | dict e1 e2 e3 e4 e5 => exact repr_of_reads' (.dict e1 e2 e3 e4 e5) h1 (fun _ => nm) hg (by omega) (fun _ _ e => e) (fun h' t tk hk => fin h' tk t hk) h3
end
end Dl
set_option Elab.async false
set_option linter.all false
set_option maxRecDepth 100000
set_option maxHeartbeats 4000000
namespace Dl
open PySem PySem.Spec PyProof.Rows L2
section
variable {X : Cx}
theorem isort_perm (ns : List Int) : (isort ns).Perm ns := List.mergeSort_perm _ _
theorem isort_ord (ns : List Int) : (isort ns).Pairwise (· ≤ ·) := by
  have h := List.pairwise_mergeSort (le := fun a b : Int => decide (a ≤ b)) (fun a b c h1 h2 => by simp at h1 h2 ⊢; omega) (fun a b => by simp; omega) ns
  exact h.imp fun h => by simpa using h
theorem bi_sorted : CallR X (.builtin "sorted") (liftL X.K (biSem .sorted)) := by
  intro pins s σ H xs us Q I r h
  obtain ⟨ro, D, ds, R, hr, vd, q, po⟩ := h
  match ds, q with
  | [x], q =>
    obtain ⟨es, ns, e1, e2, q⟩ : ∃ ds ns, itemsD x D = some ds ∧ toInts ds = some ns ∧ R (.ref D.length) (D ++ [DO.lst ((isort ns).map .int)]) := q
    obtain ⟨v, rfl, vx⟩ := vd.one
    obtain ⟨u, rfl, ru⟩ := vals1 r
    obtain ⟨a, vs, rfl, sq, rel⟩ := hr.items e1 vx
    rw [toInts_eq e2] at rel
    have evs := rel.ints
    subst evs
    cases ru
    have hT : ∃ (T : String) (o : Obj) (its : List Value) (n : Nat), (T = "list" ∨ T = "tuple") ∧ s.heap.get? a = some o ∧ o.cls = .type T ∧ o.data = .seq its.toArray n ∧ Vals (ns.map V.int) its ∧ its.length ≤ sizeLine := by
      rcases sq with sq | sq
      · obtain ⟨its, r', pl, hz⟩ := I.list sq
        obtain ⟨o, ho, hc, n, hd⟩ := pl.isList
        exact ⟨"list", o, its, n, .inl rfl, ho, hc, hd, r', by have := r'.length; omega⟩
      · obtain ⟨its, r', pl, hz⟩ := I.tuple sq
        obtain ⟨o, ho, hc, n, hd⟩ := pl
        exact ⟨"tuple", o, its, n, .inr rfl, ho, hc, hd, r', by have := r'.length; omega⟩
    obtain ⟨T, o, its, n, hT, ho, hc, hd, r', hz⟩ := hT
    have hI : IntsAre its ns := intsAre_of r'
    refine sorted_any SrtO.swo_int hz (fun Q' E' hq => wpAny_collect_seq a hT ho hc hd (fun h' kp => hq h' s.toks kp) (by rw [List.size_toArray]; exact hz))
      (fun h2 s' l e => SrtO.ints_sortable hI h2) fun out h1 h' ep tk hs hb k1 k2 e => ?_
    obtain ⟨i1, i2, i3⟩ := SrtO.ints_out hI hs hb
    have es : out.map SrtO.iv = isort ns := PySem.W.ksm_same (i2.trans (isort_perm ns).symm) i3 (isort_ord ns)
    rw [es] at i1
    have I1 : Inv X pins σ H { s with heap := h1 } := I.kept (t' := s.toks) k1
    have rv : Vals ((isort ns).map V.int) out := vals_of_ints i1
    have hlen := rv.length
    have hp : H h1.objs.size = none := I1.hok.fresh (Nat.le_refl _)
    refine ⟨.ref h1.objs.size, _, I1.laid (t' := tk) (o := .lst ((isort ns).map V.int)) k2 (Nat.le_refl _) ⟨?_, out, ep, rv, e⟩, rfl, po.lst hr hp VRs.ofInts q⟩
    rw [List.length_map, (isort_perm ns).length_eq]
    have := hI.length
    omega

theorem bi_ok (f : BI) (hc : X.calm = true) (hg : X.A.guards = some []) (hu : X.A.units + 64 < cLine) (sy : SysOk X.base) : CallR X f.val (liftL X.K (biSem f)) := by
  intro pins s σ H xs us Q I r h
  cases f with
  | sorted => exact bi_sorted pins s σ H xs us Q I r h
  | len =>
    obtain ⟨ro, D, ds, R, hr, vd, q, po⟩ := h
    match ds, q with
    | [x], q =>
      obtain ⟨n, e, q⟩ : ∃ n : Nat, lenD x D = some n ∧ R (.int n) D := q
      obtain ⟨v, rfl, vx⟩ := vd.one
      have pq : Q (.int n) H := po.here hr (d := .int n) (by simp only [VR]) q
      cases x with
      | tup ds =>
        cases e
        obtain ⟨a, vs, rfl, h1, h2⟩ := vx.tupD
        exact call_len pins s σ H _ us Q I r ⟨_, _, rfl, .inr ⟨vs, h1, h2.length⟩, pq⟩
      | frl ns =>
        cases e
        obtain ⟨a, rfl, h1⟩ := vx.frlD
        exact call_len pins s σ H _ us Q I r ⟨_, _, rfl, .inl ⟨_, h1, by simp⟩, pq⟩
      | str z =>
        simp only [lenD] at e
        split at e
        · cases e
          simp only [VR] at vx; subst vx
          exact call_len pins s σ H _ us Q I r ⟨_, _, rfl, ⟨by assumption, rfl⟩, pq⟩
        · cases e
      | ref i =>
        cases z : D[i]? with
        | none => simp only [lenD, z] at e; cases e
        | some o =>
          simp only [lenD, z] at e
          cases o with
          | lst es =>
            cases e
            obtain ⟨a, vs, rfl, _, h1, h2⟩ := hr.lst z vx
            exact call_len pins s σ H _ us Q I r ⟨_, _, rfl, .inl ⟨vs, SqL.of h1, h2.length⟩, pq⟩
          | dk es =>
            cases e
            obtain ⟨a, vs, rfl, _, h1, h2⟩ := hr.dk z vx
            obtain ⟨u, rfl, ru⟩ := vals1 r
            cases ru
            refine d_len I (.inl h1) fun t s' I' => ⟨.int es.length, H, I', ⟨t, ?_⟩, pq⟩
            rw [h2.len]
          | _ => cases e
      | _ => cases e
  | tuple =>
    obtain ⟨ro, D, ds, R, hr, vd, q, po⟩ := h
    match ds, q with
    | [x], q =>
      obtain ⟨es, e, q⟩ : ∃ ds, itemsD x D = some ds ∧ R (.tup ds) D := q
      obtain ⟨v, rfl, vx⟩ := vd.one
      by_cases hx : ∃ es, x = .tup es
      · obtain ⟨es', rfl⟩ := hx
        cases (show some es' = some es from e)
        obtain ⟨a, vs, rfl, h1, h2⟩ := vx.tupD
        exact call_tuple_of pins s σ H _ us Q I r ⟨a, vs, rfl, .inr ⟨h1, po.here hr vx q⟩⟩
      · have e' : itemsL x D = some es := by cases x <;> first | exact e | exact absurd ⟨_, rfl⟩ hx
        obtain ⟨a, vs, rfl, h1, h2⟩ := hr.itemsL e' vx
        exact call_tuple_of pins s σ H _ us Q I r ⟨a, vs, rfl, .inl ⟨h1, fun l hl => po.tup hr hl h2 q⟩⟩
  | list =>
    obtain ⟨ro, D, ds, R, hr, vd, q, po⟩ := h
    match ds, q with
    | [x], q =>
      obtain ⟨es, e, q⟩ : ∃ ds, itemsD x D = some ds ∧ R (.ref D.length) (D ++ [DO.lst ds]) := q
      obtain ⟨v, rfl, vx⟩ := vd.one
      obtain ⟨a, vs, rfl, h1, h2⟩ := hr.items e vx
      exact call_list_of pins s σ H _ us Q I r ⟨a, vs, rfl, h1, fun l hl => po.lst hr hl h2 q⟩
  | min =>
    obtain ⟨ro, D, ds, R, hr, vd, q, po⟩ := h
    match ds, q with
    | [x], q =>
      obtain ⟨es, ns, e, f, m, hm, hl, q⟩ : ∃ ds ns, itemsL x D = some ds ∧ toInts ds = some ns ∧ ∃ m ∈ ns, (∀ y ∈ ns, m ≤ y) ∧ R (.int m) D := by cases x <;> exact q
      obtain ⟨v, rfl, vx⟩ := vd.one
      obtain ⟨a, rfl, sq⟩ := int_seq hr e f vx
      refine cr_min hc pins s σ H _ us Q I r ⟨a, ns, rfl, sq, List.length_pos_of_mem hm, fun j hj hk => ?_⟩
      have : j = m := Int.le_antisymm (hk m hm) (hl j hj)
      subst this
      exact po.here hr (d := .int j) (by simp only [VR]) q
    | [x, y], q =>
      obtain ⟨i, j, rfl, rfl, q⟩ : ∃ i j, x = .int i ∧ y = .int j ∧ R (.int (if j < i then j else i)) D := by
        cases x <;> cases y <;> first | exact ⟨_, _, rfl, rfl, q⟩ | exact False.elim q
      obtain ⟨v, u, rfl, vx, vy⟩ := vd.two
      simp only [VR] at vx vy; subst vx; subst vy
      exact call_min2 hc pins s σ H _ us Q I r ⟨i, j, rfl, po.here hr (d := .int _) (by simp only [VR]) q⟩
    | [], q => exact False.elim q
    | _ :: _ :: _ :: _, q => exact False.elim (by revert q; simp [biSem])
  | max =>
    obtain ⟨ro, D, ds, R, hr, vd, q, po⟩ := h
    match ds, q with
    | [x], q =>
      obtain ⟨es, ns, e, f, m, hm, hl, q⟩ : ∃ ds ns, itemsL x D = some ds ∧ toInts ds = some ns ∧ ∃ m ∈ ns, (∀ y ∈ ns, y ≤ m) ∧ R (.int m) D := by cases x <;> exact q
      obtain ⟨v, rfl, vx⟩ := vd.one
      obtain ⟨a, rfl, sq⟩ := int_seq hr e f vx
      refine cr_max hc pins s σ H _ us Q I r ⟨a, ns, rfl, sq, List.length_pos_of_mem hm, fun j hj hk => ?_⟩
      have : j = m := Int.le_antisymm (hl j hj) (hk m hm)
      subst this
      exact po.here hr (d := .int j) (by simp only [VR]) q
    | [x, y], q =>
      obtain ⟨i, j, rfl, rfl, q⟩ : ∃ i j, x = .int i ∧ y = .int j ∧ R (.int (if j > i then j else i)) D := by
        cases x <;> cases y <;> first | exact ⟨_, _, rfl, rfl, q⟩ | exact False.elim q
      obtain ⟨v, u, rfl, vx, vy⟩ := vd.two
      simp only [VR] at vx vy; subst vx; subst vy
      exact call_max2 hc pins s σ H _ us Q I r ⟨i, j, rfl, po.here hr (d := .int _) (by simp only [VR]) q⟩
    | [], q => exact False.elim q
    | _ :: _ :: _ :: _, q => exact False.elim (by revert q; simp [biSem])
  | sum =>
    obtain ⟨ro, D, ds, R, hr, vd, q, po⟩ := h
    match ds, q with
    | [x], q =>
      obtain ⟨es, ns, e, f, q⟩ : ∃ ds ns, itemsL x D = some ds ∧ toInts ds = some ns ∧ R (.int ns.sum) D := q
      obtain ⟨v, rfl, vx⟩ := vd.one
      obtain ⟨a, rfl, sq⟩ := int_seq hr e f vx
      exact cr_sum hc pins s σ H _ us Q I r ⟨a, ns, rfl, sq, po.here hr (d := .int _) (by simp only [VR]) q⟩
  | abs =>
    obtain ⟨ro, D, ds, R, hr, vd, q, po⟩ := h
    match ds, q with
    | [x], q =>
      obtain ⟨i, rfl, q⟩ : ∃ i, x = .int i ∧ R (.int (if i < 0 then -i else i)) D := by cases x <;> first | exact ⟨_, rfl, q⟩ | exact False.elim q
      obtain ⟨v, rfl, vx⟩ := vd.one
      simp only [VR] at vx; subst vx
      exact call_abs pins s σ H _ us Q I r ⟨i, rfl, po.here hr (d := .int _) (by simp only [VR]) q⟩
    | [], q => exact False.elim q
    | _ :: _ :: _, q => exact False.elim (by revert q; simp [biSem])
  | int =>
    obtain ⟨ro, D, ds, R, hr, vd, q, po⟩ := h
    match ds, q with
    | [x], q =>
      obtain ⟨v, rfl, vx⟩ := vd.one
      cases x with
      | int i => simp only [VR] at vx; subst vx; exact call_int1 pins s σ H _ us Q I r (.inl ⟨i, rfl, po.here hr (d := .int _) (by simp only [VR]) q⟩)
      | bl i => simp only [VR] at vx; subst vx; exact call_int1 pins s σ H _ us Q I r (.inr ⟨i, rfl, po.here hr (d := .int _) (by simp only [VR]) q⟩)
      | _ => exact False.elim q
    | [], q => exact False.elim q
    | _ :: _ :: _, q => exact False.elim (by revert q; simp [biSem])
  | bool =>
    obtain ⟨ro, D, ds, R, hr, vd, q, po⟩ := h
    match ds, q with
    | [x], q =>
      obtain ⟨v, rfl, vx⟩ := vd.one
      cases x with
      | int i => simp only [VR] at vx; subst vx; exact call_bool1 pins s σ H _ us Q I r (.inl ⟨i, rfl, po.here hr (d := .bl _) (by simp only [VR]) q⟩)
      | bl i => simp only [VR] at vx; subst vx; exact call_bool1 pins s σ H _ us Q I r (.inr ⟨i, rfl, po.here hr (d := .bl _) (by simp only [VR]) q⟩)
      | _ => exact False.elim q
    | [], q => exact False.elim q
    | _ :: _ :: _, q => exact False.elim (by revert q; simp [biSem])
  | str =>
    obtain ⟨ro, D, ds, R, hr, vd, q, po⟩ := h
    match ds, q with
    | [x], q =>
      obtain ⟨v, rfl, vx⟩ := vd.one
      cases x with
      | int i =>
        obtain ⟨h1, q⟩ : i.natAbs.log2 < 1920 ∧ R (.str (toString i)) D := q
        simp only [VR] at vx; subst vx
        exact call_str_int pins s σ H _ us Q I r ⟨i, rfl, h1, po.here hr (d := .str _) (by simp only [VR]) q⟩
      | tup ds =>
        obtain ⟨n, a, e, h1, h2, h3, q⟩ : ∃ n, shownS n (.tup ds) D R := q
        obtain ⟨p, vs, rfl, h4, h5⟩ := vx.tupH
        obtain ⟨u, rfl, ru⟩ := vals1 r
        obtain ⟨as, rd, nm⟩ := py_reads I sy hr e vx ru
        cases ru
        exact str_of_reads rd h1 (fun _ => nm) hg (by omega) (fun _ _ e => e) (fun h' t tk hk => ⟨.str a.shown, H, I.kept hk, ⟨t, rfl⟩, po.here hr (d := .str a.shown) (by simp only [VR]) q⟩) h3
      | _ => exact False.elim q
    | [], q => exact False.elim q
    | _ :: _ :: _, q => exact False.elim (by revert q; simp [biSem])
  | repr =>
    obtain ⟨ro, D, ds, R, hr, vd, q, po⟩ := h
    match ds, q with
    | [x], q =>
      obtain ⟨n, q⟩ : ∃ n, shownS n x D R := q
      obtain ⟨v, rfl, vx⟩ := vd.one
      obtain ⟨u, rfl, ru⟩ := vals1 r
      exact shown_any hg hu sy I hr vx ru q po
  | any =>
    obtain ⟨ro, D, ds, R, hr, vd, q, po⟩ := h
    match ds, q with
    | [x], q =>
      obtain ⟨es, ns, e, f, q⟩ : ∃ ds bs, itemsL x D = some ds ∧ toBls ds = some bs ∧ R (.bl (bs.any id)) D := q
      obtain ⟨v, rfl, vx⟩ := vd.one
      obtain ⟨a, rfl, sq⟩ := bl_seq hr e f vx
      exact cr_any hc pins s σ H _ us Q I r ⟨a, ns, rfl, sq, po.here hr (d := .bl _) (by simp only [VR]) q⟩
  | all =>
    obtain ⟨ro, D, ds, R, hr, vd, q, po⟩ := h
    match ds, q with
    | [x], q =>
      obtain ⟨es, ns, e, f, q⟩ : ∃ ds bs, itemsL x D = some ds ∧ toBls ds = some bs ∧ R (.bl (bs.all id)) D := q
      obtain ⟨v, rfl, vx⟩ := vd.one
      obtain ⟨a, rfl, sq⟩ := bl_seq hr e f vx
      exact cr_all hc pins s σ H _ us Q I r ⟨a, ns, rfl, sq, po.here hr (d := .bl _) (by simp only [VR]) q⟩
  | isinst =>
    obtain ⟨ro, D, ds, R, hr, vd, q, po⟩ := h
    match ds, q with
    | [x, y], q =>
      obtain ⟨v, w, rfl, vx, vy⟩ := vd.two
      cases y with
      | ty c =>
        obtain ⟨t, e, hk, q⟩ : ∃ t, tyD x D = some t ∧ tyOk c = true ∧ R (.bl (isaT t c)) D := q
        simp only [VR] at vy; subst vy
        exact call_isi pins s σ H _ us Q I r ⟨v, .ty c, _, _, _, rfl, .ty c, tyX_D hr e vx, kit_isa (tyD_mem e) hk, po.here hr (d := .bl _) (by simp only [VR]) q⟩
      | tup cs =>
        obtain ⟨t, ns, e, f, hk, q⟩ : ∃ t ns, tyD x D = some t ∧ tysD cs = some ns ∧ ns.all tyOk = true ∧ R (.bl (ns.any (isaT t))) D := q
        obtain ⟨p, vs, rfl, h1, h2⟩ := vy.tupH
        exact call_isiT pins s σ H _ us Q I r ⟨v, p, vs, _, _, _, rfl, h1, clsV_tys f h2, tyX_D hr e vx, kit_isas (tyD_mem e) hk, po.here hr (d := .bl _) (by simp only [VR]) q⟩
      | _ => exact False.elim q
    | [], q => exact False.elim q
    | [_], q => exact False.elim q
    | _ :: _ :: _ :: _, q => exact False.elim (by revert q; simp [biSem])
end
end Dl
set_option Elab.async false
set_option linter.all false
set_option maxRecDepth 100000
set_option maxHeartbeats 4000000
namespace Dl
open PySem PySem.Spec PyProof.Rows L2
open PySem.AutoSeq1 (wpAny_loadPart')

/-! ### enumerate(tuple) -/
theorem enum_new1 {v : Value} {o : Obj} {G : Heap → Prop} (B : Begins v o G) :
    Meets (Builtin.«enumerate.__new__» ⟨[.type "enumerate", v], []⟩) (fun _ R s => G s.heap ∧
      R (.ok (.ret (.ref (s.heap.push o).objs.size))) { s with heap := (s.heap.push o).push { cls := .type "enumerate", data := .fields #[.none, .bool false, .ref s.heap.objs.size, rawInt 0, .none, .none] } }) :=
  .of_wp fun prog w A R s h => by
    obtain ⟨hp, g, d, tk, os⟩ := s
    obtain ⟨g1, h⟩ := h
    have hsub := sub_enumerate
    have q1 : ∀ {B' : Around} {E : Value → Shared → Prop} {Q : Value → Shared → Prop}, Q (.ref hp.objs.size) ⟨hp.push o, g, d, tk, os⟩ → wpAny (model prog w) B' (pyIter v) Q E ⟨hp, g, d, tk, os⟩ :=
      fun q => B.iter prog w _ _ ⟨hp, g, d, tk, os⟩ _ g1 q
    wp_walk using q1
    refine wpAny_stack_any fun st => wpAny_pure ?_
    split
    · rename_i c _ _ _ _ _
      cases (c == Value.type "enumerate") <;> (wp_walk using q1; exact ⟨_, rfl, h⟩)
    · wp_walk using q1; exact ⟨_, rfl, h⟩
section
variable {prog : Program} {w : World} {A : Around} {E : Value → Shared → Prop} {s : Shared}
theorem enum_one {v : Value} {o : Obj} {G : Heap → Prop} {Q : Value → Shared → Prop} (B : Begins v o G) (g1 : G s.heap)
    (h : ∀ h', IsEnum h' (s.heap.objs.size + 1) s.heap.objs.size 0 .none → h'.get? s.heap.objs.size = some o → (∀ b o, s.heap.get? b = some o → h'.get? b = some o) → Q (.ref (s.heap.objs.size + 1)) { s with heap := h' }) :
    wpAny (model prog w) A (call (.type "enumerate") [v]) Q E s := by
  refine callType_new F.called_enumerate (by decide) (F.typeCall_enumerate_1 _) (F.newCall_enumerate_1 _) (fun obj => F.args_object_init_2 obj _) F.entry_enumerate_new (enum_new1 B) ⟨g1, ?_⟩
  have hz : (s.heap.push o).objs.size = s.heap.objs.size + 1 := Heap.size_push ..
  show _ ∧ _
  rw [hz]
  have he := Heap.get?_push_size (s.heap.push o) (o := { cls := .type "enumerate", data := .fields #[.none, .bool false, .ref s.heap.objs.size, rawInt 0, .none, .none] }) rfl
  rw [hz] at he
  exact ⟨⟨_, he, rfl⟩, h _ he (Heap.get?_push_of_some _ (Heap.get?_push_size _ B.free)) fun b o x => Heap.get?_push_of_some _ (Heap.get?_push_of_some _ x)⟩
end
def IteT (K : PySem.W.Frag) (a : Addr) : It :=
  ⟨fun i H => ∃ (xs : List V) (x : V), SqT K H a xs ∧ xs[i]? = some x, fun i H v H' => ∃ T x, v = .ref T ∧ H T = none ∧ H' = upd H T (.tup [.int (i : Nat), x]) ∧ ∀ xs, SqT K H a xs → xs[i]? = some x,
    fun i H => ∃ xs : List V, SqT K H a xs ∧ xs.length ≤ i⟩
theorem enum_ne {h : Heap} {e it a : Addr} {i : Int} {old : Value} {items : Array Value} (he : IsEnum h e it i old) (p : IsTup h a items) : e ≠ a := by
  intro z
  subst z
  obtain ⟨o, ho, hc, _⟩ := p
  have he' := he
  unfold IsEnum at he'
  rw [he'] at ho; cases ho
  exact absurd hc (by simp)
theorem turn_enumT {P : Program} {w : World} {K : PySem.W.Frag} {elts : List Expr} {kk : Nat} {tpos : Pos} (a e it : Addr) :
    Turn P w K (.Tuple elts kk tpos) (IteT K a) [e, it] e (fun i h => (∃ old, IsEnum h e it ((i : Nat) : Int) old) ∧ h.IsTupleIter it a i ∧ e ≠ it ∧ a ≠ it) where
  mem := List.mem_cons_self
  obj := fun i h st b hb => by
    obtain ⟨⟨old, he⟩, ⟨o, ho, hc, hd⟩, _⟩ := st
    rcases List.mem_cons.mp hb with z | z
    · rw [z]; exact ⟨_, he, fun v q => nomatch q⟩
    · rw [List.mem_singleton.mp z]; exact ⟨o, ho, fun v q => by rw [hd] at q; cases q⟩
  keep := fun i h h' st k => let ⟨⟨old, he⟩, hi, hne⟩ := st; ⟨⟨old, k e List.mem_cons_self _ he⟩, hi.at fun o q => k it (by simp) o q, hne⟩
  item := by
    intro X hP hw hK hc i pins s σ H E I hf st hg
    subst hP hw hK
    obtain ⟨⟨old, he⟩, hit, hne, hna⟩ := st
    obtain ⟨xs, x, hq, hx⟩ := hg
    obtain ⟨its, rv, p, hz⟩ := I.tuple hq
    obtain ⟨u, hu, ru⟩ := rv.get hx
    have hel : e < s.heap.objs.size := Heap.lt_size he
    have hil : it < s.heap.objs.size := by obtain ⟨_, q, _⟩ := hit; exact Heap.lt_size q
    have hlt : i < its.length := (List.getElem?_eq_some_iff.mp hu).1
    refine wpAny_pyNext_enum_itemD (Draws.tuple (A := X.A.in1) (I.ok.hd hc) it a hna its.toArray) he ⟨hit, p⟩ (by simpa using hlt) hne ?_ fun x' h' tk hx' ho hit' hT hsz hk => ?_
    · intro m
      rcases List.mem_cons.mp m with m | m
      · exact hne m
      · exact enum_ne he p (List.mem_singleton.mp m)
    have ex : x' = u := by
      have e1 : its[i]? = some x' := by simpa using hx'
      rw [hu] at e1; cases e1; rfl
    subst ex
    refine ⟨_, rfl, wpAny_letOwnedTupleGo_enum (s := { s with heap := h', toks := tk + 1 }) ho fun h'' he' sb => ?_⟩
    have hT2 : h''.get? s.heap.objs.size = some { cls := .type "tuple", data := .seq #[.int i tk, x'] } := (sb.2 _ (Nat.ne_of_gt hel)).trans hT
    have new : ObjOk X.prog X.w (upd H s.heap.objs.size (.tup [.int (i : Nat), x])) h'' s.heap.objs.size (.tup [.int (i : Nat), x]) :=
      ⟨by show 2 ≤ sizeLine; decide, [.int i tk, x'], .cons ⟨_, rfl⟩ (.cons ru .nil), ⟨_, hT2, rfl, _, rfl⟩⟩
    have I1 : Inv X pins σ (upd H s.heap.objs.size (.tup [.int (i : Nat), x])) { s with heap := h'', toks := tk + 1 } :=
      I.turnedNew (ch := [e, it]) (fun b ob hb q => (sb.2 b (fun z => hb (by simp [z]))).trans (hk b ob (fun z => hb (by simp [z])) (fun z => hb (by simp [z])) q)) hf (Nat.le_refl _) new
    refine ⟨.ref s.heap.objs.size, _, I1, rfl, ⟨_, x, rfl, I.hok.fresh (Nat.le_refl _), rfl, fun ys hy => by rw [I.tuple_inj hy hq]; exact hx⟩, ⟨⟨x', ?_⟩, hit'.1.at fun o q => (sb.2 it (Ne.symm hne)).trans q, hne, hna⟩, fun b hb => ?_⟩
    · have e1 : ((i + 1 : Nat) : Int) = (i : Int) + 1 := by omega
      rw [e1]; exact he'
    · have hb' : b < s.heap.objs.size := by
        rcases List.mem_cons.mp hb with z | z
        · rw [z]; exact hel
        · rw [List.mem_singleton.mp z]; exact hil
      rw [upd_ne (Nat.ne_of_lt hb')]
      exact (hf b hb).1
  done := by
    intro X hP hw hK hc i pins s σ H E I hf st hg
    subst hP hw hK
    obtain ⟨⟨old, he⟩, hit, hne, hna⟩ := st
    obtain ⟨xs, hq, hx⟩ := hg
    obtain ⟨its, rv, p, hz⟩ := I.tuple hq
    obtain ⟨f0, f1, f2, f3, f4, f5⟩ := hf it (by simp)
    have hl := rv.length
    have D : Draws X.prog X.w X.A.in1 it [it, a] i (fun i v => False) (fun j h => j = i ∧ h.IsTupleIter it a i ∧ h.IsTuple a its.toArray) :=
      { live := fun j h st => let ⟨o, ho, _⟩ := st.2.1; ⟨o, ho⟩
        frame := fun j h h' st hk => ⟨st.1, st.2.1.at fun o e => hk it (by simp) o e, st.2.2.at fun o e => hk a (by simp) o e⟩
        item := fun j s Q E hj st hQ => absurd st.1 (Nat.ne_of_lt hj)
        done := fun s Q E st hE => wpAny_nextOf_tuple_end (I.ok.hd hc) st.2.1 st.2.2 (by simp; omega) hE }
    exact wpAny_pyNext_enum_endD D he ⟨rfl, hit, p⟩ fun h' eb => ⟨rfl, I.turned (t' := s.toks) (fun b o hb q => eb b o hb q) f0 f1 f3 f4 f5⟩
  self := fun A i s Q E st h => let ⟨⟨_, he⟩, _⟩ := st; wpAny_pyIter_enum he h
def iEnumT (K : PySem.W.Frag) (ta : TA) : TI := fun σ H R => ta σ H fun vs H1 => ∃ a xs, vs = [.ref a] ∧ SqT K H1 a xs ∧ R (IteT K a) H1
def iEnumA (K : PySem.W.Frag) (ta : TA) : TI := fun σ H R => ta σ H fun vs H1 => ∃ a xs, vs = [.ref a] ∧ ((SqL K H1 a xs ∧ R (Ite K a) H1) ∨ SqT K H1 a xs ∧ R (IteT K a) H1)
theorem pi_enumA {X : Cx} {e : Expr} {ta : TA} {p pos tpos : Pos} {elts : List Expr} {kk : Nat} (hg : Gl X "enumerate") (hm : X.mg "enumerate" = none) (ha : PA X [e] ta) (hs : starEach [e] X.env = [(false, eval e X.env)]) :
    PI X (.Tuple elts kk tpos) (.Call (.Name "enumerate" p) [e] [] pos) (iEnumA X.K ta) := by
  refine ⟨fun pins s σ H R I h => ?_⟩
  refine Call_ (ld_blt I hg hm boot_enumerate (PyProof.Rows.callWith_type1 (thn (ha.run pos pins s σ H _ I h) fun us s1 ⟨vs, H1, I1, r1, q1⟩ => ?_) hs rfl))
  obtain ⟨a, xs, ex, q⟩ := q1
  subst ex
  obtain ⟨u, rfl, ru⟩ := vals1 r1
  cases ru
  have fp : ∀ b ∈ [s1.heap.objs.size + 1, s1.heap.objs.size], FpOk X pins H1 b := fun b hb => by
    have hle : s1.heap.objs.size ≤ b := by
      rcases List.mem_cons.mp hb with z | z
      · rw [z]; exact Nat.le_add_right _ _
      · rw [List.mem_singleton.mp z]; exact Nat.le_refl _
    exact I1.fpOk hle (I1.hok.fresh hle)
  rcases q with ⟨hq, q⟩ | ⟨hq, q⟩
  · obtain ⟨its, rv, p', hz⟩ := I1.list hq
    refine call_enumerate_list p'.isList fun h' he hit hsz hk => wpAny_pyIter_enum he ?_
    have I2 : Inv X pins σ H1 { s1 with heap := h' } := I1.kept (t' := s1.toks) hk
    exact ⟨s1.heap.objs.size + 1, [s1.heap.objs.size + 1, s1.heap.objs.size], _, _, H1, rfl, I2, turn_enum a (s1.heap.objs.size + 1) s1.heap.objs.size, ⟨⟨.none, he⟩, hit, Nat.succ_ne_self _⟩, fp, q⟩
  · obtain ⟨its, rv, p', hz⟩ := I1.tuple hq
    have hna : a < s1.heap.objs.size := by obtain ⟨o, ho, _⟩ := p'; exact Heap.lt_size ho
    refine enum_one (begins_tuple a its.toArray) p' fun h' he hit hk => wpAny_pyIter_enum he ?_
    have I2 : Inv X pins σ H1 { s1 with heap := h' } := I1.kept (t' := s1.toks) hk
    exact ⟨s1.heap.objs.size + 1, [s1.heap.objs.size + 1, s1.heap.objs.size], _, _, H1, rfl, I2, turn_enumT a (s1.heap.objs.size + 1) s1.heap.objs.size, ⟨⟨.none, he⟩, ⟨_, hit, rfl, rfl⟩, Nat.succ_ne_self _, Nat.ne_of_lt hna⟩, fp, q⟩
end Dl
set_option Elab.async false
set_option linter.all false
set_option maxRecDepth 100000
set_option maxHeartbeats 4000000
namespace Dl
open PySem PySem.Spec PyProof.Rows L2

/-! ### what is seen of the text -/
def noStar : Expr → Bool
  | .Starred _ _ => false
  | _ => true
theorem star_cons {e : Expr} {es : List Expr} {env : Env} (h : noStar e = true) : starEach (e :: es) env = (false, eval e env) :: starEach es env := by
  cases e <;> first | rfl | cases h
theorem star_plain {env : Env} {pos : Pos} : ∀ {es : List Expr}, es.all noStar = true → (backTo pos (starEach es env)).any (·.1) = false
  | [], _ => rfl
  | e :: es, h => by
    rw [List.all_cons, Bool.and_eq_true] at h
    rw [star_cons h.1]
    show (false || (backTo pos (starEach es env)).any (·.1)) = false
    rw [star_plain h.2]; rfl
theorem star_all {env : Env} {pos : Pos} : ∀ {es : List Expr}, es.all noStar = true → (backTo pos (starEach es env)).all (fun x => !x.1) = true
  | [], _ => rfl
  | e :: es, h => by
    rw [List.all_cons, Bool.and_eq_true] at h
    rw [star_cons h.1]
    show (true && (backTo pos (starEach es env)).all (fun x => !x.1)) = true
    rw [star_all h.2]; rfl
theorem few_ok {env : Env} {pos : Pos} {es : List Expr} (h : es.all noStar = true) (hl : es.length < 30) : ((backTo pos (starEach es env)).all (fun x => !x.1) && (backToKw pos (keywordEach [] env)).all (fun x => x.1.isSome)
    && decide (es.length + ([] : List Keyword).length + (if ([] : List Keyword).isEmpty then 0 else 1) < 30)) = true := by
  rw [star_all h]
  show (true && true && decide (es.length + 0 + 0 < 30)) = true
  simp only [Bool.true_and, decide_eq_true_eq]
  omega
def noCall : Expr → Bool
  | .Call _ _ _ _ => false
  | _ => true
theorem base_plain {o : Expr} {x : Str} {env : Env} (h : noCall o = true) : attributeBase o x env (eval o env) = eval o env := by
  cases o <;> first | rfl | cases h

/-! ### methods -/
theorem putD_none {κ : Type} [DecidableEq κ] {kvs : List (κ × DV)} {k : κ} {v : DV} (h : valD kvs k = none) : putD kvs k v = kvs ++ [(k, v)] := by
  unfold putD
  rw [if_neg]
  intro c
  obtain ⟨p, hp, e⟩ := List.any_eq_true.mp c
  unfold valD at h
  rw [Option.map_eq_none_iff, List.find?_eq_none] at h
  exact h p hp e
section
variable {X : Cx}
theorem mtTy_ok {m : MT} {K : PySem.W.Frag} {ro : List Addr} {H : Hp} {D : DHp} {x : DV} {v : V} (hr : HR K ro D H) (vr : VR K ro H x v) (h : mtTy m x D) : tyV K m.T v H := by
  have l : isLstD x D → tyV K "list" v H := fun ⟨i, xs, e, g⟩ => by
    subst e
    obtain ⟨a, vs, rfl, _, h1, _⟩ := hr.lst g vr
    exact .inl ⟨rfl, vs, SqL.of h1⟩
  have d : isDkD x D → tyV K "dict" v H := fun ⟨i, e, g⟩ => by
    subst e
    rcases g with ⟨xs, g⟩ | ⟨xs, g⟩
    · obtain ⟨a, vs, rfl, _, h1, _⟩ := hr.dk g vr
      exact .inr (.inr (.inl ⟨rfl, .inl ⟨vs, h1⟩⟩))
    · obtain ⟨a, vs, rfl, _, h1, _⟩ := hr.dt g vr
      exact .inr (.inr (.inl ⟨rfl, .inr ⟨vs, h1⟩⟩))
  cases m <;> first | exact l h | exact d h
theorem mtSlot (m : MT) : PlainAttrs m.T ∧ Slot m.T m.id m.bid ∧ typeOf (.builtin m.bid) = pure (.type "method_descriptor") := by
  cases m
  · exact ⟨F.plainAttrs_list, F.slot_list_append, F.type_list_append⟩
  · exact ⟨F.plainAttrs_list, F.slot_list_extend, F.type_list_extend⟩
  · exact ⟨F.plainAttrs_list, F.slot_list_pop, F.type_list_pop⟩
  · exact ⟨F.plainAttrs_list, F.slot_list_pop, F.type_list_pop⟩
  · exact ⟨F.plainAttrs_dict, F.slot_dict_get, F.type_dict_get⟩
  · exact ⟨F.plainAttrs_dict, F.slot_dict_get, F.type_dict_get⟩
  · exact ⟨F.plainAttrs_dict, F.slot_dict_setdefault, F.type_dict_setdefault⟩
theorem seqIx_bd {k : Int} {n j : Nat} (hn : n ≤ sizeLine) (h : seqIndex? k n = some j) : -(2 ^ 63) ≤ k ∧ k < 2 ^ 63 := by
  have hs : sizeLine = 16777216 := sizeLine_eq
  unfold seqIndex? at h
  constructor <;> (apply Decidable.byContradiction; intro c; split at h <;> (try split at h) <;> first | cases h | (simp_all; omega) | omega)
theorem mt_ok (m : MT) (hu : X.A.units + 64 < cLine) {pins : List (Addr × Obj)} {s : Shared} {σ : L2.St} {H : Hp} {x : V} {xs : List V} {v : Value} {us : List Value} {Q : VK} (I : Inv X pins σ H s) (rx : RelV x v) (rs : Vals xs us)
    (h : liftM X.K (mtSem m) x xs H Q) : wpAny (model X.prog X.w) X.A (call (.builtin m.bid) (v :: us)) (EP X pins σ Q) X.xe s := by
  obtain ⟨ro, D, d, ds, R, hr, vd, vds, q, po⟩ := h
  cases m with
  | lappend =>
    match d, ds, q with
    | .ref i, [y], q =>
      obtain ⟨zs, e, hl, q⟩ : ∃ xs, D[i]? = some (.lst xs) ∧ xs.length < sizeLine ∧ R .non (D.set i (.lst (xs ++ [y]))) := q
      obtain ⟨a, vs, rfl, ea, h1, h2⟩ := hr.lst e vd
      obtain ⟨w, rfl, vw⟩ := vds.one
      have ex := hr.extSet (o := .lst (vs ++ [w])) ea
      exact mt_append pins s σ H _ _ v us Q I rx rs ⟨a, vs, w, rfl, rfl, h1, by rw [← h2.length]; exact hl, po.set hr ea (d := .lst (zs ++ [y])) (x := .non) ⟨_, upd_same, (h2.append (VRs.cons vw VRs.nil)).stay pre_refl ex⟩ (by simp only [VR]) q⟩
  | lextend =>
    match d, ds, q with
    | .ref i, [.ref j], q =>
      obtain ⟨zs, ys, e, f, hl, q⟩ : ∃ xs zs, D[i]? = some (.lst xs) ∧ D[j]? = some (.lst zs) ∧ xs.length + zs.length ≤ sizeLine ∧ R .non (D.set i (.lst (xs ++ zs))) := q
      obtain ⟨a, vs, rfl, ea, h1, h2⟩ := hr.lst e vd
      obtain ⟨w, rfl, vw⟩ := vds.one
      obtain ⟨b, ws, rfl, _, h3, h4⟩ := hr.lst f vw
      have ex := hr.extSet (o := .lst (vs ++ ws)) ea
      exact mt_extend pins s σ H _ _ v us Q I rx rs ⟨a, b, vs, ws, rfl, rfl, h1, h3, by rw [← h2.length, ← h4.length]; exact hl, po.set hr ea (d := .lst (zs ++ ys)) (x := .non) ⟨_, upd_same, (h2.append h4).stay pre_refl ex⟩ (by simp only [VR]) q⟩
  | lpop =>
    match d, ds, q with
    | .ref i, [], q =>
      obtain ⟨zs, y, e, f, q⟩ : ∃ xs y, D[i]? = some (.lst xs) ∧ xs[xs.length - 1]? = some y ∧ R y (D.set i (.lst xs.dropLast)) := q
      obtain ⟨a, vs, rfl, ea, h1, h2⟩ := hr.lst e vd
      have e0 := vds.nil_inv
      subst e0
      obtain ⟨w, f1, f2⟩ := h2.get f
      rw [h2.length] at f1
      have ex := hr.extSet (o := .lst vs.dropLast) ea
      refine mt_pop pins s σ H _ _ v us Q I rx rs ⟨a, vs, w, rfl, rfl, h1, f1, po.set hr ea (d := .lst zs.dropLast) (x := y) ⟨_, upd_same, ?_⟩ f2 q⟩
      rw [List.dropLast_eq_take, List.dropLast_eq_take, ← h2.length]
      exact (h2.take _).stay pre_refl (by rw [List.dropLast_eq_take, ← h2.length] at ex; exact ex)
  | lpopAt =>
    match d, ds, q with
    | .ref i, [.int k], q =>
      obtain ⟨zs, j, y, e, g, f, q⟩ : ∃ xs j y, D[i]? = some (.lst xs) ∧ seqIndex? k xs.length = some j ∧ xs[j]? = some y ∧ R y (D.set i (.lst (xs.eraseIdx j))) := q
      obtain ⟨a, vs, rfl, ea, h1, h2⟩ := hr.lst e vd
      obtain ⟨w0, rfl, vw⟩ := vds.one
      simp only [VR] at vw; subst vw
      obtain ⟨w, f1, f2⟩ := h2.get f
      rw [h2.length] at g
      obtain ⟨b1, b2⟩ := seqIx_bd (I.lstM h1).1 g
      have ex := hr.extSet (o := .lst (vs.eraseIdx j)) ea
      exact mt_popAt pins s σ H _ _ v us Q I rx rs ⟨a, vs, k, j, w, rfl, rfl, h1, b1, b2, g, f1, po.set hr ea (d := .lst (zs.eraseIdx j)) (x := y) ⟨_, upd_same, (h2.eraseIdx j).stay pre_refl ex⟩ f2 q⟩
  | dget =>
    match d, ds, q with
    | .ref i, [k], q =>
      obtain ⟨o, e, q⟩ : ∃ o, getS D i k = some o ∧ R (o.getD .non) D := q
      obtain ⟨w, rfl, vw⟩ := vds.one
      obtain ⟨a, o', rfl, g, ov⟩ := getS_D hr e vd vw
      obtain ⟨u, rfl, ru⟩ := vals1 rs
      cases rx
      refine d_get1 (by omega) I g ru fun w' s' I' rw' => ⟨_, H, I', rw', po.here hr (d := o.getD .non) ?_ q⟩
      cases o with
      | none => cases o' with
        | none => simp only [Option.getD, VR]
        | some z => exact ov.elim
      | some z => cases o' with
        | none => exact ov.elim
        | some z' => exact ov
  | dget2 =>
    match d, ds, q with
    | .ref i, [k, z], q =>
      obtain ⟨o, e, q⟩ : ∃ o, getS D i k = some o ∧ R (o.getD z) D := q
      obtain ⟨w, w2, rfl, vw, vw2⟩ := vds.two
      obtain ⟨a, o', rfl, g, ov⟩ := getS_D hr e vd vw
      obtain ⟨u, u2, rfl, ru, ru2⟩ := vals2 rs
      cases rx
      refine d_get2 (by omega) I g ru ru2 fun w' s' I' rw' => ⟨_, H, I', rw', po.here hr (d := o.getD z) ?_ q⟩
      cases o with
      | none => cases o' with
        | none => exact vw2
        | some z => exact ov.elim
      | some z => cases o' with
        | none => exact ov.elim
        | some z' => exact ov
  | dsetd =>
    match d, ds, q with
    | .ref i, [k, z], q =>
      obtain ⟨kvs, kk, e, ek, hl, q1, q2⟩ : ∃ kvs q, D[i]? = some (.dk kvs) ∧ keyD k = some q ∧ kvs.length < sizeLine ∧ (∀ v, valD kvs q = some v → R v D) ∧ (valD kvs q = none → R z (D.set i (.dk (kvs ++ [(q, z)])))) := q
      obtain ⟨w, w2, rfl, vw, vw2⟩ := vds.two
      obtain ⟨a, ws, rfl, ea, h1, h2⟩ := hr.dk e vd
      obtain ⟨u, u2, rfl, ru, ru2⟩ := vals2 rs
      cases rx
      have ew := keyD_V ek vw
      subst ew
      refine d_setd I h1 ru ru2 (by rw [← h2.len]; exact hl) (fun y hy w' s' I' rw' => ?_) fun hy w' s' I' rw' => ?_
      · rcases h2.val kk with ⟨_, b⟩ | ⟨d, v', b, c, vr⟩
        · rw [b] at hy; cases hy
        · rw [c] at hy; cases hy
          exact ⟨_, H, I', rw', po.here hr vr (q1 _ b)⟩
      · rcases h2.val kk with ⟨b, _⟩ | ⟨d, v', b, c, vr⟩
        · have ep := (h2.put kk vw2)
          rw [putD_none b] at ep
          exact ⟨_, _, I', rw', po.set hr ea (d := .dk (kvs ++ [(kk, z)])) (x := z) ⟨_, upd_same, ep.stay pre_refl (hr.extSet ea)⟩ vw2 (q2 b)⟩
        · rw [c] at hy; cases hy
/-- o.m(e, ..) -/
theorem pe_mt {Z : Org} {m : MT} {o e : Expr} {es : List Expr} {fo : DE} {fa : DA} {apos cpos : Pos} (hu : X.A.units + 64 < cLine) (ho : PE X o (liftE Z X.K fo)) (ha : PA X (e :: es) (liftA Z X.K fa)) (h1 : noCall o = true) (h2 : (e :: es).all noStar = true) (h3 : (e :: es).length < 30)
    (hline : (apos.endLine == cpos.line) = true) :
    PE X (.Call (.Attribute o m.id apos) (e :: es) [] cpos) (liftE Z X.K fun δ D R => fo δ D fun x D1 => mtTy m x D1 ∧ fa δ D1 fun ys D2 => mtSem m x ys D2 R) := by
  refine ⟨fun pins s σ H Q I h => ?_⟩
  obtain ⟨ro, δ, D, R, sr, hr, f, po⟩ := h
  have h0 := lift_bind (Q := fun x H1 => tyV X.K m.T x H1 ∧ liftA Z X.K fa σ H1 fun xs H2 => liftM X.K (mtSem m) x xs H2 Q) sr hr f fun ro1 x D1 v H1 p1 e1 sr1 hr1 vx q1 => ⟨mtTy_ok hr1 vx q1.1,
    lift_bindA sr1 hr1 q1.2 fun ro2 ys D2 us H2 p2 e2 sr2 hr2 vy q2 => ⟨ro2, D2, x, ys, R, hr2, vx.stay p2 e2, vy, q2, po.on (p1.trans p2) (e1.trans e2)⟩⟩
  obtain ⟨pa, slot, hty⟩ := mtSlot m
  refine wpAny_Call_method_late (base_plain h1) (few_ok h2 h3) hline rfl (thn (ho.run pins s σ H _ I h0) fun v s1 ⟨x, H1, I1, r1, ty, q1⟩ => ?_)
  obtain ⟨t1, t2⟩ := tyV_is I1 r1 ty
  refine ⟨m.T, m.bid, pa, slot, hty, t1, t2, ?_⟩
  have hA := ha.run cpos pins s1 σ H1 _ I1 q1
  rw [List.all_cons, Bool.and_eq_true] at h2
  rw [star_cons h2.1] at hA ⊢
  refine Calls.callWith_builtin (by show (false || (backTo cpos (starEach es X.env)).any (·.1)) = false; rw [star_plain h2.2]; rfl) (Calls.evalArgs_plain ?_)
  exact thn hA fun us s2 ⟨vs, H2, I2, r2, q2⟩ => mt_ok m hu I2 r1 r2 q2
/-- o.m() -/
theorem pe_mt0 {Z : Org} {m : MT} {o : Expr} {fo : DE} {apos cpos : Pos} (hu : X.A.units + 64 < cLine) (ho : PE X o (liftE Z X.K fo)) (h1 : noCall o = true) (hline : (apos.endLine == cpos.line) = true) :
    PE X (.Call (.Attribute o m.id apos) [] [] cpos) (liftE Z X.K fun δ D R => fo δ D fun x D1 => mtTy m x D1 ∧ mtSem m x [] D1 R) := by
  refine ⟨fun pins s σ H Q I h => ?_⟩
  obtain ⟨ro, δ, D, R, sr, hr, f, po⟩ := h
  have h0 := lift_bind (Q := fun x H1 => tyV X.K m.T x H1 ∧ liftM X.K (mtSem m) x [] H1 Q) sr hr f fun ro1 x D1 v H1 p1 e1 sr1 hr1 vx q1 => ⟨mtTy_ok hr1 vx q1.1,
    ⟨ro1, D1, x, [], R, hr1, vx, VRs.nil, q1.2, po.on p1 e1⟩⟩
  obtain ⟨pa, slot, hty⟩ := mtSlot m
  refine wpAny_Call_method0_late (base_plain h1) hline (thn (ho.run pins s σ H _ I h0) fun v s1 ⟨x, H1, I1, r1, ty, q1⟩ => ?_)
  obtain ⟨t1, t2⟩ := tyV_is I1 r1 ty
  exact ⟨m.T, m.bid, pa, slot, hty, t1, t2, Calls.callWith_builtin rfl (PySem.evalArgs_none (mt_ok m hu I1 r1 .nil q1))⟩
end
end Dl
set_option Elab.async false
set_option linter.all false
set_option maxRecDepth 100000
set_option maxHeartbeats 4000000
namespace Dl
open PySem PySem.Spec PyProof.Rows L2

/-! ### promises over data -/
def PR (ro : List Addr) : Option Nat → Option Addr → Prop
  | none, d => d = none
  | some i, d => ∃ a, d = some a ∧ ro[i]? = some a
def PostX (K : PySem.W.Frag) (ro : List Addr) (H : Hp) (Ex : DX) (E : XK) : Prop :=
  ∀ ro' D' H' c d p, Pre ro ro' → Ext H H' → HR K ro' D' H' → PR ro' p d → Ex c p D' → E c d H'
def liftSp (K : PySem.W.Frag) (sp : DSp) : Sp := fun vs H Q E => ∃ ro D ds R Ex, HR K ro D H ∧ VRs K ro H ds vs ∧ sp ds D R Ex ∧ Post K ro H R Q ∧ PostX K ro H Ex E
def liftW (Z : Org) (K : PySem.W.Frag) (ex : Value → Option Nat → DSt → DHp → Prop) : WX := fun c d σ H => ∃ ro δ D p, SR Z K ro H δ σ ∧ HR K ro D H ∧ PR ro p d ∧ ex c p δ D
theorem takes_none {X : Cx} {W : WX} (h : ∀ c d σ H, ¬ W c d σ H) : Takes X W := fun u s' ⟨a, B, sI, pins, σ, H, cls, d, e, I, nb, up, sky, na, os, ag, w⟩ => absurd w (h _ _ _ _)

abbrev KC := Nat × List Str × List Nat
structure BindK (fd : FuncData) (ps : List Str) (kc : KC) : Prop where
  to : ∀ (s : Shared) (us ws : List Value), us.length = kc.1 → ws.length = kc.2.1.length → ∃ xs, pickL kc.2.2 (us ++ ws) = some xs ∧ BindsTo s fd ⟨us, kc.2.1.zip ws⟩ (ps.zip xs)
structure FnAt (X : Cx) (f : Str) (ps : List Str) (kcs : List KC) (sp : DSp) : Prop where
  ex : ∃ k a fd, X.mg f = some (.ref a) ∧ PySem.W.keepIn X.K (.ref a) = true ∧ Room k X.A ∧ FnG X.prog X.w X.K X.mg X.base k a fd ps (liftSp X.K sp) ∧
    (∀ s us, us.length = ps.length → BindsTo s fd ⟨us, []⟩ (ps.zip us)) ∧ ∀ kc ∈ kcs, BindK fd ps kc

theorem mapM_cons {α β : Type} {f : α → Option β} {a : α} {l : List α} {ys : List β} (h : (a :: l).mapM f = some ys) : ∃ b r, f a = some b ∧ l.mapM f = some r ∧ ys = b :: r := by
  rw [List.mapM_cons] at h
  obtain ⟨b, e1, h⟩ := Option.bind_eq_some_iff.mp h
  obtain ⟨r, e2, h⟩ := Option.bind_eq_some_iff.mp h
  cases h
  exact ⟨b, r, e1, e2, rfl⟩
theorem pick_rel {K : PySem.W.Frag} {ro : List Addr} {H : Hp} {ds : List DV} {vs : List V} (h : VRs K ro H ds vs) : ∀ {perm : List Nat} {es : List DV}, pickL perm ds = some es → ∃ ws, pickL perm vs = some ws ∧ VRs K ro H es ws
  | [], es, e => by
    unfold pickL at e; rw [List.mapM_nil] at e; cases e
    exact ⟨[], by unfold pickL; rw [List.mapM_nil]; rfl, VRs.nil⟩
  | j :: perm, es, e => by
    obtain ⟨b, r, e1, e2, rfl⟩ := mapM_cons e
    obtain ⟨v, f1, f2⟩ := h.get e1
    obtain ⟨ws, g1, g2⟩ := pick_rel h (perm := perm) e2
    refine ⟨v :: ws, ?_, VRs.cons f2 g2⟩
    unfold pickL at g1 ⊢
    rw [List.mapM_cons, f1, g1]; rfl
theorem pick_vals {vs : List V} {us : List Value} (h : Vals vs us) : ∀ {perm : List Nat} {ws : List V} {xs : List Value}, pickL perm vs = some ws → pickL perm us = some xs → Vals ws xs
  | [], ws, xs, e, f => by
    unfold pickL at e f; rw [List.mapM_nil] at e f; cases e; cases f
    exact .nil
  | j :: perm, ws, xs, e, f => by
    obtain ⟨b, r, e1, e2, rfl⟩ := mapM_cons e
    obtain ⟨c, q, f1, f2, rfl⟩ := mapM_cons f
    obtain ⟨u, g1, g2⟩ := h.get e1
    rw [g1] at f1; cases f1
    exact .cons g2 (pick_vals h e2 f2)

/-! ### calls of defs -/
section
variable {X : Cx} {Z : Org} {f : Str} {ps : List Str} {kcs : List KC} {sp : DSp} {ex : Value → Option Nat → DSt → DHp → Prop} {p pos : Pos}
theorem run_d {k : Nat} {a : Addr} {fd : FuncData} {pins : List (Addr × Obj)} {s : Shared} {σ : L2.St} {H : Hp} {Q : VK} {ro : List Addr} {δ : DSt} {D : DHp} {ds : List DV} {R : DR} {us : List Value} {vs : List V} {args : Args}
    (F : FnG X.prog X.w X.K X.mg X.base k a fd ps (liftSp X.K sp)) (room : Room k X.A) (hg : X.A.guards = some []) (tk : Takes X (liftW Z X.K ex)) (I : Inv X pins σ H s) (hb : BindsTo s fd args (ps.zip us)) (r : Vals vs us)
    (sr : SR Z X.K ro H δ σ) (hr : HR X.K ro D H) (vr : VRs X.K ro H ds vs) (h : sp ds D R fun c p D2 => ex c p δ D2) (po : Post X.K ro H R Q) :
    wpAny (model X.prog X.w) X.A (call (.ref a) args.pos args.kw) (EP X pins σ Q) X.xe s :=
  run_g F room hg tk I hb r ⟨ro, D, ds, R, _, hr, vr, h, po, fun ro' D' H' c d p pr e hr' q x => ⟨ro', δ, D', p, sr.stay pr e, hr', q, x⟩⟩
theorem call_len_of {k : Nat} {a : Addr} {fd : FuncData} (F : FnG X.prog X.w X.K X.mg X.base k a fd ps (liftSp X.K sp)) {H : Hp} {ro : List Addr} {D : DHp} {ds : List DV} {R : DR} {E : DX} {vs : List V} (hr : HR X.K ro D H) (vr : VRs X.K ro H ds vs) (h : sp ds D R E) : vs.length = ps.length :=
  F.len vs H (fun v H' => True) (fun _ _ _ => True) ⟨ro, D, ds, R, E, hr, vr, h, fun _ _ _ _ _ _ _ _ _ _ => True.intro, fun _ _ _ _ _ _ _ _ _ _ _ => True.intro⟩
theorem pe_callD {e : Expr} {es : List Expr} {fa : DA} (F : FnAt X f ps kcs sp) (tk : Takes X (liftW Z X.K ex)) (hg : X.A.guards = some []) (gl : Gl X f) (ha : PA X (e :: es) (liftA Z X.K fa)) (hs : (e :: es).all noStar = true) (hdb : (f == ("__debug__" : Str)) = false) :
    PE X (.Call (.Name f p) (e :: es) [] pos) (liftE Z X.K fun δ D R => fa δ D fun ds D1 => sp ds D1 R fun c p D2 => ex c p δ D2) := by
  obtain ⟨k, a, fd, hm, hk, room, F, bp, _⟩ := F.ex
  refine ⟨fun pins s σ H Q I h => ?_⟩
  obtain ⟨ro, δ, D, R, sr, hr, q, po⟩ := h
  have h0 := lift_bindA (Q := fun vs H1 => ∃ ro1 D1 ds, SR Z X.K ro1 H1 δ σ ∧ HR X.K ro1 D1 H1 ∧ VRs X.K ro1 H1 ds vs ∧ (sp ds D1 R fun c p D2 => ex c p δ D2) ∧ Post X.K ro1 H1 R Q) sr hr q fun ro1 ds D1 vs H1 p1 e1 sr1 hr1 vr q1 => ⟨ro1, D1, ds, sr1, hr1, vr, q1, po.on p1 e1⟩
  refine wpAny_Call_Name_kw (ld_glob I gl hm ?_ hdb)
  rw [List.all_cons, Bool.and_eq_true] at hs
  refine PySem.W.callWith_K (h₀ := X.base) I.ok.mod.kin hk (thn (ha.run pos pins s σ H _ I h0) fun us s1 ⟨vs, H1, I1, r, ro1, D1, ds, sr1, hr1, vr, q1, po1⟩ => ⟨I1.kIn, ?_⟩) (star_cons hs.1) (star_plain hs.2)
  have hl : us.length = ps.length := by rw [← r.length]; exact call_len_of F hr1 vr q1
  exact run_d (args := ⟨us, []⟩) F room hg tk I1 (bp s1 us hl) r sr1 hr1 vr q1 po1
theorem pe_callD0 (F : FnAt X f ps kcs sp) (tk : Takes X (liftW Z X.K ex)) (hg : X.A.guards = some []) (gl : Gl X f) (hdb : (f == ("__debug__" : Str)) = false) :
    PE X (.Call (.Name f p) [] [] pos) (liftE Z X.K fun δ D R => sp [] D R fun c p D2 => ex c p δ D2) := by
  obtain ⟨k, a, fd, hm, hk, room, F, bp, _⟩ := F.ex
  refine ⟨fun pins s σ H Q I h => ?_⟩
  obtain ⟨ro, δ, D, R, sr, hr, q, po⟩ := h
  refine wpAny_Call_Name_kw (ld_glob I gl hm ?_ hdb)
  refine PySem.W.callWith_K0 I.kIn hk ?_
  have hl : ([] : List V).length = ps.length := call_len_of F hr VRs.nil q
  exact run_d (args := ⟨[], []⟩) (us := []) (vs := []) F room hg tk I (bp s [] hl) .nil sr hr VRs.nil q po

/-! ### with keywords -/
def kwNames (kws : List Keyword) : List (Option Str) := kws.map fun k => k.1
def kwExprs (kws : List Keyword) : List Expr := kws.map fun k => k.2
theorem kw_some {env : Env} {pos : Pos} : ∀ {kws : List Keyword} {ks : List Str}, kwNames kws = ks.map some → (backToKw pos (keywordEach kws env)).all (·.1.isSome) = true ∧ (backToKw pos (keywordEach kws env)).filterMap (·.1) = ks ∧ (backToKw pos (keywordEach kws env)).any (·.1.isNone) = false
  | [], ks, h => by
    cases ks with
    | nil => exact ⟨rfl, rfl, rfl⟩
    | cons k ks => cases h
  | ⟨nm, e, kp⟩ :: kws, ks, h => by
    cases ks with
    | nil => cases h
    | cons k ks =>
      have h1 : nm = some k := (List.cons.inj h).1
      have h2 : kwNames kws = ks.map some := (List.cons.inj h).2
      subst h1
      obtain ⟨a, b, c⟩ := kw_some (env := env) (pos := pos) h2
      refine ⟨?_, ?_, ?_⟩
      · show (true && (backToKw pos (keywordEach kws env)).all (·.1.isSome)) = true
        rw [a]; rfl
      · show k :: (backToKw pos (keywordEach kws env)).filterMap (·.1) = k :: ks
        rw [b]
      · show (false || (backToKw pos (keywordEach kws env)).any (·.1.isNone)) = false
        rw [c]; rfl
theorem pe_callKD {es : List Expr} {kws : List Keyword} {fa fk : DA} {kc : KC} (F : FnAt X f ps kcs sp) (hkc : kc ∈ kcs) (tk : Takes X (liftW Z X.K ex)) (hg : X.A.guards = some []) (gl : Gl X f) (ha : PA X es (liftA Z X.K fa)) (hkw : PK X kws (liftA Z X.K fk)) (hn : kwNames kws = kc.2.1.map some)
    (hs : es.all noStar = true) (hl0 : es = [] → ∀ δ D R, fa δ D R → R [] D) (hdb : (f == ("__debug__" : Str)) = false) :
    PE X (.Call (.Name f p) es kws pos) (liftE Z X.K fun δ D R => fa δ D fun ds D1 => ds.length = kc.1 ∧ fk δ D1 fun es D2 => es.length = kc.2.1.length ∧ ∃ fs, pickL kc.2.2 (ds ++ es) = some fs ∧ sp fs D2 R fun c p D3 => ex c p δ D3) := by
  obtain ⟨k, a, fd, hm, hk, room, F, _, bk⟩ := F.ex
  have bk := bk kc hkc
  refine ⟨fun pins s σ H Q I h => ?_⟩
  obtain ⟨ro, δ, D, R, sr, hr, q, po⟩ := h
  obtain ⟨n1, n2, n3⟩ := kw_some (env := X.env) (pos := pos) hn
  -- what is wished of the keywords' values
  let G : List V → Hp → List V → Hp → Prop := fun vs _ zs H2 => ∃ ro2 D2 fs ws, SR Z X.K ro2 H2 δ σ ∧ HR X.K ro2 D2 H2 ∧ vs.length = kc.1 ∧ zs.length = kc.2.1.length ∧ pickL kc.2.2 (vs ++ zs) = some ws ∧ VRs X.K ro2 H2 fs ws ∧ (sp fs D2 R fun c p D3 => ex c p δ D3) ∧ Post X.K ro2 H2 R Q
  have h0 : ∀ {ro1 : List Addr} {D1 : DHp} {H1 : Hp} {vs : List V} {ds : List DV}, Pre ro ro1 → Ext H H1 → SR Z X.K ro1 H1 δ σ → HR X.K ro1 D1 H1 → VRs X.K ro1 H1 ds vs → (ds.length = kc.1 ∧ fk δ D1 fun es D2 => es.length = kc.2.1.length ∧ ∃ fs, pickL kc.2.2 (ds ++ es) = some fs ∧ sp fs D2 R fun c p D3 => ex c p δ D3) → liftA Z X.K fk σ H1 (G vs H1) :=
    fun {ro1 D1 H1 vs ds} p1 e1 sr1 hr1 vr q1 => lift_bindA sr1 hr1 q1.2 fun ro2 es D2 zs H2 p2 e2 sr2 hr2 vz q2 => by
      obtain ⟨l2, fs, pk, q2⟩ := q2
      obtain ⟨ws, g1, g2⟩ := pick_rel ((vr.stay p2 e2).append vz) pk
      exact ⟨ro2, D2, fs, ws, sr2, hr2, by rw [← vr.length]; exact q1.1, by rw [← vz.length]; exact l2, g1, g2, q2, po.on (p1.trans p2) (e1.trans e2)⟩
  have run : ∀ {vs zs : List V} {us ws : List Value} {s2 : Shared} {H1 H2 : Hp}, Inv X pins σ H2 s2 → Vals vs us → Vals zs ws → G vs H1 zs H2 → wpAny (model X.prog X.w) X.A (call (.ref a) us (((backToKw pos (keywordEach kws X.env)).filterMap (·.1)).zip ws)) (EP X pins σ Q) X.xe s2 :=
    fun {vs zs us ws s2 H1 H2} I2 r rz g => by
      obtain ⟨ro2, D2, fs, xs, sr2, hr2, l1, l2, g1, g2, q2, po2⟩ := g
      rw [n2]
      obtain ⟨ys, y1, y2⟩ := bk.to s2 us ws (by rw [← r.length]; exact l1) (by rw [← rz.length]; exact l2)
      exact run_d (args := ⟨us, kc.2.1.zip ws⟩) F room hg tk I2 y2 (pick_vals (r.append rz) g1 y1) sr2 hr2 g2 q2 po2
  refine wpAny_Call_Name_kw (ld_glob I gl hm ?_ hdb)
  match es, ha, hs, hl0 with
  | [], ha, hs, hl0 =>
    have q0 := hl0 rfl δ D _ q
    refine PySem.W.callWith_KW0 (h₀ := X.base) I.ok.mod.kin hk n1 (thn (hkw.run pos pins s σ H _ I (h0 pre_refl (Ext.refl H) sr hr VRs.nil q0)) fun ws s2 ⟨zs, H2, I2, rz, g⟩ => ⟨I2.kIn, ?_⟩) (by rw [n3]; rfl)
    exact run (us := []) (vs := []) (H1 := H) I2 .nil rz g
  | e :: es, ha, hs, hl0 =>
    have hs' := hs
    rw [List.all_cons, Bool.and_eq_true] at hs
    have hA := ha.run pos pins s σ H _ I (lift_bindA (Q := fun vs H1 => liftA Z X.K fk σ H1 (G vs H1)) sr hr q fun ro1 ds D1 vs H1 p1 e1 sr1 hr1 vr q1 => h0 p1 e1 sr1 hr1 vr q1)
    refine PySem.W.callWith_KW (h₀ := X.base) I.ok.mod.kin hk n1 (thn hA fun us s1 ⟨vs, H1, I1, r, q1⟩ => thn (hkw.run pos pins s1 σ H1 _ I1 q1) fun ws s2 ⟨zs, H2, I2, rz, g⟩ => ⟨I2.kIn, ?_⟩) (by rw [star_plain hs', n3]; rfl) (star_cons hs.1)
    exact run (H1 := H1) I2 r rz g
end
end Dl
set_option Elab.async false
set_option linter.all false
set_option maxRecDepth 100000
set_option maxHeartbeats 4000000
namespace Dl
open PySem PySem.Spec PyProof.Rows L2

/-! ### iterators over data -/
structure ItOk (K : PySem.W.Frag) (ro0 : List Addr) (H0 : Hp) (w : DIt) (J : It) : Prop where
  stop : ∀ ro D H i, Pre ro0 ro → Ext H0 H → HR K ro D H → w i D = some none → J.stop i H
  go : ∀ ro D H i d, Pre ro0 ro → Ext H0 H → HR K ro D H → w i D = some (some d) → J.go i H ∧ ∀ x H', J.yld i H x H' → Ext H H' ∧ HR K ro D H' ∧ VR K ro H' d x
def liftI (Z : Org) (K : PySem.W.Frag) (f : DI) : TI := fun σ H R => ∃ ro δ D W, SR Z K ro H δ σ ∧ HR K ro D H ∧ f δ D W ∧ ∀ ro' D' H' w J, Pre ro ro' → Ext H H' → HR K ro' D' H' → ItOk K ro' H' w J → W w D' → R J H'
def liftG (Z : Org) (K : PySem.W.Frag) (g : DG) : TG := fun v σ H Q => ∃ ro δ D d R, SR Z K ro H δ σ ∧ HR K ro D H ∧ VR K ro H d v ∧ g d δ D R ∧ PostS Z K ro H R Q
def liftGs (Z : Org) (K : PySem.W.Frag) (g : DGs) : TGs := fun v σ H Q => ∃ ro δ D d R, SR Z K ro H δ σ ∧ HR K ro D H ∧ VRs K ro H d v ∧ g d δ D R ∧ PostS Z K ro H R Q

/-- a source of items, as a list or a tuple of values -/
inductive SrcOk (K : PySem.W.Frag) (ro0 : List Addr) (H0 : Hp) (w : DIt) (a : Addr) : Bool → Prop where
  | tup (h0 : ∃ xs, SqT K H0 a xs) (h : ∀ ro D H, Pre ro0 ro → Ext H0 H → HR K ro D H → ∀ i r, w i D = some r → ∃ ds xs, SqT K H a xs ∧ VRs K ro H ds xs ∧ r = ds[i]?) : SrcOk K ro0 H0 w a true
  | lst (h0 : ∃ xs, SqL K H0 a xs) (h : ∀ ro D H, Pre ro0 ro → Ext H0 H → HR K ro D H → ∀ i r, w i D = some r → ∃ ds xs, SqL K H a xs ∧ VRs K ro H ds xs ∧ r = ds[i]?) : SrcOk K ro0 H0 w a false
theorem src_of {K : PySem.W.Frag} {ro : List Addr} {H : Hp} {D : DHp} {d : DV} {w : DIt} {v : V} (hr : HR K ro D H) (e : itOf d D = some w) (vr : VR K ro H d v) : ∃ a, v = .ref a ∧ SrcOk K ro H w a (isTupD d) := by
  cases d with
  | tup ds =>
    cases e
    obtain ⟨a, vs, rfl, h1, h2⟩ := vr.tupH
    refine ⟨a, rfl, .tup ⟨vs, SqT.of h1⟩ fun ro' D' H' p ex hr' i r hw => ⟨ds, vs, SqT.of (ex.tup _ _ h1), h2.stay p ex, ?_⟩⟩
    cases hw; rfl
  | frl ns =>
    cases e
    simp only [VR] at vr
    obtain ⟨a, rfl, h⟩ := vr
    refine ⟨a, rfl, .lst ⟨_, h.seq⟩ fun ro' D' H' p ex hr' i r hw => ⟨ns.map .int, ns.map .int, (ex.frl h).seq, VRs.ofInts, ?_⟩⟩
    cases hw
    rw [List.getElem?_map]
  | ref p =>
    cases q : D[p]? with
    | none => simp only [itOf, q] at e; cases e
    | some o =>
      simp only [itOf, q] at e
      cases o with
      | lst ds =>
        obtain ⟨a, vs, rfl, ea, h1, h2⟩ := hr.lst q vr
        cases e
        refine ⟨a, rfl, .lst ⟨vs, SqL.of h1⟩ fun ro' D' H' pr ex hr' i r hw => ?_⟩
        cases q' : D'[p]? with
        | none => simp only [q'] at hw; cases hw
        | some o' =>
          simp only [q'] at hw
          cases o' with
          | lst es =>
            cases hw
            have vr' : VR K ro' H' (.ref p) (.ref a) := by simp only [VR]; exact ⟨a, pr.get ea, rfl⟩
            obtain ⟨a', vs', e', _, h3, h4⟩ := hr'.lst q' vr'
            cases e'
            exact ⟨es, vs', SqL.of h3, h4, rfl⟩
          | _ => cases hw
      | _ => cases e
  | _ => cases e
section
variable {K : PySem.W.Frag} {ro0 : List Addr} {H0 : Hp} {w u : DIt} {a b : Addr}
theorem VRs.at {K : PySem.W.Frag} {ro : List Addr} {H : Hp} {ds : List DV} {xs : List V} (h : VRs K ro H ds xs) {i : Nat} : (ds[i]? = none → xs.length ≤ i) ∧ ∀ d, ds[i]? = some d → ∃ x, xs[i]? = some x ∧ VR K ro H d x := by
  refine ⟨fun e => ?_, fun d e => h.get e⟩
  rw [← h.length]
  exact List.getElem?_eq_none_iff.mp e
theorem itl_ok (h : SrcOk K ro0 H0 w a false) : ItOk K ro0 H0 w (Itl K a) := by
  cases h with
  | lst _ h =>
    refine ⟨fun ro D H i p e hr q => ?_, fun ro D H i d p e hr q => ?_⟩
    · obtain ⟨ds, xs, s, vr, e2⟩ := h ro D H p e hr i _ q
      exact ⟨xs, s, vr.at.1 e2.symm⟩
    · obtain ⟨ds, xs, s, vr, e2⟩ := h ro D H p e hr i _ q
      obtain ⟨x, e3, vx⟩ := vr.at.2 d e2.symm
      refine ⟨⟨xs, x, s, e3⟩, fun y H' ⟨eh, hy⟩ => ?_⟩
      subst eh
      have := hy xs s
      rw [e3] at this; cases this
      exact ⟨Ext.refl _, hr, vx⟩
theorem itt_ok (h : SrcOk K ro0 H0 w a true) : ItOk K ro0 H0 w (Itt K a) := by
  cases h with
  | tup _ h =>
    refine ⟨fun ro D H i p e hr q => ?_, fun ro D H i d p e hr q => ?_⟩
    · obtain ⟨ds, xs, s, vr, e2⟩ := h ro D H p e hr i _ q
      exact ⟨xs, s, vr.at.1 e2.symm⟩
    · obtain ⟨ds, xs, s, vr, e2⟩ := h ro D H p e hr i _ q
      obtain ⟨x, e3, vx⟩ := vr.at.2 d e2.symm
      refine ⟨⟨xs, x, s, e3⟩, fun y H' ⟨eh, hy⟩ => ?_⟩
      subst eh
      have := hy xs s
      rw [e3] at this; cases this
      exact ⟨Ext.refl _, hr, vx⟩
theorem itr_ok (lo : Int) (n : Nat) : ItOk K ro0 H0 (itRange lo n) (Itr lo n) := by
  refine ⟨fun ro D H i p e hr q => ?_, fun ro D H i d p e hr q => ?_⟩
  · have q' : (if i < n then some (DV.int (lo + i)) else none) = none := Option.some.inj q
    show n ≤ i
    by_cases hi : i < n
    · rw [if_pos hi] at q'; cases q'
    · omega
  · have q' : (if i < n then some (DV.int (lo + i)) else none) = some d := Option.some.inj q
    by_cases hi : i < n
    · rw [if_pos hi] at q'; cases q'
      refine ⟨hi, fun y H' ⟨eh, ey⟩ => ?_⟩
      subst eh ey
      exact ⟨Ext.refl _, hr, by simp only [VR]⟩
    · rw [if_neg hi] at q'; cases q'
theorem pair_ok {ro : List Addr} {D : DHp} {H : Hp} {T : Addr} {d e : DV} {x y : V} (hr : HR K ro D H) (n : H T = none) (vx : VR K ro H d x) (vy : VR K ro H e y) : Ext H (upd H T (.tup [x, y])) ∧ HR K ro D (upd H T (.tup [x, y])) ∧ VR K ro (upd H T (.tup [x, y])) (.tup [d, e]) (.ref T) := by
  refine ⟨Ext.new n, hr.junk n, ?_⟩
  simp only [VR]
  exact ⟨T, [x, y], rfl, upd_same, (VRs.cons vx (VRs.cons vy VRs.nil)).stay pre_refl (Ext.new n)⟩
theorem enum_inv {w : DIt} {i : Nat} {D : DHp} {r : Option DV} (h : itEnum w i D = some r) : ∃ o, w i D = some o ∧ r = o.map fun d => .tup [.int i, d] := by
  unfold itEnum at h
  obtain ⟨o, e, f⟩ := Option.map_eq_some_iff.mp h
  exact ⟨o, e, f.symm⟩
theorem ite_ok (h : SrcOk K ro0 H0 w a false) : ItOk K ro0 H0 (itEnum w) (Ite K a) := by
  cases h with
  | lst _ h =>
    refine ⟨fun ro D H i p e hr q => ?_, fun ro D H i d p e hr q => ?_⟩
    · obtain ⟨o, q, eo⟩ := enum_inv q
      cases o with
      | some z => cases eo
      | none =>
        obtain ⟨ds, xs, s, vr, e2⟩ := h ro D H p e hr i _ q
        exact ⟨xs, s, vr.at.1 e2.symm⟩
    · obtain ⟨o, q1, eo⟩ := enum_inv q
      clear q
      have q := q1
      cases o with
      | none => cases eo
      | some z =>
        cases eo
        obtain ⟨ds, xs, s, vr, e2⟩ := h ro D H p e hr i _ q
        obtain ⟨x, e3, vx⟩ := vr.at.2 z e2.symm
        refine ⟨⟨xs, x, s, e3⟩, fun y H' ⟨T, x', ey, hn, eh, hy⟩ => ?_⟩
        subst ey eh
        have := hy xs s
        rw [e3] at this; cases this
        exact pair_ok hr hn (by simp only [VR]) vx
theorem iteT_ok (h : SrcOk K ro0 H0 w a true) : ItOk K ro0 H0 (itEnum w) (IteT K a) := by
  cases h with
  | tup _ h =>
    refine ⟨fun ro D H i p e hr q => ?_, fun ro D H i d p e hr q => ?_⟩
    · obtain ⟨o, q, eo⟩ := enum_inv q
      cases o with
      | some z => cases eo
      | none =>
        obtain ⟨ds, xs, s, vr, e2⟩ := h ro D H p e hr i _ q
        exact ⟨xs, s, vr.at.1 e2.symm⟩
    · obtain ⟨o, q1, eo⟩ := enum_inv q
      clear q
      have q := q1
      cases o with
      | none => cases eo
      | some z =>
        cases eo
        obtain ⟨ds, xs, s, vr, e2⟩ := h ro D H p e hr i _ q
        obtain ⟨x, e3, vx⟩ := vr.at.2 z e2.symm
        refine ⟨⟨xs, x, s, e3⟩, fun y H' ⟨T, x', ey, hn, eh, hy⟩ => ?_⟩
        subst ey eh
        have := hy xs s
        rw [e3] at this; cases this
        exact pair_ok hr hn (by simp only [VR]) vx
theorem zip_inv {w u : DIt} {i : Nat} {D : DHp} {r : Option DV} (h : itZip w u i D = some r) : ∃ o p, w i D = some o ∧ u i D = some p ∧ r = o.bind fun x => p.map fun y => .tup [x, y] := by
  unfold itZip at h
  obtain ⟨o, e, f⟩ := Option.bind_eq_some_iff.mp h
  obtain ⟨p, e2, f2⟩ := Option.map_eq_some_iff.mp f
  exact ⟨o, p, e, e2, f2.symm⟩
theorem itz_ok (h : SrcOk K ro0 H0 w a false) (g : SrcOk K ro0 H0 u b false) : ItOk K ro0 H0 (itZip w u) (Itz K a b) := by
  cases h with
  | lst _ h =>
    cases g with
    | lst _ g =>
      refine ⟨fun ro D H i p e hr q => ?_, fun ro D H i d p e hr q => ?_⟩
      · obtain ⟨o, o2, q, q2, eo⟩ := zip_inv q
        obtain ⟨ds, xs, s, vr, e2⟩ := h ro D H p e hr i _ q
        obtain ⟨es, ys, s2, vr2, e3⟩ := g ro D H p e hr i _ q2
        refine ⟨xs, ys, s, s2, ?_⟩
        cases o with
        | none => exact .inl (vr.at.1 e2.symm)
        | some z => cases o2 with
          | none => exact .inr (vr2.at.1 e3.symm)
          | some z2 => cases eo
      · obtain ⟨o, o2, q, q2, eo⟩ := zip_inv q
        obtain ⟨ds, xs, s, vr, e2⟩ := h ro D H p e hr i _ q
        obtain ⟨es, ys, s2, vr2, e3⟩ := g ro D H p e hr i _ q2
        cases o with
        | none => cases eo
        | some z => cases o2 with
          | none => cases eo
          | some z2 =>
            cases eo
            obtain ⟨x, e4, vx⟩ := vr.at.2 z e2.symm
            obtain ⟨y, e5, vy⟩ := vr2.at.2 z2 e3.symm
            refine ⟨⟨xs, ys, x, y, s, s2, e4, e5⟩, fun v H' ⟨T, x', y', ev, hn, eh, hx, hy⟩ => ?_⟩
            subst ev eh
            have f1 := hx xs s
            have f2 := hy ys s2
            rw [e4] at f1; cases f1
            rw [e5] at f2; cases f2
            exact pair_ok hr hn vx vy
theorem itzT_ok (h : SrcOk K ro0 H0 w a true) (g : SrcOk K ro0 H0 u b true) : ItOk K ro0 H0 (itZip w u) (RZ.ItzT K a b) := by
  cases h with
  | tup _ h =>
    cases g with
    | tup _ g =>
      refine ⟨fun ro D H i p e hr q => ?_, fun ro D H i d p e hr q => ?_⟩
      · obtain ⟨o, o2, q, q2, eo⟩ := zip_inv q
        obtain ⟨ds, xs, s, vr, e2⟩ := h ro D H p e hr i _ q
        obtain ⟨es, ys, s2, vr2, e3⟩ := g ro D H p e hr i _ q2
        refine ⟨xs, ys, s, s2, ?_⟩
        cases o with
        | none => exact .inl (vr.at.1 e2.symm)
        | some z => cases o2 with
          | none => exact .inr (vr2.at.1 e3.symm)
          | some z2 => cases eo
      · obtain ⟨o, o2, q, q2, eo⟩ := zip_inv q
        obtain ⟨ds, xs, s, vr, e2⟩ := h ro D H p e hr i _ q
        obtain ⟨es, ys, s2, vr2, e3⟩ := g ro D H p e hr i _ q2
        cases o with
        | none => cases eo
        | some z => cases o2 with
          | none => cases eo
          | some z2 =>
            cases eo
            obtain ⟨x, e4, vx⟩ := vr.at.2 z e2.symm
            obtain ⟨y, e5, vy⟩ := vr2.at.2 z2 e3.symm
            refine ⟨⟨xs, ys, x, y, s, s2, e4, e5⟩, fun v H' ⟨T, x', y', ev, hn, eh, hx, hy⟩ => ?_⟩
            subst ev eh
            have f1 := hx xs s
            have f2 := hy ys s2
            rw [e4] at f1; cases f1
            rw [e5] at f2; cases f2
            exact pair_ok hr hn vx vy
end

section
variable {X : Cx} {Z : Org} {tg : Expr}
def iSeq (K : PySem.W.Frag) (tl : TE) : TI := fun σ H R => tl σ H fun x H1 => ∃ a, x = .ref a ∧ ((∃ xs, SqL K H1 a xs) ∧ R (Itl K a) H1 ∨ (∃ xs, SqT K H1 a xs) ∧ R (Itt K a) H1)
theorem pi_seq {l : Expr} {tl : TE} (hl : PE X l tl) : PI X tg l (iSeq X.K tl) := by
  refine ⟨fun pins s σ H R I h => ?_⟩
  refine thn (hl.run pins s σ H _ I h) fun v s1 ⟨x, H1, I1, r1, a, e, q⟩ => ?_
  subst e
  cases r1
  have fp : ∀ b ∈ [s1.heap.objs.size], FpOk X pins H1 b := fun b hb => by
    rw [List.mem_singleton.mp hb]
    exact I1.fpOk (Nat.le_refl _) (I1.hok.fresh (Nat.le_refl _))
  rcases q with ⟨⟨xs, hq⟩, q⟩ | ⟨⟨xs, hq⟩, q⟩
  · obtain ⟨its, rv, p, hz⟩ := I1.list hq
    exact wpAny_pyIter_list p.isList ⟨s1.heap.objs.size, [s1.heap.objs.size], _, _, H1, rfl, I1.kept (t' := s1.toks) fun b o e => Heap.get?_push_of_some _ e, turn_list a _, ⟨_, Heap.get?_push_size _ rfl, rfl, rfl⟩, fp, q⟩
  · obtain ⟨its, rv, p, hz⟩ := I1.tuple hq
    exact wpAny_pyIter_tuple (show s1.heap.IsTuple a its.toArray from p) ⟨s1.heap.objs.size, [s1.heap.objs.size], _, _, H1, rfl, I1.kept (t' := s1.toks) fun b o e => Heap.get?_push_of_some _ e, turn_tuple a _, ⟨_, Heap.get?_push_size _ rfl, rfl, rfl⟩, fp, q⟩
theorem PI.imp {e : Expr} {t t' : TI} (h : PI X tg e t) (m : ∀ σ H R, t' σ H R → t σ H R) : PI X tg e t' := ⟨fun pins s σ H R I q => h.run pins s σ H R I (m σ H R q)⟩
theorem pi_ofD {e : Expr} {f : DE} (he : PE X e (liftE Z X.K f)) : PI X tg e (liftI Z X.K fun δ D R => f δ D fun x D1 => ∃ w, itOf x D1 = some w ∧ R w D1) := by
  refine PI.imp (pi_seq he) fun σ H R ⟨ro, δ, D, W, sr, hr, q, k⟩ => ?_
  refine lift_bind sr hr q fun ro1 x D1 v H1 p1 e1 sr1 hr1 vx ⟨w, ew, q1⟩ => ?_
  obtain ⟨a, ev, src⟩ := src_of hr1 ew vx
  refine ⟨a, ev, ?_⟩
  cases hb : isTupD x with
  | true => rw [hb] at src; exact .inr ⟨by cases src with | tup h0 _ => exact h0, k ro1 D1 H1 w _ p1 e1 hr1 (itt_ok src) q1⟩
  | false => rw [hb] at src; exact .inl ⟨by cases src with | lst h0 _ => exact h0, k ro1 D1 H1 w _ p1 e1 hr1 (itl_ok src) q1⟩
theorem pi_r1 {a : Expr} {p pos : Pos} {f : DE} (hg : Gl X "range") (hm : X.mg "range" = none) (hs : noStar a = true) (ha : PE X a (liftE Z X.K f)) :
    PI X tg (.Call (.Name "range" p) [a] [] pos) (liftI Z X.K fun δ D R => f δ D fun x D1 => ∃ j : Int, x = .int j ∧ -(2 ^ 62) ≤ j ∧ j < 2 ^ 62 ∧ R (itRange 0 j.toNat) D1) := by
  refine PI.imp (pi_range1 hg hm (pa_cons ha pa_nil (star_cons hs)) (star_cons hs)) fun σ H R ⟨ro, δ, D, W, sr, hr, q, k⟩ => ?_
  refine lift_bind sr hr q fun ro1 x D1 v H1 p1 e1 sr1 hr1 vx ⟨j, ej, h1, h2, q1⟩ => ?_
  subst ej
  simp only [VR] at vx; subst vx
  exact ⟨j, rfl, h1, h2, k ro1 D1 H1 _ _ p1 e1 hr1 (itr_ok 0 _) q1⟩
theorem pi_r2 {a b : Expr} {p pos : Pos} {f g : DE} (hg : Gl X "range") (hm : X.mg "range" = none) (hs : noStar a = true) (hs2 : noStar b = true) (ha : PE X a (liftE Z X.K f)) (hb : PE X b (liftE Z X.K g)) :
    PI X tg (.Call (.Name "range" p) [a, b] [] pos) (liftI Z X.K fun δ D R => f δ D fun x D1 => g δ D1 fun y D2 => ∃ i j : Int, x = .int i ∧ y = .int j ∧ (-(2 ^ 62) ≤ i ∧ i < 2 ^ 62 ∧ -(2 ^ 62) ≤ j ∧ j < 2 ^ 62) ∧ R (itRange i (j - i).toNat) D2) := by
  have e2 : starEach [b] X.env = [(false, eval b X.env)] := star_cons hs2
  have e1 : starEach [a, b] X.env = [(false, eval a X.env), (false, eval b X.env)] := (star_cons hs).trans (by rw [e2])
  refine PI.imp (pi_range2 hg hm (pa_cons ha (pa_cons hb pa_nil (star_cons hs2)) (star_cons hs)) e1 e2) fun σ H R ⟨ro, δ, D, W, sr, hr, q, k⟩ => ?_
  refine lift_bind sr hr q fun ro1 x D1 v H1 p1 e1 sr1 hr1 vx q1 => ?_
  refine lift_bind sr1 hr1 q1 fun ro2 y D2 u H2 p2 e2 sr2 hr2 vy ⟨i, j, ei, ej, h1, q2⟩ => ?_
  subst ei ej
  simp only [VR] at vx vy; subst vx; subst vy
  exact ⟨i, j, rfl, h1, k ro2 D2 H2 _ _ (p1.trans p2) (e1.trans e2) hr2 (itr_ok i _) q2⟩
theorem pi_en {elts : List Expr} {kk : Nat} {tpos : Pos} {a : Expr} {p pos : Pos} {f : DE} (hg : Gl X "enumerate") (hm : X.mg "enumerate" = none) (hs : noStar a = true) (ha : PE X a (liftE Z X.K f)) :
    PI X (.Tuple elts kk tpos) (.Call (.Name "enumerate" p) [a] [] pos) (liftI Z X.K fun δ D R => f δ D fun x D1 => ∃ w, itOf x D1 = some w ∧ R (itEnum w) D1) := by
  refine PI.imp (pi_enumA hg hm (pa_cons ha pa_nil (star_cons hs)) (star_cons hs)) fun σ H R ⟨ro, δ, D, W, sr, hr, q, k⟩ => ?_
  refine lift_bind sr hr q fun ro1 x D1 v H1 p1 e1 sr1 hr1 vx ⟨w, ew, q1⟩ => ?_
  obtain ⟨a, ev, src⟩ := src_of hr1 ew vx
  subst ev
  cases hb : isTupD x with
  | true =>
    rw [hb] at src
    obtain ⟨xs, h0⟩ : ∃ xs, SqT X.K H1 a xs := by cases src with | tup h0 _ => exact h0
    exact ⟨a, xs, rfl, .inr ⟨h0, k ro1 D1 H1 _ _ p1 e1 hr1 (iteT_ok src) q1⟩⟩
  | false =>
    rw [hb] at src
    obtain ⟨xs, h0⟩ : ∃ xs, SqL X.K H1 a xs := by cases src with | lst h0 _ => exact h0
    exact ⟨a, xs, rfl, .inl ⟨h0, k ro1 D1 H1 _ _ p1 e1 hr1 (ite_ok src) q1⟩⟩
theorem SrcOk.stay {K : PySem.W.Frag} {ro ro' : List Addr} {H H' : Hp} {w : DIt} {a : Addr} (p : Pre ro ro') (e : Ext H H') {b : Bool} (hr : b = false → ∃ xs, SqL K H' a xs) (h : SrcOk K ro H w a b) : SrcOk K ro' H' w a b := by
  cases h with
  | tup h0 h => exact .tup (let ⟨xs, q⟩ := h0; ⟨xs, e.seqT q⟩) fun ro2 D2 H2 p2 e2 => h ro2 D2 H2 (p.trans p2) (e.trans e2)
  | lst h0 h => exact .lst (hr rfl) fun ro2 D2 H2 p2 e2 => h ro2 D2 H2 (p.trans p2) (e.trans e2)
theorem pi_zp {elts : List Expr} {kk : Nat} {tpos : Pos} {a b : Expr} {p pos : Pos} {f g : DE} (hg : Gl X "zip") (hm : X.mg "zip" = none) (hs : noStar a = true) (hs2 : noStar b = true) (ha : PE X a (liftE Z X.K f)) (hb : PE X b (liftE Z X.K g)) :
    PI X (.Tuple elts kk tpos) (.Call (.Name "zip" p) [a, b] [] pos) (liftI Z X.K fun δ D R => f δ D fun x D1 => g δ D1 fun y D2 => ∃ v w, isTupD x = isTupD y ∧ itOf x D2 = some v ∧ itOf y D2 = some w ∧ R (itZip v w) D2) := by
  refine PI.imp (RZ.pi_zipA hg hm (pa_cons ha (pa_cons hb pa_nil (star_cons hs2)) (star_cons hs)) (star_cons hs) (star_plain (by simp [hs2]))) fun σ H R ⟨ro, δ, D, W, sr, hr, q, k⟩ => ?_
  refine lift_bind sr hr q fun ro1 x D1 v H1 p1 e1 sr1 hr1 vx q1 => ?_
  refine lift_bind sr1 hr1 q1 fun ro2 y D2 u H2 p2 e2 sr2 hr2 vy ⟨w1, w2, eb, ew1, ew2, q2⟩ => ?_
  obtain ⟨a, ev, src⟩ := src_of hr2 ew1 (vx.stay p2 e2)
  obtain ⟨b, eu, src2⟩ := src_of hr2 ew2 vy
  subst ev eu
  rw [← eb] at src2
  cases hb : isTupD x with
  | true =>
    rw [hb] at src src2
    obtain ⟨xs, h0⟩ : ∃ xs, SqT X.K H2 a xs := by cases src with | tup h0 _ => exact h0
    obtain ⟨ys, h1⟩ : ∃ xs, SqT X.K H2 b xs := by cases src2 with | tup h0 _ => exact h0
    exact ⟨a, b, xs, ys, rfl, .inr ⟨h0, h1, k ro2 D2 H2 _ _ (p1.trans p2) (e1.trans e2) hr2 (itzT_ok src src2) q2⟩⟩
  | false =>
    rw [hb] at src src2
    obtain ⟨xs, h0⟩ : ∃ xs, SqL X.K H2 a xs := by cases src with | lst h0 _ => exact h0
    obtain ⟨ys, h1⟩ : ∃ xs, SqL X.K H2 b xs := by cases src2 with | lst h0 _ => exact h0
    exact ⟨a, b, xs, ys, rfl, .inl ⟨h0, h1, k ro2 D2 H2 _ _ (p1.trans p2) (e1.trans e2) hr2 (itz_ok src src2) q2⟩⟩
end
end Dl
set_option Elab.async false
set_option linter.all false
set_option maxRecDepth 100000
set_option maxHeartbeats 4000000
namespace Dl
open PySem PySem.Spec PyProof.Rows L2

/-! ### what is forgotten -/
section
variable {K : PySem.W.Frag} {ro : List Addr} {H : Hp}
mutual
theorem VR.wf : ∀ {d : DV} {v : V}, VR K ro H d v → wfV ro.length d = true
  | .non, _, _ | .bl _, _, _ | .int _, _, _ | .str _, _, _ | .ty _, _, _ | .obj _, _, _ | .frl _, _, _ => by simp only [wfV]
  | .ref i, _, h => by
    simp only [VR] at h
    obtain ⟨a, h1, _⟩ := h
    simp only [wfV, decide_eq_true_eq]
    exact (List.getElem?_eq_some_iff.mp h1).1
  | .tup ds, _, h => by
    simp only [VR] at h
    obtain ⟨a, vs, _, _, h3⟩ := h
    simp only [wfV]
    exact VRs.wf h3
theorem VRs.wf : ∀ {ds : List DV} {vs : List V}, VRs K ro H ds vs → wfVs ro.length ds = true
  | [], _, _ => by simp only [wfVs]
  | d :: ds, _, h => by
    simp only [VRs] at h
    obtain ⟨v, r, _, h1, h2⟩ := h
    simp only [wfVs, Bool.and_eq_true]
    exact ⟨VR.wf h1, VRs.wf h2⟩
end
mutual
theorem VR.cut {k : Nat} : ∀ {d : DV} {v : V}, VR K ro H d v → wfV k d = true → VR K (ro.take k) H d v
  | .non, _, h, _ | .bl _, _, h, _ | .int _, _, h, _ | .str _, _, h, _ | .ty _, _, h, _ | .obj _, _, h, _ | .frl _, _, h, _ => by simpa only [VR] using h
  | .ref i, _, h, w => by
    simp only [VR] at h ⊢
    obtain ⟨a, h1, h2⟩ := h
    simp only [wfV, decide_eq_true_eq] at w
    exact ⟨a, by rw [List.getElem?_take_of_lt w]; exact h1, h2⟩
  | .tup ds, _, h, w => by
    simp only [VR] at h ⊢
    obtain ⟨a, vs, h1, h2, h3⟩ := h
    simp only [wfV] at w
    exact ⟨a, vs, h1, h2, VRs.cut h3 w⟩
theorem VRs.cut {k : Nat} : ∀ {ds : List DV} {vs : List V}, VRs K ro H ds vs → wfVs k ds = true → VRs K (ro.take k) H ds vs
  | [], _, h, _ => by simpa only [VRs] using h
  | d :: ds, _, h, w => by
    simp only [VRs] at h ⊢
    obtain ⟨v, r, h1, h2, h3⟩ := h
    simp only [wfVs, Bool.and_eq_true] at w
    exact ⟨v, r, h1, VR.cut h2 w.1, VRs.cut h3 w.2⟩
end
mutual
theorem wfV_le {j k : Nat} (h : j ≤ k) : ∀ {d : DV}, wfV j d = true → wfV k d = true
  | .non, _ | .bl _, _ | .int _, _ | .str _, _ | .ty _, _ | .obj _, _ | .frl _, _ => by simp only [wfV]
  | .ref i, w => by
    simp only [wfV, decide_eq_true_eq] at w ⊢
    omega
  | .tup ds, w => by
    simp only [wfV] at w ⊢
    exact wfVs_le h w
theorem wfVs_le {j k : Nat} (h : j ≤ k) : ∀ {ds : List DV}, wfVs j ds = true → wfVs k ds = true
  | [], _ => by simp only [wfVs]
  | d :: ds, w => by
    simp only [wfVs, Bool.and_eq_true] at w ⊢
    exact ⟨wfV_le h w.1, wfVs_le h w.2⟩
end
theorem KR.wf {κ : Type} {kvs : List (κ × DV)} {ws : List (κ × V)} (h : KR K ro H kvs ws) : (kvs.all fun p => wfV ro.length p.2) = true := by
  induction h with
  | nil => rfl
  | cons r t ih => rw [List.all_cons, ih, r.2.wf]; rfl
theorem KR.cut {κ : Type} {k : Nat} {kvs : List (κ × DV)} {ws : List (κ × V)} (h : KR K ro H kvs ws) (w : (kvs.all fun p => wfV k p.2) = true) : KR K (ro.take k) H kvs ws := by
  induction h with
  | nil => exact .nil
  | cons r t ih =>
    rw [List.all_cons, Bool.and_eq_true] at w
    exact .cons ⟨r.1, r.2.cut w.1⟩ (ih w.2)
theorem OR.wf {a : Addr} {o : DO} (h : OR K ro H a o) : wfO ro.length o = true := by
  cases o with
  | lst ds => obtain ⟨vs, _, h2⟩ := h; exact h2.wf
  | dk ds => obtain ⟨vs, _, h2⟩ := h; exact h2.wf
  | dt ds => obtain ⟨vs, _, h2⟩ := h; exact h2.wf
  | ins C ds => obtain ⟨dx, vs, _, h2⟩ := h; exact h2.wf
theorem wfK_le {κ : Type} {j k : Nat} (h : j ≤ k) {kvs : List (κ × DV)} (w : (kvs.all fun p => wfV j p.2) = true) : (kvs.all fun p => wfV k p.2) = true :=
  List.all_eq_true.mpr fun p hp => wfV_le h (List.all_eq_true.mp w p hp)
theorem wfO_le {j k : Nat} (h : j ≤ k) {o : DO} (w : wfO j o = true) : wfO k o = true := by
  cases o with
  | lst ds => exact wfVs_le h w
  | dk ds => exact wfK_le h w
  | dt ds => exact wfK_le h w
  | ins C ds => exact wfK_le h w
theorem OR.cut {k : Nat} {a : Addr} {o : DO} (h : OR K ro H a o) (w : wfO k o = true) : OR K (ro.take k) H a o := by
  cases o with
  | lst ds => obtain ⟨vs, h1, h2⟩ := h; exact ⟨vs, h1, h2.cut w⟩
  | dk ds => obtain ⟨vs, h1, h2⟩ := h; exact ⟨vs, h1, h2.cut w⟩
  | dt ds => obtain ⟨vs, h1, h2⟩ := h; exact ⟨vs, h1, h2.cut w⟩
  | ins C ds => obtain ⟨dx, vs, h1, h2⟩ := h; exact ⟨dx, vs, h1, h2.cut w⟩
theorem HR.cut {D : DHp} {k : Nat} (hr : HR K ro D H) (w : ∀ i o, i < k → D[i]? = some o → wfO k o = true) : HR K (ro.take k) (D.take k) H := by
  refine ⟨by rw [List.length_take, List.length_take, hr.len], hr.nd.sublist (List.take_sublist _ _), fun i o a e r => ?_⟩
  have hi : i < k := by
    have := (List.getElem?_eq_some_iff.mp e).1
    rw [List.length_take] at this; omega
  rw [List.getElem?_take_of_lt hi] at e r
  exact (hr.ob i o a e r).cut (w i o hi e)
theorem HR.okCut {ro0 : List Addr} {D0 D : DHp} {H0 : Hp} {k : Nat} (h0 : HR K ro0 D0 H0) (hr : HR K ro D H) (c : OkCut D0 k D) : HR K (ro.take k) (D.take k) H := by
  refine hr.cut fun i o hi e => ?_
  rcases c.2 i o hi e with z | z
  · obtain ⟨a, _, q⟩ := h0.addr z
    exact wfO_le (by rw [h0.len]; exact c.1) q.wf
  · exact z
theorem pre_cut {ro0 : List Addr} {k : Nat} (p : Pre ro0 ro) (h : ro0.length ≤ k) : Pre ro0 (ro.take k) := by
  obtain ⟨t, rfl⟩ := p
  rw [List.take_append, List.take_of_length_le h]
  exact List.prefix_append _ _
end

/-- the store and the slots after something was forgotten -/
theorem fgt_ok {Z : Org} {K : PySem.W.Frag} {ro1 ro : List Addr} {H1 H : Hp} {D1 D : DHp} {δ1 δ : DSt} {σ1 σ : L2.St} {P : DSt → DHp → Prop} (h0 : HR K ro1 D1 H1) (s0 : SR Z K ro1 H1 δ1 σ1) (p : Pre ro1 ro) (e : Ext H1 H) (hr : HR K ro D H) (sr : SR Z K ro H δ σ)
    (h : Fgt δ1 D1 P δ D) : ∃ ro' δ' D', Pre ro1 ro' ∧ SR Z K ro' H δ' σ ∧ HR K ro' D' H ∧ P δ' D' := by
  rcases h with h | ⟨k, δ', c, st, h⟩
  · exact ⟨ro, δ, D, p, sr, hr, h⟩
  · have hk : ro1.length ≤ k := by rw [h0.len]; exact c.1
    have p' := pre_cut p hk
    refine ⟨ro.take k, δ', D.take k, p', ⟨s0.pre.trans p', s0.ext.trans e, by rw [st.1]; exact sr.len, fun i d q => ?_⟩, h0.okCut hr c, h⟩
    obtain ⟨q1, q2⟩ := st.2 i d q
    obtain ⟨v, e1, e2⟩ := sr.at_ i d q1
    refine ⟨v, e1, e2.cut ?_⟩
    rcases q2 with q2 | q2
    · exact q2
    · obtain ⟨v', _, e3⟩ := s0.at_ i d q2
      exact wfV_le hk e3.wf
theorem fgt_ok0 {K : PySem.W.Frag} {ro1 ro : List Addr} {H1 H : Hp} {D1 D : DHp} {P : DHp → Prop} (h0 : HR K ro1 D1 H1) (p : Pre ro1 ro) (e : Ext H1 H) (hr : HR K ro D H)
    (h : Fgt [] D1 (fun _ D => P D) [] D) : ∃ ro' D', Pre ro1 ro' ∧ HR K ro' D' H ∧ P D' := by
  rcases h with h | ⟨k, δ', c, st, h⟩
  · exact ⟨ro, D, p, hr, h⟩
  · exact ⟨ro.take k, D.take k, pre_cut p (by rw [h0.len]; exact c.1), h0.okCut hr c, h⟩

/-! ### slots -/
theorem wipe_get {σ : L2.St} : ∀ {vs : List Nat} {i : Nat}, (wipe σ vs)[i]? = if i ∈ vs then (σ[i]?).map fun _ => none else σ[i]?
  | [], i => by simp [wipe]
  | v :: vs, i => by
    unfold wipe
    rw [List.getElem?_set]
    by_cases hv : v = i
    · subst hv
      rw [if_pos rfl, if_pos List.mem_cons_self, wipe_length]
      by_cases hl : v < σ.length
      · rw [if_pos hl, List.getElem?_eq_getElem hl]; rfl
      · rw [if_neg hl, List.getElem?_eq_none (by omega)]; rfl
    · rw [if_neg hv, wipe_get]
      have hne : ¬ i = v := fun z => hv z.symm
      by_cases hi : i ∈ vs
      · rw [if_pos hi, if_pos (List.mem_cons_of_mem _ hi)]
      · rw [if_neg hi, if_neg (by simp only [List.mem_cons, not_or]; exact ⟨hne, hi⟩)]
theorem wipe_same {σ τ : L2.St} {vs : List Nat} : wipe σ vs = wipe τ vs ↔ σ.length = τ.length ∧ ∀ i, i ∉ vs → σ[i]? = τ[i]? := by
  constructor
  · intro h
    have hl : σ.length = τ.length := by rw [← wipe_length σ vs, h, wipe_length]
    refine ⟨hl, fun i hi => ?_⟩
    have e1 := wipe_get (σ := σ) (vs := vs) (i := i)
    rw [h, wipe_get, if_neg hi, if_neg hi] at e1
    exact e1.symm
  · rintro ⟨hl, h⟩
    apply List.ext_getElem?
    intro i
    rw [wipe_get, wipe_get]
    by_cases hi : i ∈ vs
    · rw [if_pos hi, if_pos hi]
      by_cases hb : i < σ.length
      · rw [List.getElem?_eq_getElem hb, List.getElem?_eq_getElem (by omega)]; rfl
      · rw [List.getElem?_eq_none (by omega), List.getElem?_eq_none (by omega)]
    · rw [if_neg hi, if_neg hi, h i hi]
theorem wipeD_get {δ : DSt} : ∀ {vs : List Nat} {i : Nat} {d : DV}, (wipeD δ vs)[i]? = some (some d) → δ[i]? = some (some d) ∧ i ∉ vs
  | [], i, d, h => ⟨h, by simp⟩
  | v :: vs, i, d, h => by
    unfold wipeD at h
    rw [List.getElem?_set] at h
    by_cases hv : v = i
    · rw [if_pos hv] at h
      split at h <;> cases h
    · rw [if_neg hv] at h
      obtain ⟨h1, h2⟩ := wipeD_get h
      exact ⟨h1, by simp only [List.mem_cons, not_or]; exact ⟨fun e => hv e.symm, h2⟩⟩
theorem wipeD_length (δ : DSt) : ∀ vs : List Nat, (wipeD δ vs).length = δ.length
  | [] => rfl
  | v :: vs => by unfold wipeD; rw [List.length_set, wipeD_length δ vs]
section
variable {Z : Org} {K : PySem.W.Frag} {ro : List Addr} {H : Hp} {δ : DSt} {σ : L2.St}
theorem SR.wipe (h : SR Z K ro H δ σ) (vs : List Nat) : SR Z K ro H (wipeD δ vs) (L2.wipe σ vs) :=
  ⟨h.pre, h.ext, by rw [wipeD_length, wipe_length]; exact h.len, fun i d e => by
    obtain ⟨h1, h2⟩ := wipeD_get e
    obtain ⟨v, e1, e2⟩ := h.at_ i d h1
    exact ⟨v, by rw [wipe_get, if_neg h2]; exact e1, e2⟩⟩
theorem SR.set (h : SR Z K ro H δ σ) {i : Nat} {d : DV} {v : V} (vr : VR K ro H d v) : SR Z K ro H (δ.set i (some d)) (σ.set i (some v)) :=
  ⟨h.pre, h.ext, by rw [List.length_set, List.length_set]; exact h.len, fun j e q => by
    rw [List.getElem?_set] at q ⊢
    by_cases hj : i = j
    · rw [if_pos hj] at q ⊢
      rw [← h.len]
      split at q
      · rename_i hl
        cases q
        rw [if_pos hl]; exact ⟨v, rfl, vr⟩
      · cases q
    · rw [if_neg hj] at q ⊢
      exact h.at_ j e q⟩
end

/-! ### targets -/
def PostG (Z : Org) (K : PySem.W.Frag) (ro : List Addr) (H : Hp) (σ : L2.St) (sl : List Nat) (R : DSt → DHp → Prop) (Q : L2.St → Hp → Prop) : Prop :=
  ∀ ro' δ' D' σ' H', Pre ro ro' → Ext H H' → HR K ro' D' H' → SR Z K ro' H' δ' σ' → L2.wipe σ' sl = L2.wipe σ sl → R δ' D' → Q σ' H'
def liftGW (Z : Org) (K : PySem.W.Frag) (sl : List Nat) (g : DG) : TG := fun v σ H Q => ∃ ro δ D d R, SR Z K ro H δ σ ∧ HR K ro D H ∧ VR K ro H d v ∧ g d δ D R ∧ PostG Z K ro H σ sl R Q
def liftGsW (Z : Org) (K : PySem.W.Frag) (sl : List Nat) (g : DGs) : TGs := fun v σ H Q => ∃ ro δ D d R, SR Z K ro H δ σ ∧ HR K ro D H ∧ VRs K ro H d v ∧ g d δ D R ∧ PostG Z K ro H σ sl R Q
section
variable {X : Cx} {Z : Org}
theorem PG.imp {e : Expr} {t t' : TG} (h : PG X e t) (m : ∀ v σ H Q, t' v σ H Q → t v σ H Q) : PG X e t' := ⟨fun pins s σ H v u Q I r q => h.run pins s σ H v u Q I r (m v σ H Q q)⟩
theorem PGs.imp {e : List Expr} {t t' : TGs} (h : PGs X e t) (m : ∀ v σ H Q, t' v σ H Q → t v σ H Q) : PGs X e t' := ⟨fun pins s σ H v u Q I r q => h.run pins s σ H v u Q I r (m v σ H Q q)⟩
theorem set_wipe (σ : L2.St) (i : Nat) (v : Option V) : L2.wipe (σ.set i v) [i] = L2.wipe σ [i] := by
  simp [L2.wipe]
theorem pg_nmD {i : Nat} {x : Str} {pos : Pos} (hN : X.N.Nodup) (hi : X.N[i]? = some x) (hx : Loc X.env.scope x) (hf : X.fn x = true ∨ X.env.scope.names.lookup x = some .local) : PG X (.Name x pos) (liftGW Z X.K [i] fun v δ D R => R (δ.set i (some v)) D) :=
  PG.imp (pg_name hN hi hx hf) fun v σ H Q ⟨ro, δ, D, d, R, sr, hr, vr, q, po⟩ => po ro _ D _ H pre_refl (Ext.refl H) hr (sr.set vr) (set_wipe _ _ _) q
theorem pgs_nilD : PGs X [] (liftGsW Z X.K [] fun vs δ D R => vs = [] ∧ R δ D) :=
  PGs.imp pgs_nil fun v σ H Q ⟨ro, δ, D, d, R, sr, hr, vr, q, po⟩ => by
    obtain ⟨rfl, q⟩ := q
    exact ⟨vr.nil_inv, po ro _ D _ H pre_refl (Ext.refl H) hr sr rfl q⟩
theorem wipe_app {σ τ υ : L2.St} {as bs : List Nat} (h1 : L2.wipe τ as = L2.wipe σ as) (h2 : L2.wipe υ bs = L2.wipe τ bs) : L2.wipe υ (as ++ bs) = L2.wipe σ (as ++ bs) := by
  obtain ⟨l1, g1⟩ := wipe_same.mp h1
  obtain ⟨l2, g2⟩ := wipe_same.mp h2
  refine wipe_same.mpr ⟨l2.trans l1, fun i hi => ?_⟩
  rw [List.mem_append, not_or] at hi
  rw [g2 i hi.2, g1 i hi.1]
theorem asg_each {e : Expr} {es : List Expr} {env : Env} (h : noStar e = true) : assignEach (e :: es) env = (false, assign e env) :: assignEach es env := by
  cases e <;> first | rfl | cases h
theorem asg_len {env : Env} : ∀ {es : List Expr}, es.all noStar = true → (assignEach es env).length = es.length ∧ (assignEach es env).findIdx? (·.1) = none
  | [], _ => ⟨rfl, rfl⟩
  | e :: es, h => by
    rw [List.all_cons, Bool.and_eq_true] at h
    obtain ⟨a, b⟩ := asg_len (env := env) h.2
    rw [asg_each h.1]
    refine ⟨by rw [List.length_cons, List.length_cons, a], ?_⟩
    rw [List.findIdx?_cons, b]; rfl
theorem pgs_consD {e : Expr} {es : List Expr} {as bs : List Nat} {g : DG} {gs : DGs} (hs : noStar e = true) (h1 : PG X e (liftGW Z X.K as g)) (h2 : PGs X es (liftGsW Z X.K bs gs)) :
    PGs X (e :: es) (liftGsW Z X.K (as ++ bs) fun vs δ D R => ∃ v r, vs = v :: r ∧ g v δ D fun δ1 D1 => gs r δ1 D1 R) :=
  PGs.imp (pgs_cons h1 h2 (by rw [asg_each hs]; rfl)) fun v σ H Q ⟨ro, δ, D, d, R, sr, hr, vr, q, po⟩ => by
    obtain ⟨d1, r, rfl, q⟩ := q
    obtain ⟨v1, w, rfl, vr1, vr2⟩ := vr.cons_inv
    refine ⟨v1, w, rfl, ro, δ, D, d1, _, sr, hr, vr1, q, fun ro1 δ1 D1 σ1 H1 p1 e1 hr1 sr1 w1 q1 => ?_⟩
    exact ⟨ro1, δ1, D1, r, R, sr1, hr1, vr2.stay p1 e1, q1, fun ro2 δ2 D2 σ2 H2 p2 e2 hr2 sr2 w2 q2 => po ro2 δ2 D2 σ2 H2 (p1.trans p2) (e1.trans e2) hr2 sr2 (wipe_app w1 w2) q2⟩
theorem pg_tpD {es : List Expr} {k : Nat} {pos : Pos} {n : Nat} {sl : List Nat} {gs : DGs} (hc : X.calm = true) (hs : es.all noStar = true) (hn : es.length = n) (h : PGs X es (liftGsW Z X.K sl gs)) :
    PG X (.Tuple es k pos) (liftGW Z X.K sl fun v δ D R => ∃ ds, v = .tup ds ∧ ds.length = n ∧ gs ds δ D R) :=
  PG.imp (pg_tup hc h (n := n) ((asg_len hs).1.trans hn) (asg_len hs).2) fun v σ H Q ⟨ro, δ, D, d, R, sr, hr, vr, q, po⟩ => by
    obtain ⟨ds, rfl, hl, q⟩ := q
    obtain ⟨a, vs, rfl, h1, h2⟩ := vr.tupD
    exact ⟨a, vs, rfl, h1, by rw [← h2.length]; exact hl, ro, δ, D, ds, R, sr, hr, h2, q, po⟩
theorem pg_unD {es : List Expr} {k : Nat} {pos : Pos} {n : Nat} {sl : List Nat} {gs : DGs} (hc : X.calm = true) (hs : es.all noStar = true) (hn : es.length = n) (h : PGs X es (liftGsW Z X.K sl gs)) :
    PG X (.Tuple es k pos) (liftGW Z X.K sl fun v δ D R => ∃ i ds, v = .ref i ∧ D[i]? = some (.lst ds) ∧ ds.length = n ∧ gs ds δ D R) :=
  PG.imp (pg_unl hc h (n := n) ((asg_len hs).1.trans hn) (asg_len hs).2) fun v σ H Q ⟨ro, δ, D, d, R, sr, hr, vr, q, po⟩ => by
    obtain ⟨i, ds, rfl, e, hl, q⟩ := q
    obtain ⟨a, vs, rfl, _, h1, h2⟩ := hr.lst e vr
    exact ⟨a, vs, rfl, SqL.of h1, by rw [← h2.length]; exact hl, ro, δ, D, ds, R, sr, hr, h2, q, po⟩
/-- o[i] = v -/
def ixSet (x y v : DV) (D : DHp) (R : DHp → Prop) : Prop := ∃ p, x = .ref p ∧
  ((∃ ds k j, D[p]? = some (.lst ds) ∧ y = .int k ∧ ixN ds.length k = some j ∧ R (D.set p (.lst (ds.set j v)))) ∨ ∃ D3, putS D p y v = some D3 ∧ R D3)
def setR (K : PySem.W.Frag) : TSet := fun o i v H Q => ∃ ro D dx dy dv R, HR K ro D H ∧ VR K ro H dx o ∧ VR K ro H dy i ∧ VR K ro H dv v ∧ ixSet dx dy dv D R ∧ ∀ D' H', Ext H H' → HR K ro D' H' → R D' → Q H'
theorem set_ok (hu : X.A.units + 64 < cLine) : PSet X (setR X.K) := by
  intro pins s σ H o i v ov iv u Q I r1 r2 r3 h
  obtain ⟨ro, D, dx, dy, dv, R, hr, vx, vy, vv, q, po⟩ := h
  obtain ⟨p, rfl, q⟩ := q
  rcases q with ⟨ds, k, j, e, rfl, ej, q⟩ | ⟨D3, e, q⟩
  · obtain ⟨a, vs, rfl, ea, h1, h2⟩ := hr.lst e vx
    simp only [VR] at vy; subst vy
    rw [h2.length] at ej
    exact set_list pins s σ H _ _ v ov iv u Q I r1 r2 r3 ⟨a, vs, k, j, rfl, rfl, h1, ej, po _ _ (hr.extSet ea) (hr.set ea (d := .lst (ds.set j dv)) ⟨_, upd_same, (h2.set j vv).stay pre_refl (hr.extSet ea)⟩) q⟩
  · obtain ⟨a, H', rfl, g, ex, hr'⟩ := putS_D hr e vx vy vv
    exact set_dict (by omega) pins s σ H _ _ v ov iv u Q I r1 r2 r3 ⟨a, H', rfl, g, po _ _ ex hr' q⟩
def noSlice : Expr → Bool
  | .Slice _ _ _ _ => false
  | _ => true
theorem plain_ix {i : Expr} (h : noSlice i = true) : PlainIx i := fun o u => by
  cases i <;> first | rfl | cases h
theorem pg_ixD {o i : Expr} {pos : Pos} {f g : DE} (hsl : noSlice i = true) (hu : X.A.units + 64 < cLine) (ho : PE X o (liftE Z X.K f)) (hi : PE X i (liftE Z X.K g)) :
    PG X (.Subscript o i pos) (liftGW Z X.K [] fun v δ D R => f δ D fun x D1 => g δ D1 fun y D2 => ixSet x y v D2 fun D3 => R δ D3) :=
  PG.imp (pg_sub ho hi (set_ok hu) (fun v => by cases i <;> first | rfl | cases hsl)) fun v σ H Q ⟨ro, δ, D, d, R, sr, hr, vr, q, po⟩ => by
    refine lift_bind sr hr q fun ro1 x D1 v1 H1 p1 e1 sr1 hr1 vx q1 => ?_
    refine lift_bind sr1 hr1 q1 fun ro2 y D2 u H2 p2 e2 sr2 hr2 vy q2 => ?_
    exact ⟨ro2, D2, x, y, d, _, hr2, vx.stay p2 e2, vy, vr.stay (p1.trans p2) (e1.trans e2), q2, fun D3 H3 e3 hr3 q3 => po ro2 δ D3 σ H3 (p1.trans p2) ((e1.trans e2).trans e3) hr3 (sr2.stay pre_refl e3) rfl q3⟩
end

/-! ### for, while, comprehensions -/
section
variable {X : Cx} {Z : Org}
theorem for_ok {tg iter : Expr} {body : List Stmt} {pos : Pos} {fi : DI} {sl : List Nat} {g : DG} {b : DS} (hp : PassesOwn (model X.prog X.w) X.A X.env X.xe) (hc : X.calm = true) (hi : PI X tg iter (liftI Z X.K fi)) (hg : PG X tg (liftGW Z X.K sl g)) (hb : PSs X body (liftS Z X.K b))
    (hs : ∀ x, foldedSetIterable iter X.env x = pure x) : PS X (.For tg iter body [] pos) (liftS Z X.K fun F δ D => fi δ D fun w D1 => ∃ n, forLoop w g b F δ D1 n 0 δ D1) := by
  refine PS.imp (ps_for hp hc hi hg hb hs) fun E σ H ⟨ro, δ, D, F, sr, hr, q, po⟩ => ?_
  refine ⟨ro, δ, D, _, sr, hr, q, fun ro1 D1 H1 w J p1 e1 hr1 ok q1 => ?_⟩
  obtain ⟨n, q1⟩ := q1
  have sr1 := sr.stay p1 e1
  have po1 := po.on p1 e1
  refine ⟨fun i m σ' H' => ∃ ro' δ' D', Pre ro1 ro' ∧ Ext H1 H' ∧ SR Z X.K ro' H' δ' σ' ∧ HR X.K ro' D' H' ∧ forLoop w g b F δ D1 m i δ' D', ⟨n, ro1, δ, D1, pre_refl, Ext.refl H1, sr1, hr1, q1⟩, ?_⟩
  rintro i m σ' H' ⟨ro', δ', D', p', e', sr', hr', lp⟩
  cases m with
  | zero => exact False.elim lp
  | succ m =>
    obtain ⟨r, hw, lp⟩ := lp
    cases r with
    | none => exact .inl ⟨ok.stop ro' D' H' i p' e' hr' hw, (po1.on p' e').nx ro' δ' D' σ' H' pre_refl (Ext.refl H') hr' sr' lp⟩
    | some d =>
      obtain ⟨go, yl⟩ := ok.go ro' D' H' i d p' e' hr' hw
      refine .inr ⟨go, fun σ2 H2 => ∃ ro2 δ2 D2, Pre ro1 ro2 ∧ Ext H1 H2 ∧ SR Z X.K ro2 H2 δ2 σ2 ∧ HR X.K ro2 D2 H2 ∧ forLoop w g b F δ D1 m (i + 1) δ2 D2, fun σ2 H2 h2 => ⟨m, Nat.lt_succ_self m, h2⟩, fun x H2 hy => ?_⟩
      obtain ⟨e2, hr2, vx⟩ := yl x H2 hy
      have sr2 := sr'.stay pre_refl e2
      refine ⟨ro', δ', D', d, _, sr2, hr2, vx, lp, fun ro3 δ3 D3 σ3 H3 p3 e3 hr3 sr3 _ q3 => ?_⟩
      have nxt : PostS Z X.K ro3 H3 (Fgt δ D1 (forLoop w g b F δ D1 m (i + 1))) (fun σ2 H2 => ∃ ro2 δ2 D2, Pre ro1 ro2 ∧ Ext H1 H2 ∧ SR Z X.K ro2 H2 δ2 σ2 ∧ HR X.K ro2 D2 H2 ∧ forLoop w g b F δ D1 m (i + 1) δ2 D2) :=
        fun ro4 δ4 D4 σ4 H4 p4 e4 hr4 sr4 q4 => by
          have pp := (p'.trans p3).trans p4
          have ee := ((e'.trans e2).trans e3).trans e4
          obtain ⟨ro5, δ5, D5, p5, sr5, hr5, q5⟩ := fgt_ok hr1 sr1 pp ee hr4 sr4 q4
          exact ⟨ro5, δ5, D5, p5, ee, sr5, hr5, q5⟩
      have po3 := po1.on (p'.trans p3) ((e'.trans e2).trans e3)
      exact ⟨ro3, δ3, D3, _, sr3, hr3, q3, ⟨nxt, po3.rt, po3.nx, nxt⟩⟩
theorem while_ok {c : Expr} {body : List Stmt} {pos : Pos} {fc : DT} {b : DS} (hp : PassesOwn (model X.prog X.w) X.A X.env X.xe) (hc : PT X c (liftT Z X.K fc)) (hb : PSs X body (liftS Z X.K b)) :
    PS X (.While c body [] pos) (liftS Z X.K fun F δ D => ∃ n, whileLoop fc b F δ D n δ D) := by
  refine PS.imp (ps_while hp hc hb) fun E σ H ⟨ro, δ, D, F, sr, hr, ⟨n, q⟩, po⟩ => ?_
  refine ⟨fun m σ' H' => ∃ ro' δ' D', Pre ro ro' ∧ Ext H H' ∧ SR Z X.K ro' H' δ' σ' ∧ HR X.K ro' D' H' ∧ whileLoop fc b F δ D m δ' D', ⟨n, ro, δ, D, pre_refl, Ext.refl H, sr, hr, q⟩, ?_⟩
  rintro m σ' H' ⟨ro', δ', D', p', e', sr', hr', lp⟩
  cases m with
  | zero => exact False.elim lp
  | succ m =>
    refine ⟨ro', δ', D', fun k D1 => if k = true then b { F with nx := Fgt δ D (whileLoop fc b F δ D m), ct := Fgt δ D (whileLoop fc b F δ D m), bk := F.nx } δ' D1 else F.nx δ' D1, sr', hr', ?_, ?_⟩
    · exact lp
    intro ro1 k D1 H1 p1 e1 hr1 q1
    have sr1 := sr'.stay p1 e1
    have po1 := po.on (p'.trans p1) (e'.trans e1)
    cases k with
    | false => exact po1.nx ro1 δ' D1 σ' H1 pre_refl (Ext.refl H1) hr1 sr1 q1
    | true =>
      have nxt : PostS Z X.K ro1 H1 (Fgt δ D (whileLoop fc b F δ D m)) (fun σ2 H2 => ∃ ro2 δ2 D2, Pre ro ro2 ∧ Ext H H2 ∧ SR Z X.K ro2 H2 δ2 σ2 ∧ HR X.K ro2 D2 H2 ∧ whileLoop fc b F δ D m δ2 D2) :=
        fun ro4 δ4 D4 σ4 H4 p4 e4 hr4 sr4 q4 => by
          have pp := (p'.trans p1).trans p4
          have ee := (e'.trans e1).trans e4
          obtain ⟨ro5, δ5, D5, p5, sr5, hr5, q5⟩ := fgt_ok hr sr pp ee hr4 sr4 q4
          exact ⟨ro5, δ5, D5, p5, ee, sr5, hr5, q5⟩
      rw [if_pos rfl]
      refine ⟨fun σ2 H2 => ∃ ro2 δ2 D2, Pre ro ro2 ∧ Ext H H2 ∧ SR Z X.K ro2 H2 δ2 σ2 ∧ HR X.K ro2 D2 H2 ∧ whileLoop fc b F δ D m δ2 D2, fun σ2 H2 h2 => ⟨m, Nat.lt_succ_self m, h2⟩, ro1, δ', D1, _, sr1, hr1, q1, ⟨nxt, po1.rt, po1.nx, nxt⟩⟩
/-- the reading of a comprehension -/
theorem lc_read {K : PySem.W.Frag} {fi : DI} {sl vs : List Nat} {g : DG} {cs : DT} {el : DE} (hsl : ∀ i ∈ sl, i ∈ vs) {σ : L2.St} {H : Hp} {Q : VK}
    (h : liftE Z K (fun δ D R => fi δ D fun w D1 => ∃ n, lcLoop w g cs el vs δ D1.length (D1 ++ [.lst []]) R n 0 (D1 ++ [.lst []])) σ H Q) : tLc (liftI Z K fi) (liftGW Z K sl g) (liftT Z K cs) (liftE Z K el) vs σ H Q := by
  obtain ⟨ro, δ, D, R, sr, hr, q, po⟩ := h
  refine ⟨ro, δ, D, _, sr, hr, q, fun ro1 D1 H1 w J p1 e1 hr1 ok q1 => fun A hA => ?_⟩
  obtain ⟨n, q1⟩ := q1
  have e2 : Ext H1 (upd H1 A (.lst [])) := Ext.new hA
  have hr2 : HR K (ro1 ++ [A]) (D1 ++ [.lst []]) (upd H1 A (.lst [])) := hr1.new (d := .lst []) hA ⟨[], upd_same, VRs.nil⟩
  have p2 : Pre ro1 (ro1 ++ [A]) := List.prefix_append _ _
  have aA : (ro1 ++ [A])[D1.length]? = some A := by rw [← hr1.len]; simp
  have sr2 : SR Z K (ro1 ++ [A]) (upd H1 A (.lst [])) δ σ := (sr.stay p1 e1).stay p2 e2
  refine ⟨fun i m H' => ∃ ro' D', Pre (ro1 ++ [A]) ro' ∧ Ext (upd H1 A (.lst [])) H' ∧ HR K ro' D' H' ∧ lcLoop w g cs el vs δ D1.length (D1 ++ [.lst []]) R m i D', ⟨n, _, _, pre_refl, Ext.refl _, hr2, q1⟩, ?_⟩
  rintro i m H' ⟨ro', D', p', e', hr', lp⟩
  cases m with
  | zero => exact False.elim lp
  | succ m =>
    obtain ⟨r, hw, lp⟩ := lp
    cases r with
    | none =>
      refine .inl ⟨ok.stop ro' D' H' i (p2.trans p') (e2.trans e') hr' hw, po ro' _ D' _ H' ((p1.trans p2).trans p') ((e1.trans e2).trans e') hr' ?_ lp⟩
      simp only [VR]
      exact ⟨A, p'.get aA, rfl⟩
    | some d =>
      obtain ⟨go, yl⟩ := ok.go ro' D' H' i d (p2.trans p') (e2.trans e') hr' hw
      refine .inr ⟨go, fun H2 => ∃ ro2 D2, Pre (ro1 ++ [A]) ro2 ∧ Ext (upd H1 A (.lst [])) H2 ∧ HR K ro2 D2 H2 ∧ lcLoop w g cs el vs δ D1.length (D1 ++ [.lst []]) R m (i + 1) D2, fun H2 h2 => ⟨m, Nat.lt_succ_self m, h2⟩, fun x H2 hy => ?_⟩
      obtain ⟨e3, hr3, vx⟩ := yl x H2 hy
      have sr3 := ((sr2.wipe vs).stay p' e').stay pre_refl e3
      refine ⟨ro', wipeD δ vs, D', d, _, sr3, hr3, vx, lp, fun ro4 δ4 D4 σ4 H4 p4 e4 hr4 sr4 w4 q4 => ⟨?_, ?_⟩⟩
      · obtain ⟨l1, g1⟩ := wipe_same.mp w4
        refine wipe_same.mpr ⟨l1.trans (wipe_length _ _), fun j hj => ?_⟩
        rw [g1 j fun z => hj (hsl j z), wipe_get, if_neg hj]
      have pp := p'.trans p4
      have ee := (e'.trans e3).trans e4
      refine lift_bindT sr4 hr4 q4 fun ro5 b D5 H5 p5 e5 sr5 hr5 q5 => ?_
      cases b with
      | false =>
        obtain ⟨ro6, D6, p6, hr6, q6⟩ := fgt_ok0 hr2 (pp.trans p5) (ee.trans e5) hr5 q5
        exact ⟨ro6, D6, p6, ee.trans e5, hr6, q6⟩
      | true =>
        refine lift_bind sr5 hr5 q5 fun ro6 y D6 v H6 p6 e6 sr6 hr6 vy ⟨acc, ea, hl, q6⟩ => ?_
        have p06 := (pp.trans p5).trans p6
        have e06 := (ee.trans e5).trans e6
        have a6 : ro6[D1.length]? = some A := Pre.get p06 aA
        have vr6 : VR K ro6 H6 (.ref D1.length) (.ref A) := by simp only [VR]; exact ⟨A, a6, rfl⟩
        obtain ⟨A', xs, eA, _, h1, h2⟩ := hr6.lst ea vr6
        cases eA
        refine ⟨xs, h1, by rw [← h2.length]; exact hl, ?_⟩
        have ex := hr6.extSet (o := .lst (xs ++ [v])) a6
        have hr7 := hr6.set a6 (o := .lst (xs ++ [v])) (d := .lst (acc ++ [y])) ⟨_, upd_same, (h2.append (VRs.cons vy VRs.nil)).stay pre_refl ex⟩
        obtain ⟨ro8, D8, p8, hr8, q8⟩ := fgt_ok0 hr2 p06 (e06.trans ex) hr7 q6
        exact ⟨ro8, D8, p8, e06.trans ex, hr8, q8⟩
end
end Dl
set_option Elab.async false
set_option linter.all false
set_option maxRecDepth 100000
set_option maxHeartbeats 4000000
namespace Dl
open PySem PySem.Spec PyProof.Rows L2

/-! ### the reading of a text, checked -/
structure Ck where
  N : List Str
  sc : Scope
  raw : Scope
  bn : List Str
  kc : List (Str × KC)
def visB (sc : Scope) (x : Str) : Bool := match sc.names.lookup x with
  | some .local => true
  | some .cell => true
  | some .free => true
  | _ => false
def dbgB (x : Str) : Bool := !(x == ("__debug__" : Str)) && !(x == ("__classdict__" : Str))
def varB (c : Ck) (i : Nat) (x : Str) : Bool := decide (c.N[i]? = some x) && visB c.sc x && dbgB x
def gB (c : Ck) (x : Str) : Bool := decide (c.sc.names.lookup x = some .globalImplicit) && dbgB x
def bnB (c : Ck) (x : Str) : Bool := gB c x && decide (x ∈ c.bn)
def locB (c : Ck) (x : Str) : Bool := decide (c.sc.names.lookup x = some .local) || (decide (c.sc.names.lookup x = some .cell) && decide (c.raw.names.lookup x = some .cell))
def opB (o : BO) (p : Operator) : Bool := decide (p = o.op)
def cpB (o : CO) (p : CmpOp) : Bool := decide (p = o.op)
def relD (sc scope : Scope) : Scope := { scope with names := scope.names.map fun (n, k) => if (k == NameKind.free && sc.kind == .function && sc.names.lookup n == some .cell) then (n, NameKind.cell) else (n, k) }
def noSet : Expr → Bool
  | .Set _ _ _ => false
  | _ => true
/-- a test is its value's truth -/
def plainB : Expr → Bool
  | .UnaryOp .Not _ _ => false
  | .BoolOp _ _ _ => false
  | .IfExp _ _ _ _ => false
  | .Compare _ _ _ _ => false
  | _ => true
def isTupE : Expr → Bool
  | .Tuple _ _ _ => true
  | _ => false
def hiB : Nat → Option Expr → Bool
  | 0, none => true
  | 1, some (.Constant (.int 0) _ _) => true
  | _, _ => false
def lineB (a b : Pos) : Bool := a.endLine == b.line
mutual
def chkE : IE → Ck → Expr → Bool
  | .var i => fun c e => match e with
    | .Name x _ => varB c i x
    | _ => false
  | .int i => fun c e => match e with
    | .Constant (.int j) _ _ => decide (j = i)
    | _ => false
  | .str x => fun c e => match e with
    | .Constant (.str y) _ _ => decide (y = x)
    | _ => false
  | .bl x => fun c e => match e with
    | .Constant (.bool y) _ _ => decide (y = x)
    | _ => false
  | .non => fun c e => match e with
    | .Constant .none _ _ => true
    | _ => false
  | .glo x => fun c e => match e with
    | .Name y _ => decide (y = x) && gB c y
    | _ => false
  | .tyc t => fun c e => match e with
    | .Name y _ => decide (y = t.id) && bnB c y
    | _ => false
  | .bin o a b => fun c e => match e with
    | .BinOp x p y _ => opB o p && chkE a c x && chkE b c y
    | _ => false
  | .neg a => fun c e => match e with
    | .UnaryOp .USub x _ => chkE a c x
    | _ => false
  | .cmp o a b => fun c e => match e with
    | .Compare x [p] [y] _ => cpB o p && (!behindInMarks p y) && chkE a c x && chkE b c y
    | _ => false
  | .chn o p a b d => fun c e => match e with
    | .Compare x [p1, p2] [y, z] _ => cpB o p1 && cpB p p2 && (!lastMarks [p1, p2] [y, z]) && chkE a c x && chkE b c y && chkE d c z
    | _ => false
  | .and a b => fun c e => match e with
    | .BoolOp .And (x :: y :: rest) pos => chkE a c x && (match rest with | [] => chkE b c y | _ :: _ => chkE b c (.BoolOp .And (y :: rest) pos))
    | _ => false
  | .or a b => fun c e => match e with
    | .BoolOp .Or (x :: y :: rest) pos => chkE a c x && (match rest with | [] => chkE b c y | _ :: _ => chkE b c (.BoolOp .Or (y :: rest) pos))
    | _ => false
  | .not a => fun c e => match e with
    | .UnaryOp .Not x _ => chkE a c x
    | _ => false
  | .ite t a b => fun c e => match e with
    | .IfExp z x y _ => chkB t c z && chkE a c x && chkE b c y
    | _ => false
  | .tup as => fun c e => match e with
    | .Tuple es _ _ => es.all noStar && chkEs as c es
    | _ => false
  | .lst as => fun c e => match e with
    | .List es _ => es.all noStar && chkEs as c es
    | _ => false
  | .dk0 => fun c e => match e with
    | .Dict [] [] _ => true
    | _ => false
  | .dt0 => fun c e => match e with
    | .Dict [] [] _ => true
    | _ => false
  | .dk kvs => fun c e => match e with
    | .Dict (k :: ks) vs _ => decide ((k :: ks).length ≤ 15) && chkK kvs c (k :: ks) vs
    | _ => false
  | .idx a i => fun c e => match e with
    | .Subscript x y _ => noSlice y && chkE a c x && chkE i c y
    | _ => false
  | .slc a lo hi => fun c e => match e with
    | .Subscript x (.Slice l h none _) _ => chkE a c x && chkO lo c l && chkO hi c h
    | _ => false
  | .rv k a => fun c e => match e with
    | .Subscript x (.Slice none h (some (.UnaryOp .USub (.Constant (.int 1) _ _) _)) _) _ => hiB k h && chkE a c x
    | _ => false
  | .bi f as => fun c e => match e with
    | .Call (.Name x _) (y :: es) [] _ => decide (x = f.id) && bnB c x && (y :: es).all noStar && chkEs as c (y :: es)
    | _ => false
  | .call f as => fun c e => match e with
    | .Call (.Name x _) es [] _ => decide (x = f) && gB c x && es.all noStar && chkEs as c es
    | _ => false
  | .callk f as ks vs perm => fun c e => match e with
    | .Call (.Name x _) es kws _ => decide (x = f) && gB c x && es.all noStar && decide (kwNames kws = ks.map some) && decide ((f, (as.len, ks, perm)) ∈ c.kc) && chkEs as c es && chkEs vs c (kwExprs kws)
    | _ => false
  | .mt m o as => fun c e => match e with
    | .Call (.Attribute x n ap) es [] cp => decide (n = m.id) && noCall x && es.all noStar && decide (es.length < 30) && lineB ap cp && chkE o c x && chkEs as c es
    | _ => false
  | .lc own tg it cs el => fun c e => match e with
    | .ListComp x [⟨t, iter, ifs, 0⟩] scope _ => blkC c.N c.sc scope own && noSet iter && chkI it c t iter && (slT tg).all (fun i => decide (i ∈ own.map (·.2))) &&
        chkT tg { c with sc := relD c.sc scope, raw := scope } t && chkC cs { c with sc := relD c.sc scope, raw := scope } ifs && chkE el { c with sc := relD c.sc scope, raw := scope } x
    | _ => false
def chkB : IB → Ck → Expr → Bool
  | .val a => fun c e => match e with
    | .Compare x ops cs p => chkE a c (.Compare x ops cs p)
    | e => plainB e && chkE a c e
  | .not a => fun c e => match e with
    | .UnaryOp .Not x _ => chkB a c x
    | _ => false
  | .and a b => fun c e => match e with
    | .BoolOp .And (x :: y :: rest) pos => chkB a c x && (match rest with | [] => chkB b c y | _ :: _ => chkB b c (.BoolOp .And (y :: rest) pos))
    | _ => false
  | .or a b => fun c e => match e with
    | .BoolOp .Or (x :: y :: rest) pos => chkB a c x && (match rest with | [] => chkB b c y | _ :: _ => chkB b c (.BoolOp .Or (y :: rest) pos))
    | _ => false
def chkC : IC → Ck → List Expr → Bool
  | .no => fun c es => es.isEmpty
  | .one b => fun c es => match es with
    | [e] => chkB b c e
    | _ => false
def chkEs : IEs → Ck → List Expr → Bool
  | .nil => fun c es => es.isEmpty
  | .cons a as => fun c es => match es with
    | e :: es => chkE a c e && chkEs as c es
    | [] => false
def chkK : IKs → Ck → List (Option Expr) → List Expr → Bool
  | .nil => fun c ks vs => ks.isEmpty && vs.isEmpty
  | .cons k v r => fun c ks vs => match ks, vs with
    | some x :: ks, y :: vs => chkE k c x && chkE v c y && chkK r c ks vs
    | _, _ => false
def chkO : IO → Ck → Option Expr → Bool
  | .no => fun c o => o.isNone
  | .some a => fun c o => match o with
    | some e => chkE a c e
    | none => false
def chkI : II → Ck → Expr → Expr → Bool
  | .of a => fun c t e => chkE a c e
  | .range1 a => fun c t e => match e with
    | .Call (.Name x _) [y] [] _ => decide (x = "range") && bnB c x && noStar y && chkE a c y
    | _ => false
  | .range2 a b => fun c t e => match e with
    | .Call (.Name x _) [y, z] [] _ => decide (x = "range") && bnB c x && noStar y && noStar z && chkE a c y && chkE b c z
    | _ => false
  | .enum a => fun c t e => match e with
    | .Call (.Name x _) [y] [] _ => decide (x = "enumerate") && bnB c x && isTupE t && noStar y && chkE a c y
    | _ => false
  | .zip a b => fun c t e => match e with
    | .Call (.Name x _) [y, z] [] _ => decide (x = "zip") && bnB c x && isTupE t && noStar y && noStar z && chkE a c y && chkE b c z
    | _ => false
def chkT : IT → Ck → Expr → Bool
  | .nm i => fun c e => match e with
    | .Name x _ => decide (c.N[i]? = some x) && locB c x
    | _ => false
  | .tp ts => fun c e => match e with
    | .Tuple es _ _ => es.all noStar && decide (es.length = ts.len) && chkTs ts c es
    | _ => false
  | .un ts => fun c e => match e with
    | .Tuple es _ _ => es.all noStar && decide (es.length = ts.len) && chkTs ts c es
    | _ => false
  | .ix o i => fun c e => match e with
    | .Subscript x y _ => noSlice y && chkE o c x && chkE i c y
    | _ => false
def chkTs : ITs → Ck → List Expr → Bool
  | .nil => fun c es => es.isEmpty
  | .cons a as => fun c es => match es with
    | e :: es => chkT a c e && chkTs as c es
    | [] => false
end

/-- what a reading asks of the context -/
structure Gd (Γ : Ev) (c : Ck) (Z : Org) (X : Cx) : Prop where
  calm : X.calm = true
  gd : X.A.guards = some []
  un : X.A.units + 64 < cLine
  sy : SysOk X.base
  nN : X.N = c.N
  nd : X.N.Nodup
  sc : X.env.scope = c.sc
  fnr : ∀ x, c.raw.names.lookup x = some .cell → X.fn x = true
  bn : ∀ x ∈ c.bn, X.mg x = none ∧ x ≠ "__name__"
  gl : ∀ x d, Γ.gl x = some d → ∃ v u, X.mg x = some u ∧ RelV v u ∧ ∀ ro H, VR X.K ro H d v
  fn : ∀ f sp, Γ.fn f = some sp → ∃ ps kcs, FnAt X f ps kcs sp ∧ ∀ kc, (f, kc) ∈ c.kc → kc ∈ kcs
  tk : Takes X (liftW Z X.K Γ.ex)
theorem Gd.blk {Γ : Ev} {c : Ck} {Z : Org} {X : Cx} (G : Gd Γ c Z X) (scope : Scope) (s : Shared) (H : Hp) (C : Addr) (cl : List (Str × Addr)) (fp : List Addr) :
    Gd Γ.nox { c with sc := relD c.sc scope, raw := scope } Z (X.blk s H scope (compEnvC scope cl C X.env) fp) where
  calm := G.calm
  gd := G.gd
  un := G.un
  sy := G.sy
  nN := G.nN
  nd := G.nd
  sc := by
    show relabel scope X.env = relD c.sc scope
    rw [← G.sc]; rfl
  fnr := fun x h => by
    show (scope.names.lookup x == some NameKind.cell) = true
    have h' : scope.names.lookup x = some .cell := h
    rw [h']; rfl
  bn := G.bn
  gl := G.gl
  fn := fun f sp h => let ⟨ps, kcs, F, k⟩ := G.fn f sp h; ⟨ps, kcs, ⟨F.ex⟩, k⟩
  tk := takes_none fun c d σ H ⟨ro, δ, D, p, _, _, _, z⟩ => z
end Dl
set_option Elab.async false
set_option linter.all false
set_option maxRecDepth 100000
set_option maxHeartbeats 4000000
namespace Dl
open PySem PySem.Spec PyProof.Rows L2

section
variable {Γ : Ev} {c : Ck} {Z : Org} {X : Cx}
theorem dbg1 {x : Str} (h : dbgB x = true) : (x == ("__debug__" : Str)) = false ∧ (x == ("__classdict__" : Str)) = false := by
  unfold dbgB at h
  simpa using h
theorem Gd.gl1 (G : Gd Γ c Z X) {x : Str} (h : gB c x = true) : Gl X x ∧ (x == ("__debug__" : Str)) = false := by
  unfold gB at h
  rw [Bool.and_eq_true, decide_eq_true_eq] at h
  refine ⟨?_, (dbg1 h.2).1⟩
  show X.env.scope.names.lookup x = _
  rw [G.sc]; exact h.1
theorem Gd.bn1 (G : Gd Γ c Z X) {x : Str} (h : bnB c x = true) : Gl X x ∧ X.mg x = none ∧ x ≠ "__name__" ∧ (x == ("__debug__" : Str)) = false := by
  unfold bnB at h
  rw [Bool.and_eq_true, decide_eq_true_eq] at h
  exact ⟨(G.gl1 h.1).1, (G.bn x h.2).1, (G.bn x h.2).2, (G.gl1 h.1).2⟩
theorem vis_ok {sc : Scope} {x : Str} (h : visB sc x = true) : Vis sc x := by
  unfold visB at h
  split at h
  · exact .inl (by assumption)
  · exact .inr (.inl (by assumption))
  · exact .inr (.inr (by assumption))
  · cases h
theorem ok_var (G : Gd Γ c Z X) {i : Nat} {x : Str} {pos : Pos} (h : varB c i x = true) : PE X (.Name x pos) (liftE Z X.K fun δ D R => ∃ d, δ[i]? = some (some d) ∧ R d D) := by
  unfold varB at h
  simp only [Bool.and_eq_true, decide_eq_true_eq] at h
  obtain ⟨⟨h1, h2⟩, h3⟩ := h
  refine PE.imp (pe_var (i := i) (by rw [G.nN]; exact h1) (by rw [G.sc]; exact vis_ok h2) (dbg1 h3).1 (dbg1 h3).2) fun σ H Q ⟨ro, δ, D, R, sr, hr, ⟨d, e, q⟩, po⟩ => ?_
  obtain ⟨v, e1, e2⟩ := sr.at_ i d e
  exact ⟨v, e1, po.here hr e2 q⟩
theorem ok_const {e : Expr} {v : V} {d : DV} (h : PE X e (tC v)) (hv : ∀ ro H, VR X.K ro H d v) : PE X e (liftE Z X.K fun _ D R => R d D) :=
  PE.imp h fun σ H Q ⟨ro, δ, D, R, sr, hr, q, po⟩ => po.here hr (hv ro H) q
theorem t6_boot (t : T6) : bootBuiltins t.id = some (.type t.nm) := by
  cases t
  · exact boot_int
  · exact boot_bool
  · exact boot_str
  · exact boot_tuple
  · exact boot_list
  · exact boot_dict
theorem ok_cmpS {o : CO} {x y : DV} {D : DHp} {R : DR} (h : coSem o x y D R) : coSem o x y D fun d D' => (∃ b, d = .bl b) ∧ R d D' := by
  have eqh : ∀ {n x y}, eqS n x y D R → eqS n x y D fun d D' => (∃ b, d = .bl b) ∧ R d D' := fun {n x y} h => by
    rcases h with ⟨i, j, a, b, q⟩ | ⟨m, a, b, e1, e2, e3, e4, q⟩
    · exact .inl ⟨i, j, a, b, ⟨_, rfl⟩, q⟩
    · exact .inr ⟨m, a, b, e1, e2, e3, e4, ⟨_, rfl⟩, q⟩
  have inh : ∀ {n x y}, inS n x y D R → inS n x y D fun d D' => (∃ b, d = .bl b) ∧ R d D' := fun {n x y} h => by
    cases y with
    | tup ys => exact ⟨h.1, h.2.1, ⟨_, rfl⟩, h.2.2⟩
    | ref i =>
      rcases h with ⟨ys, a, b, c, q⟩ | ⟨o, a, q⟩
      · exact .inl ⟨ys, a, b, c, ⟨_, rfl⟩, q⟩
      · exact .inr ⟨o, a, ⟨_, rfl⟩, q⟩
    | _ => exact h
  cases o with
  | eq => exact eqh h
  | ne => exact eqh h
  | isin => exact inh h
  | nin => exact inh h
  | lt => cases x <;> cases y <;> first | exact ⟨⟨_, rfl⟩, h⟩ | exact False.elim h
  | le => cases x <;> cases y <;> first | exact ⟨⟨_, rfl⟩, h⟩ | exact False.elim h
  | gt => cases x <;> cases y <;> first | exact ⟨⟨_, rfl⟩, h⟩ | exact False.elim h
  | ge => cases x <;> cases y <;> first | exact ⟨⟨_, rfl⟩, h⟩ | exact False.elim h
  | is => cases y with
    | non => cases x <;> exact ⟨⟨_, rfl⟩, h⟩
    | _ => cases x <;> exact False.elim h
  | isN => cases y with
    | non => cases x <;> exact ⟨⟨_, rfl⟩, h⟩
    | _ => cases x <;> exact False.elim h
theorem coSem_mono {o : CO} {x y : DV} {D : DHp} {R R' : DR} (m : ∀ d D, R d D → R' d D) (h : coSem o x y D R) : coSem o x y D R' := by
  have eqh : ∀ {n x y}, eqS n x y D R → eqS n x y D R' := fun {n x y} h => by
    rcases h with ⟨i, j, a, b, q⟩ | ⟨k, a, b, e1, e2, e3, e4, q⟩
    · exact .inl ⟨i, j, a, b, m _ _ q⟩
    · exact .inr ⟨k, a, b, e1, e2, e3, e4, m _ _ q⟩
  have inh : ∀ {n x y}, inS n x y D R → inS n x y D R' := fun {n x y} h => by
    cases y with
    | tup ys => exact ⟨h.1, h.2.1, m _ _ h.2.2⟩
    | ref i =>
      rcases h with ⟨ys, a, b, c, q⟩ | ⟨o, a, q⟩
      · exact .inl ⟨ys, a, b, c, m _ _ q⟩
      · exact .inr ⟨o, a, m _ _ q⟩
    | _ => exact h
  cases o with
  | eq => exact eqh h
  | ne => exact eqh h
  | isin => exact inh h
  | nin => exact inh h
  | lt => cases x <;> cases y <;> first | exact m _ _ h | exact False.elim h
  | le => cases x <;> cases y <;> first | exact m _ _ h | exact False.elim h
  | gt => cases x <;> cases y <;> first | exact m _ _ h | exact False.elim h
  | ge => cases x <;> cases y <;> first | exact m _ _ h | exact False.elim h
  | is => cases y with
    | non => cases x <;> exact m _ _ h
    | _ => cases x <;> exact False.elim h
  | isN => cases y with
    | non => cases x <;> exact m _ _ h
    | _ => cases x <;> exact False.elim h
/-- what is told of a value that a test sees -/
theorem post_bl {K : PySem.W.Frag} {ro : List Addr} {H : Hp} {R : Bool → DHp → Prop} {Q : Bool → Hp → Prop} (po : PostT K ro H R Q) : Post K ro H (fun d D => (∃ b, d = .bl b) ∧ ∃ k, tru d D = some k ∧ R k D) fun x H' => ∃ k, x = .bl k ∧ Q k H' := by
  intro ro' d D' v H' p e hr vr q
  obtain ⟨⟨b, rfl⟩, k, e1, q⟩ := q
  simp only [VR] at vr; subst vr
  cases e1
  exact ⟨b, rfl, po ro' b D' H' p e hr q⟩
theorem post_tru {K : PySem.W.Frag} {ro : List Addr} {H : Hp} {R : Bool → DHp → Prop} {Q : Bool → Hp → Prop} (po : PostT K ro H R Q) : Post K ro H (fun d D => ∃ k, tru d D = some k ∧ R k D) fun x H' => ∃ k, TruV K x H' k ∧ Q k H' := by
  intro ro' d D' v H' p e hr vr q
  obtain ⟨k, e1, q⟩ := q
  exact ⟨k, tru_V hr e1 vr, po ro' k D' H' p e hr q⟩
theorem pt_plain {a : Expr} {f : DE} (ha : PE X a (liftE Z X.K f)) (he : plainB a = true) : PT X a (liftT Z X.K fun δ D R => f δ D fun x D1 => ∃ k, tru x D1 = some k ∧ R k D1) := by
  refine PT.imp (pt_truth ha fun w => ?_) fun σ H Q ⟨ro, δ, D, R, sr, hr, q, po⟩ => ⟨ro, δ, D, _, sr, hr, q, post_tru po⟩
  cases a with
  | UnaryOp o x p => cases o <;> first | rfl | cases he
  | BoolOp => cases he
  | IfExp => cases he
  | Compare => cases he
  | _ => rfl
theorem pe_notD {a : Expr} {f : DE} {pos : Pos} (ha : PE X a (liftE Z X.K f)) : PE X (.UnaryOp .Not a pos) (liftE Z X.K fun δ D R => f δ D fun x D1 => ∃ k, tru x D1 = some k ∧ R (.bl (!k)) D1) := by
  refine ⟨fun pins s σ H Q I ⟨ro, δ, D, R, sr, hr, q, po⟩ => ?_⟩
  have h0 := lift_bind (Q := fun x H' => ∃ k, TruV X.K x H' k ∧ Q (.bl (!k)) H') sr hr q fun ro1 d D1 v H1 p1 e1 sr1 hr1 vr ⟨k, ek, q1⟩ => ⟨k, tru_V hr1 ek vr, po ro1 (.bl (!k)) D1 (.bl (!k)) H1 p1 e1 hr1 (by simp only [VR]) q1⟩
  refine UnaryOp_ (thn (ha.run pins s σ H _ I h0) fun v s1 ⟨x, H1, I1, r1, q1⟩ => ?_)
  refine not_of (thn (tru_ok pins s1 σ H1 x v (fun k H' => Q (.bl (!k)) H') I1 r1 q1) fun k s2 ⟨H2, I2, q2⟩ => ⟨.bl (!k), H2, I2, rfl, q2⟩)
theorem hi_inv {k : Nat} {h : Option Expr} (e : hiB k h = true) : k ≤ 1 ∧ ∃ j p, h = hiE k j p := by
  unfold hiB at e
  split at e
  · exact ⟨by omega, 0, ⟨0, 0, 0, 0⟩, rfl⟩
  · exact ⟨by omega, _, _, rfl⟩
  · cases e
theorem bi_boot (f : BI) : bootBuiltins f.id = some f.val := by
  cases f
  · exact boot_len
  · exact boot_tuple
  · exact boot_list
  · exact boot_sorted
  · exact boot_min
  · exact boot_max
  · exact boot_sum
  · exact boot_abs
  · exact boot_int
  · exact boot_bool
  · exact boot_str
  · exact boot_repr
  · exact boot_any
  · exact boot_all
  · exact boot_isinstance
theorem pe_biD {f : BI} {e : Expr} {es : List Expr} {fa : DA} {p pos : Pos} (G : Gd Γ c Z X) (hb : bnB c f.id = true) (hs : (e :: es).all noStar = true) (ha : PA X (e :: es) (liftA Z X.K fa)) :
    PE X (.Call (.Name f.id p) (e :: es) [] pos) (liftE Z X.K fun δ D R => fa δ D fun ds D1 => biSem f ds D1 R) := by
  obtain ⟨g1, g2, g3, g4⟩ := G.bn1 hb
  have hc := bi_ok f G.calm G.gd G.un G.sy
  have hb := bi_boot f
  rw [List.all_cons, Bool.and_eq_true] at hs
  have go : ∀ {t : TE}, t = tCB (liftL X.K (biSem f)) (liftA Z X.K fa) → ∀ σ H Q, liftE Z X.K (fun δ D R => fa δ D fun ds D1 => biSem f ds D1 R) σ H Q → t σ H Q := fun {t} et σ H Q ⟨ro, δ, D, R, sr, hr, q, po⟩ => by
    subst et
    exact lift_bindA sr hr q fun ro1 ds D1 vs H1 p1 e1 sr1 hr1 vr q1 => ⟨ro1, D1, ds, R, hr1, vr, q1, po.on p1 e1⟩
  cases f <;> first
    | exact PE.imp (pe_callB hc g1 g2 hb ha g3 g4 (star_cons hs.1) (star_plain hs.2)) (go rfl)
    | exact PE.imp (pe_callTy hc g1 g2 hb ha g3 g4 (star_cons hs.1) (star_plain hs.2)) (go rfl)
end
end Dl
set_option Elab.async false
set_option linter.all false
set_option maxRecDepth 100000
set_option maxHeartbeats 8000000
namespace Dl
open PySem PySem.Spec PyProof.Rows L2

def trsK (Γ : Ev) (Z : Org) (K : PySem.W.Frag) : IKs → List (TE × TE)
  | .nil => []
  | .cons k v r => (liftE Z K (semE Γ k), liftE Z K (semE Γ v)) :: trsK Γ Z K r
theorem pairs_ok {Γ : Ev} {Z : Org} {K : PySem.W.Frag} {σ : L2.St} : ∀ {kvs : IKs} {H : Hp} {ro : List Addr} {δ : DSt} {D : DHp} {R : List (Key × DV) → DHp → Prop} {Q : List (V × V) → Hp → Prop}, SR Z K ro H δ σ → HR K ro D H → semKv Γ kvs δ D R →
    (∀ ro' D' H' qs ws, Pre ro ro' → Ext H H' → HR K ro' D' H' → KR K ro' H' qs ws → R qs D' → Q (ws.map fun kv => (kV kv.1, kv.2)) H') → tPairs (trsK Γ Z K kvs) σ H Q
  | .nil, H, ro, δ, D, R, Q, sr, hr, h, k => by
    simp only [semKv] at h
    exact k ro D H [] [] pre_refl (Ext.refl H) hr .nil h
  | .cons a b r, H, ro, δ, D, R, Q, sr, hr, h, k => by
    simp only [semKv] at h
    show liftE Z K (semE Γ a) σ H fun x H1 => liftE Z K (semE Γ b) σ H1 fun y H2 => tPairs (trsK Γ Z K r) σ H2 fun ps H3 => Q ((x, y) :: ps) H3
    refine lift_bind sr hr h fun ro1 x D1 v H1 p1 e1 sr1 hr1 vx q1 => ?_
    refine lift_bind sr1 hr1 q1 fun ro2 y D2 u H2 p2 e2 sr2 hr2 vy ⟨q, ek, q2⟩ => ?_
    refine pairs_ok sr2 hr2 q2 fun ro3 D3 H3 qs ws p3 e3 hr3 kr q3 => ?_
    have ev := keyD_V ek vx
    subst ev
    exact k ro3 D3 H3 ((q, y) :: qs) ((q, u) :: ws) ((p1.trans p2).trans p3) ((e1.trans e2).trans e3) hr3 (.cons ⟨rfl, vy.stay p3 e3⟩ kr) q3
theorem merge_ok {K : PySem.W.Frag} {ro : List Addr} {H : Hp} {qs : List (Key × DV)} {ws : List (Key × V)} (h : KR K ro H qs ws) : ∀ {as : List (Key × DV)} {bs : List (Key × V)}, KR K ro H as bs → KR K ro H (qs.foldl (fun acc kv => putD acc kv.1 kv.2) as) (ws.foldl (fun acc kv => putK acc kv.1 kv.2) bs) := by
  induction h with
  | nil => exact fun h => h
  | @cons p q _ _ r t ih =>
    intro as bs h
    obtain ⟨k1, d⟩ := p
    obtain ⟨k2, v⟩ := q
    obtain ⟨e, vr⟩ := r
    simp only at e vr
    subst e
    exact ih (h.put k1 vr)
theorem chk_len {c : Ck} : ∀ {as : IEs} {es : List Expr}, chkEs as c es = true → as.len = es.length
  | .nil, es, h => by
    simp only [chkEs] at h
    cases es with
    | nil => rfl
    | cons e es => cases h
  | .cons a as, es, h => by
    simp only [chkEs] at h
    split at h
    · rw [Bool.and_eq_true] at h
      show as.len + 1 = _ + 1
      rw [chk_len h.2]
    · cases h

theorem noSet_fold {e : Expr} {env : Env} (h : noSet e = true) : ∀ x, foldedSetIterable e env x = pure x := fun x => by
  cases e <;> first | rfl | cases h

section
variable {Z : Org}
mutual
theorem okE : ∀ (a : IE) {Γ : Ev} {c : Ck} {X : Cx} {e : Expr}, Gd Γ c Z X → chkE a c e = true → PE X e (liftE Z X.K (semE Γ a))
  | .var i, Γ, c, X, e, G, h => by
    simp only [chkE] at h
    split at h
    · simp only [semE]; exact ok_var G h
    · cases h
  | .int i, Γ, c, X, e, G, h => by
    simp only [chkE] at h
    split at h
    · have := of_decide_eq_true h; subst this
      simp only [semE]; exact ok_const pe_int fun _ _ => by simp only [VR]
    · cases h
  | .str i, Γ, c, X, e, G, h => by
    simp only [chkE] at h
    split at h
    · have := of_decide_eq_true h; subst this
      simp only [semE]; exact ok_const pe_str fun _ _ => by simp only [VR]
    · cases h
  | .bl i, Γ, c, X, e, G, h => by
    simp only [chkE] at h
    split at h
    · have := of_decide_eq_true h; subst this
      simp only [semE]; exact ok_const pe_bl fun _ _ => by simp only [VR]
    · cases h
  | .non, Γ, c, X, e, G, h => by
    simp only [chkE] at h
    split at h
    · simp only [semE]; exact ok_const pe_non fun _ _ => by simp only [VR]
    · cases h
  | .glo x, Γ, c, X, e, G, h => by
    simp only [chkE] at h
    split at h
    · rw [Bool.and_eq_true, decide_eq_true_eq] at h
      obtain ⟨rfl, h⟩ := h
      obtain ⟨g1, g2⟩ := G.gl1 h
      simp only [semE]
      refine ⟨fun pins s σ H Q I ⟨ro, δ, D, R, sr, hr, ⟨d, e, q⟩, po⟩ => ?_⟩
      obtain ⟨v, u, m, r, vr⟩ := G.gl _ d e
      exact (pe_glob g1 m r g2).run pins s σ H Q I (po.here hr (vr ro H) q)
    · cases h
  | .tyc t, Γ, c, X, e, G, h => by
    simp only [chkE] at h
    split at h
    · rw [Bool.and_eq_true, decide_eq_true_eq] at h
      obtain ⟨rfl, h⟩ := h
      obtain ⟨g1, g2, g3, g4⟩ := G.bn1 h
      simp only [semE]
      exact ok_const (pe_bltn (v := .ty t.nm) g1 g2 (t6_boot t) rfl g3 g4) fun _ _ => by simp only [VR]
    · cases h
  | .bin o a b, Γ, c, X, e, G, h => by
    simp only [chkE] at h
    split at h
    · simp only [Bool.and_eq_true] at h
      obtain ⟨⟨h1, h2⟩, h3⟩ := h
      have := of_decide_eq_true h1; subst this
      simp only [semE]
      exact PE.imp (pe_op (bo_ok o) (okE a G h2) (okE b G h3)) fun σ H Q q => lift_bin q
    · cases h
  | .neg a, Γ, c, X, e, G, h => by
    simp only [chkE] at h
    split at h
    · simp only [semE]
      exact PE.imp (pe_un un_ok (okE a G h)) fun σ H Q q => lift_un q
    · cases h
  | .cmp o a b, Γ, c, X, e, G, h => by
    simp only [chkE] at h
    split at h
    · simp only [Bool.and_eq_true, Bool.not_eq_true'] at h
      obtain ⟨⟨⟨h1, hm⟩, h2⟩, h3⟩ := h
      have := of_decide_eq_true h1; subst this
      simp only [semE]
      exact PE.imp (pe_cmpR (co_ok o G.un G.sy) (okE a G h2) (okE b G h3) hm) fun σ H Q q => lift_bin q
    · cases h
  | .chn o p a b d, Γ, c, X, e, G, h => by
    simp only [chkE] at h
    split at h
    · simp only [Bool.and_eq_true, Bool.not_eq_true'] at h
      obtain ⟨⟨⟨⟨⟨h1, h1'⟩, hm⟩, h2⟩, h3⟩, h4⟩ := h
      have := of_decide_eq_true h1; subst this
      have := of_decide_eq_true h1'; subst this
      simp only [semE]
      refine PE.imp (pe_chain (co_ok o G.un G.sy) (co_ok p G.un G.sy) (okE a G h2) (okE b G h3) (okE d G h4) hm) fun σ H Q ⟨ro, δ, D, R, sr, hr, q, po⟩ => ?_
      refine lift_bind sr hr q fun ro1 x D1 v H1 p1 e1 sr1 hr1 vx q1 => ?_
      refine lift_bind sr1 hr1 q1 fun ro2 y D2 u H2 p2 e2 sr2 hr2 vy q2 => ?_
      refine ⟨ro2, D2, x, y, _, hr2, vx.stay p2 e2, vy, q2, fun ro3 z D3 w H3 p3 e3 hr3 vz ⟨k, ez, q3⟩ => ?_⟩
      subst ez
      simp only [VR] at vz; subst vz
      refine ⟨k, rfl, ?_⟩
      have po3 := po.on ((p1.trans p2).trans p3) ((e1.trans e2).trans e3)
      cases k with
      | false => exact po3.here hr3 (d := .bl false) (by simp only [VR]) q3
      | true =>
        rw [if_pos rfl] at q3 ⊢
        refine lift_bind (sr2.stay p3 e3) hr3 q3 fun ro4 t D4 w4 H4 p4 e4 sr4 hr4 vt q4 => ?_
        exact ⟨ro4, D4, y, t, R, hr4, vy.stay (p3.trans p4) (e3.trans e4), vt, q4, po3.on p4 e4⟩
    · cases h
  | .and a b, Γ, c, X, e, G, h => by
    simp only [chkE] at h
    split at h
    · rename_i x y rest pos
      rw [Bool.and_eq_true] at h
      obtain ⟨h1, h2⟩ := h
      have hb : PE X (.BoolOp .And (y :: rest) pos) (liftE Z X.K (semE Γ b)) := by
        cases rest with
        | nil => exact pe_one (okE b G h2)
        | cons z r => exact okE b G h2
      simp only [semE]
      refine PE.imp (pe_and (okE a G h1) hb) fun σ H Q ⟨ro, δ, D, R, sr, hr, q, po⟩ => ?_
      refine lift_bind sr hr q fun ro1 x D1 v H1 p1 e1 sr1 hr1 vx ⟨k, ek, q1⟩ => ?_
      subst ek
      simp only [VR] at vx; subst vx
      refine ⟨k, rfl, ?_⟩
      cases k with
      | true => exact ⟨ro1, δ, D1, R, sr1, hr1, q1, po.on p1 e1⟩
      | false => exact (po.on p1 e1).here hr1 (d := .bl false) (by simp only [VR]) q1
    · cases h
  | .or a b, Γ, c, X, e, G, h => by
    simp only [chkE] at h
    split at h
    · rename_i x y rest pos
      rw [Bool.and_eq_true] at h
      obtain ⟨h1, h2⟩ := h
      have hb : PE X (.BoolOp .Or (y :: rest) pos) (liftE Z X.K (semE Γ b)) := by
        cases rest with
        | nil => exact pe_one (okE b G h2)
        | cons z r => exact okE b G h2
      simp only [semE]
      refine PE.imp (pe_or (okE a G h1) hb) fun σ H Q ⟨ro, δ, D, R, sr, hr, q, po⟩ => ?_
      refine lift_bind sr hr q fun ro1 x D1 v H1 p1 e1 sr1 hr1 vx ⟨k, ek, q1⟩ => ?_
      subst ek
      simp only [VR] at vx; subst vx
      refine ⟨k, rfl, ?_⟩
      cases k with
      | false => exact ⟨ro1, δ, D1, R, sr1, hr1, q1, po.on p1 e1⟩
      | true => exact (po.on p1 e1).here hr1 (d := .bl true) (by simp only [VR]) q1
    · cases h
  | .not a, Γ, c, X, e, G, h => by
    simp only [chkE] at h
    split at h
    · simp only [semE]; exact pe_notD (okE a G h)
    · cases h
  | .ite t a b, Γ, c, X, e, G, h => by
    simp only [chkE] at h
    split at h
    · simp only [Bool.and_eq_true] at h
      obtain ⟨⟨h1, h2⟩, h3⟩ := h
      simp only [semE]
      refine PE.imp (pe_ifExp (okB t G h1) (okE a G h2) (okE b G h3)) fun σ H Q ⟨ro, δ, D, R, sr, hr, q, po⟩ => ?_
      refine lift_bindT sr hr q fun ro1 k D1 H1 p1 e1 sr1 hr1 q1 => ?_
      cases k with
      | true => exact ⟨ro1, δ, D1, R, sr1, hr1, q1, po.on p1 e1⟩
      | false => exact ⟨ro1, δ, D1, R, sr1, hr1, q1, po.on p1 e1⟩
    · cases h
  | .tup as, Γ, c, X, e, G, h => by
    simp only [chkE] at h
    split at h
    · rw [Bool.and_eq_true] at h
      simp only [semE]
      refine PE.imp (pe_tup (okEs as G h.1 h.2)) fun σ H Q ⟨ro, δ, D, R, sr, hr, q, po⟩ => ?_
      refine lift_bindA sr hr q fun ro1 ds D1 vs H1 p1 e1 sr1 hr1 vr ⟨hl, q1⟩ => ⟨by rw [← vr.length]; exact hl, fun l hn => (po.on p1 e1).tup hr1 hn vr q1⟩
    · cases h
  | .lst as, Γ, c, X, e, G, h => by
    simp only [chkE] at h
    split at h
    · rw [Bool.and_eq_true] at h
      simp only [semE]
      refine PE.imp (pe_lst (okEs as G h.1 h.2)) fun σ H Q ⟨ro, δ, D, R, sr, hr, q, po⟩ => ?_
      refine lift_bindA sr hr q fun ro1 ds D1 vs H1 p1 e1 sr1 hr1 vr ⟨hl, q1⟩ => ⟨by rw [← vr.length]; exact hl, fun l hn => (po.on p1 e1).lst hr1 hn vr q1⟩
    · cases h
  | .dk0, Γ, c, X, e, G, h => by
    simp only [chkE] at h
    split at h
    · simp only [semE]
      exact PE.imp pe_dnewK fun σ H Q ⟨ro, δ, D, R, sr, hr, q, po⟩ p hp => po.obj (d := .dk []) hr hp ⟨[], upd_same, .nil⟩ q
    · cases h
  | .dt0, Γ, c, X, e, G, h => by
    simp only [chkE] at h
    split at h
    · simp only [semE]
      exact PE.imp pe_dnewT fun σ H Q ⟨ro, δ, D, R, sr, hr, q, po⟩ p hp => po.obj (d := .dt []) hr hp ⟨[], upd_same, .nil⟩ q
    · cases h
  | .dk kvs, Γ, c, X, e, G, h => by
    simp only [chkE] at h
    split at h
    · rename_i k ks vs pos
      rw [Bool.and_eq_true, decide_eq_true_eq] at h
      obtain ⟨hl, h⟩ := h
      obtain ⟨pp, hall, hlen⟩ := okK kvs pos G h
      simp only [semE]
      refine PE.imp (pe_disp pp hall hlen (by simp) hl) fun σ H Q ⟨ro, δ, D, R, sr, hr, q, po⟩ p hp => ?_
      have e1 : Ext H (upd H p (.dK [])) := Ext.new hp
      have p1 : Pre ro (ro ++ [p]) := List.prefix_append _ _
      have hr1 : HR X.K (ro ++ [p]) (D ++ [.dk []]) (upd H p (.dK [])) := hr.new (d := .dk []) hp ⟨[], upd_same, .nil⟩
      have ap : (ro ++ [p])[D.length]? = some p := by rw [← hr.len]; simp
      refine pairs_ok (sr.stay p1 e1) hr1 q fun ro2 D2 H2 qs ws p2 e2 hr2 kr ⟨ed, hz, q2⟩ => ?_
      have ap2 : ro2[D.length]? = some p := Pre.get p2 ap
      have vr2 : VR X.K ro2 H2 (.ref D.length) (.ref p) := by simp only [VR]; exact ⟨p, ap2, rfl⟩
      obtain ⟨p', zs, ep, _, h1, h2⟩ := hr2.dk ed vr2
      cases ep
      cases h2
      refine ⟨h1, ws, rfl, by rw [← kr.len]; exact hz, ?_⟩
      have ex := hr2.extSet (o := .dK (mergeK [] ws)) ap2
      exact (po.on (p1.trans p2) (e1.trans e2)).set hr2 ap2 (d := .dk (qs.foldl (fun acc kv => putD acc kv.1 kv.2) [])) ⟨_, upd_same, KR.stay pre_refl ex (merge_ok kr .nil)⟩ vr2 q2
    · cases h
  | .idx a i, Γ, c, X, e, G, h => by
    simp only [chkE] at h
    split at h
    · simp only [Bool.and_eq_true] at h
      obtain ⟨⟨h1, h2⟩, h3⟩ := h
      simp only [semE]
      have hu := G.un
      exact PE.imp (pe_ix (ix_ok (by omega)) (okE a G h2) (okE i G h3) (plain_ix h1)) fun σ H Q q => lift_bin q
    · cases h
  | .slc a lo hi, Γ, c, X, e, G, h => by
    simp only [chkE] at h
    split at h
    · simp only [Bool.and_eq_true] at h
      obtain ⟨⟨h1, h2⟩, h3⟩ := h
      simp only [semE]
      refine PE.imp (pe_slice sl_ok (okE a G h1) (okO lo G h2) (okO hi G h3)) fun σ H Q ⟨ro, δ, D, R, sr, hr, q, po⟩ => ?_
      refine lift_bind sr hr q fun ro1 x D1 v H1 p1 e1 sr1 hr1 vx q1 => ?_
      refine ⟨ro1, δ, D1, _, sr1, hr1, q1, fun ro2 l D2 H2 p2 e2 hr2 q2 => ?_⟩
      refine ⟨ro2, δ, D2, _, sr1.stay p2 e2, hr2, q2, fun ro3 u D3 H3 p3 e3 hr3 q3 => ?_⟩
      exact ⟨ro3, D3, x, R, hr3, vx.stay (p2.trans p3) (e2.trans e3), q3, po.on ((p1.trans p2).trans p3) ((e1.trans e2).trans e3)⟩
    · cases h
  | .rv k a, Γ, c, X, e, G, h => by
    simp only [chkE] at h
    split at h
    · rw [Bool.and_eq_true] at h
      obtain ⟨hk, j, p, rfl⟩ := hi_inv h.1
      simp only [semE]
      exact PE.imp (pe_rv hk (okE a G h.2)) fun σ H Q q => lift_un q
    · cases h
  | .bi f as, Γ, c, X, e, G, h => by
    simp only [chkE] at h
    split at h
    · simp only [Bool.and_eq_true, decide_eq_true_eq] at h
      obtain ⟨⟨⟨rfl, h1⟩, h2⟩, h3⟩ := h
      simp only [semE]
      exact pe_biD G h1 h2 (okEs as G h2 h3)
    · cases h
  | .call f as, Γ, c, X, e, G, h => by
    simp only [chkE] at h
    split at h
    · simp only [Bool.and_eq_true, decide_eq_true_eq] at h
      obtain ⟨⟨⟨rfl, h1⟩, h2⟩, h3⟩ := h
      rename_i x p es pos
      obtain ⟨g1, g2⟩ := G.gl1 h1
      simp only [semE]
      refine ⟨fun pins s σ H Q I ⟨ro, δ, D, R, sr, hr, ⟨sp, e, q⟩, po⟩ => ?_⟩
      obtain ⟨ps, kcs, F, _⟩ := G.fn _ sp e
      cases es with
      | cons y es => exact (pe_callD F G.tk G.gd g1 (okEs as G h2 h3) h2 g2).run pins s σ H Q I ⟨ro, δ, D, R, sr, hr, q, po⟩
      | nil =>
        cases as with
        | nil =>
          simp only [semEs] at q
          exact (pe_callD0 F G.tk G.gd g1 g2).run pins s σ H Q I ⟨ro, δ, D, R, sr, hr, q, po⟩
        | cons a as => simp only [chkEs] at h3; cases h3
    · cases h
  | .callk f as ks vs perm, Γ, c, X, e, G, h => by
    simp only [chkE] at h
    split at h
    · simp only [Bool.and_eq_true, decide_eq_true_eq] at h
      obtain ⟨⟨⟨⟨⟨⟨rfl, h1⟩, h2⟩, h3⟩, h4⟩, h5⟩, h6⟩ := h
      rename_i x p es kws pos
      obtain ⟨g1, g2⟩ := G.gl1 h1
      simp only [semE]
      refine ⟨fun pins s σ H Q I ⟨ro, δ, D, R, sr, hr, ⟨sp, e, q⟩, po⟩ => ?_⟩
      obtain ⟨ps, kcs, F, hk⟩ := G.fn _ sp e
      refine (pe_callKD (fa := semEs Γ as) (fk := semEs Γ vs) (kc := (as.len, ks, perm)) F (hk _ h4) G.tk G.gd g1 (okEs as G h2 h5) (okKw vs G h6) h3 h2 (fun e0 δ D R q => ?_) g2).run pins s σ H Q I ⟨ro, δ, D, R, sr, hr, q, po⟩
      subst e0
      cases as with
      | nil => simpa only [semEs] using q
      | cons a as => simp only [chkEs] at h5; cases h5
    · cases h
  | .mt m o as, Γ, c, X, e, G, h => by
    simp only [chkE] at h
    split at h
    · simp only [Bool.and_eq_true, decide_eq_true_eq] at h
      obtain ⟨⟨⟨⟨⟨⟨rfl, h1⟩, h2⟩, h3⟩, h4⟩, h5⟩, h6⟩ := h
      simp only [semE]
      rename_i x ap es cp
      cases es with
      | cons e es => exact pe_mt G.un (okE o G h5) (okEs as G h2 h6) h1 h2 h3 h4
      | nil =>
        cases as with
        | nil =>
          refine PE.imp (pe_mt0 G.un (okE o G h5) h1 h4) fun σ H Q ⟨ro, δ, D, R, sr, hr, q, po⟩ => ⟨ro, δ, D, R, sr, hr, ?_, po⟩
          simp only [semEs] at q
          exact q
        | cons a as => simp only [chkEs] at h6; cases h6
    · cases h
  | .lc own tg it cs el, Γ, c, X, e, G, h => by
    simp only [chkE] at h
    split at h
    · simp only [Bool.and_eq_true] at h
      obtain ⟨⟨⟨⟨⟨⟨h1, h2⟩, h3⟩, h4⟩, h5⟩, h6⟩, h7⟩ := h
      rename_i x t iter ifs scope pos
      simp only [semE]
      refine PE.imp (pe_lc (own := own) G.calm G.nd (okI it G h3) (blkOk_by (by rw [G.nN, G.sc]; exact h1)) (fun s H C cl fp => okT tg (G.blk scope s H C cl fp) h5) (fun s H C cl fp => okC cs (G.blk scope s H C cl fp) h6) (fun s H C cl fp => okE el (G.blk scope s H C cl fp) h7) (noSet_fold h2)) fun σ H Q q => lc_read (fun i hi => ?_) q
      exact of_decide_eq_true (List.all_eq_true.mp h4 i hi)
    · cases h
theorem okB : ∀ (a : IB) {Γ : Ev} {c : Ck} {X : Cx} {e : Expr}, Gd Γ c Z X → chkB a c e = true → PT X e (liftT Z X.K (semB Γ a))
  | .val a, Γ, c, X, e, G, h => by
    simp only [chkB] at h
    split at h
    · rename_i x ops cs p
      have hE := okE a G h
      simp only [semB]
      cases a with
      | cmp o a b =>
        simp only [chkE] at h
        split at h
        · rename_i heq
          cases heq
          simp only [Bool.and_eq_true, Bool.not_eq_true'] at h
          obtain ⟨⟨⟨h1, hm⟩, h2⟩, h3⟩ := h
          have := of_decide_eq_true h1; subst this
          simp only [semE]
          refine PT.imp (pt_cmpR (co_ok o G.un G.sy) (okE a G h2) (okE b G h3) hm) fun σ H Q ⟨ro, δ, D, R, sr, hr, q, po⟩ => ?_
          refine lift_bind sr hr q fun ro1 x D1 v H1 p1 e1 sr1 hr1 vx q1 => ?_
          refine lift_bind sr1 hr1 q1 fun ro2 y D2 u H2 p2 e2 sr2 hr2 vy q2 => ?_
          exact ⟨ro2, D2, x, y, _, hr2, vx.stay p2 e2, vy, ok_cmpS q2, post_bl (po.on (p1.trans p2) (e1.trans e2))⟩
        · cases h
      | chn o p a b d =>
        simp only [chkE] at h
        split at h
        · rename_i heq
          cases heq
          simp only [Bool.and_eq_true, Bool.not_eq_true'] at h
          obtain ⟨⟨⟨⟨⟨h1, h1'⟩, hm⟩, h2⟩, h3⟩, h4⟩ := h
          have := of_decide_eq_true h1; subst this
          have := of_decide_eq_true h1'; subst this
          simp only [semE]
          refine PT.imp (pt_chain (co_ok o G.un G.sy) (co_ok p G.un G.sy) (okE a G h2) (okE b G h3) (okE d G h4) hm) fun σ H Q ⟨ro, δ, D, R, sr, hr, q, po⟩ => ?_
          refine lift_bind sr hr q fun ro1 x D1 v H1 p1 e1 sr1 hr1 vx q1 => ?_
          refine lift_bind sr1 hr1 q1 fun ro2 y D2 u H2 p2 e2 sr2 hr2 vy q2 => ?_
          refine ⟨ro2, D2, x, y, _, hr2, vx.stay p2 e2, vy, q2, fun ro3 z D3 w H3 p3 e3 hr3 vz ⟨k, ez, q3⟩ => ?_⟩
          subst ez
          simp only [VR] at vz; subst vz
          refine ⟨k, rfl, ?_⟩
          have po3 := po.on ((p1.trans p2).trans p3) ((e1.trans e2).trans e3)
          cases k with
          | false =>
            rw [if_neg Bool.false_ne_true] at q3 ⊢
            obtain ⟨k', ek, q4⟩ := q3
            cases ek
            exact ⟨false, rfl, po3 ro3 false D3 H3 pre_refl (Ext.refl H3) hr3 q4⟩
          | true =>
            rw [if_pos rfl] at q3 ⊢
            refine lift_bind (sr2.stay p3 e3) hr3 q3 fun ro4 t D4 w4 H4 p4 e4 sr4 hr4 vt q4 => ?_
            exact ⟨ro4, D4, y, t, _, hr4, vy.stay (p3.trans p4) (e3.trans e4), vt, ok_cmpS q4, post_bl (po3.on p4 e4)⟩
        · cases h
      | _ => first | exact absurd h Bool.false_ne_true | (simp only [chkE] at h; cases h)
    · rw [Bool.and_eq_true] at h
      simp only [semB]
      exact pt_plain (okE a G h.2) h.1
  | .not a, Γ, c, X, e, G, h => by
    simp only [chkB] at h
    split at h
    · simp only [semB]
      refine PT.imp (pt_not (okB a G h)) fun σ H Q ⟨ro, δ, D, R, sr, hr, q, po⟩ => ⟨ro, δ, D, _, sr, hr, q, fun ro1 k D1 H1 p1 e1 hr1 q1 => po ro1 _ D1 H1 p1 e1 hr1 q1⟩
    · cases h
  | .and a b, Γ, c, X, e, G, h => by
    simp only [chkB] at h
    split at h
    · rename_i x y rest pos
      rw [Bool.and_eq_true] at h
      obtain ⟨h1, h2⟩ := h
      have hb : PW X (.BoolOp .And (y :: rest) pos) (liftT Z X.K (semB Γ b)) := by
        cases rest with
        | nil => exact pw_and1 (okB b G h2)
        | cons z r => exact ⟨fun wh pins s σ H Q I q => (okB b G h2).run pins s σ H Q I q⟩
      simp only [semB]
      refine PT.imp (pw_and (okB a G h1) hb).pt fun σ H Q ⟨ro, δ, D, R, sr, hr, q, po⟩ => ?_
      refine lift_bindT sr hr q fun ro1 k D1 H1 p1 e1 sr1 hr1 q1 => ?_
      cases k with
      | true => exact ⟨ro1, δ, D1, R, sr1, hr1, q1, po.on p1 e1⟩
      | false => exact po ro1 false D1 H1 p1 e1 hr1 q1
    · cases h
  | .or a b, Γ, c, X, e, G, h => by
    simp only [chkB] at h
    split at h
    · rename_i x y rest pos
      rw [Bool.and_eq_true] at h
      obtain ⟨h1, h2⟩ := h
      have hb : PW X (.BoolOp .Or (y :: rest) pos) (liftT Z X.K (semB Γ b)) := by
        cases rest with
        | nil => exact pw_or1 (okB b G h2)
        | cons z r => exact ⟨fun wh pins s σ H Q I q => (okB b G h2).run pins s σ H Q I q⟩
      simp only [semB]
      refine PT.imp (pw_or (okB a G h1) hb).pt fun σ H Q ⟨ro, δ, D, R, sr, hr, q, po⟩ => ?_
      refine lift_bindT sr hr q fun ro1 k D1 H1 p1 e1 sr1 hr1 q1 => ?_
      cases k with
      | false => exact ⟨ro1, δ, D1, R, sr1, hr1, q1, po.on p1 e1⟩
      | true => exact po ro1 true D1 H1 p1 e1 hr1 q1
    · cases h
theorem okC : ∀ (a : IC) {Γ : Ev} {c : Ck} {X : Cx} {es : List Expr}, Gd Γ c Z X → chkC a c es = true → PTs X es (liftT Z X.K (semC Γ a))
  | .no, Γ, c, X, es, G, h => by
    simp only [chkC] at h
    cases es with
    | cons e es => cases h
    | nil =>
      simp only [semC]
      exact ⟨fun pins s σ H Q I ⟨ro, δ, D, R, sr, hr, q, po⟩ => pts_nil.run pins s σ H Q I (po ro true D H pre_refl (Ext.refl H) hr q)⟩
  | .one b, Γ, c, X, es, G, h => by
    simp only [chkC] at h
    split at h
    · simp only [semC]; exact pts_one (okB b G h)
    · cases h
theorem okEs : ∀ (a : IEs) {Γ : Ev} {c : Ck} {X : Cx} {es : List Expr}, Gd Γ c Z X → es.all noStar = true → chkEs a c es = true → PA X es (liftA Z X.K (semEs Γ a))
  | .nil, Γ, c, X, es, G, hs, h => by
    simp only [chkEs] at h
    cases es with
    | cons e es => cases h
    | nil =>
      simp only [semEs]
      exact PA.imp pa_nil fun σ H Q ⟨ro, δ, D, R, sr, hr, q, po⟩ => po ro [] D [] H pre_refl (Ext.refl H) hr VRs.nil q
  | .cons a as, Γ, c, X, es, G, hs, h => by
    simp only [chkEs] at h
    split at h
    · rw [Bool.and_eq_true] at h
      rw [List.all_cons, Bool.and_eq_true] at hs
      simp only [semEs]
      refine PA.imp (pa_cons (okE a G h.1) (okEs as G hs.2 h.2) (star_cons hs.1)) fun σ H Q ⟨ro, δ, D, R, sr, hr, q, po⟩ => ?_
      refine lift_bind sr hr q fun ro1 x D1 v H1 p1 e1 sr1 hr1 vx q1 => ?_
      refine lift_bindA sr1 hr1 q1 fun ro2 ds D2 vs H2 p2 e2 sr2 hr2 vr q2 => ?_
      exact po ro2 (x :: ds) D2 (v :: vs) H2 (p1.trans p2) (e1.trans e2) hr2 (VRs.cons (vx.stay p2 e2) vr) q2
    · cases h
theorem okKw : ∀ (a : IEs) {Γ : Ev} {c : Ck} {X : Cx} {kws : List Keyword}, Gd Γ c Z X → chkEs a c (kwExprs kws) = true → PK X kws (liftA Z X.K (semEs Γ a))
  | .nil, Γ, c, X, kws, G, h => by
    simp only [chkEs] at h
    cases kws with
    | cons e es => cases h
    | nil =>
      simp only [semEs]
      exact ⟨fun pos pins s σ H Q I ⟨ro, δ, D, R, sr, hr, q, po⟩ => pk_nil.run pos pins s σ H Q I (po ro [] D [] H pre_refl (Ext.refl H) hr VRs.nil q)⟩
  | .cons a as, Γ, c, X, kws, G, h => by
    simp only [chkEs] at h
    cases kws with
    | nil => cases h
    | cons k kws =>
      obtain ⟨nm, ke, kp⟩ := k
      have h : (chkE a c ke && chkEs as c (kwExprs kws)) = true := h
      rw [Bool.and_eq_true] at h
      simp only [semEs]
      refine ⟨fun pos pins s σ H Q I ⟨ro, δ, D, R, sr, hr, q, po⟩ => (pk_cons (okE a G h.1) (okKw as G h.2)).run pos pins s σ H Q I ?_⟩
      refine lift_bind sr hr q fun ro1 x D1 v H1 p1 e1 sr1 hr1 vx q1 => ?_
      refine lift_bindA sr1 hr1 q1 fun ro2 ds D2 vs H2 p2 e2 sr2 hr2 vr q2 => ?_
      exact po ro2 (x :: ds) D2 (v :: vs) H2 (p1.trans p2) (e1.trans e2) hr2 (VRs.cons (vx.stay p2 e2) vr) q2
theorem okK : ∀ (a : IKs) (pos : Pos) {Γ : Ev} {c : Ck} {X : Cx} {ks : List (Option Expr)} {vs : List Expr}, Gd Γ c Z X → chkK a c ks vs = true → PPs X pos ks vs (trsK Γ Z X.K a) ∧ ks.all (·.isSome) = true ∧ ks.length = vs.length
  | .nil, pos, Γ, c, X, ks, vs, G, h => by
    simp only [chkK, Bool.and_eq_true] at h
    cases ks with
    | cons e es => cases h.1
    | nil => cases vs with
      | cons e es => cases h.2
      | nil => exact ⟨pps_nil, rfl, rfl⟩
  | .cons k v r, pos, Γ, c, X, ks, vs, G, h => by
    simp only [chkK] at h
    split at h
    · simp only [Bool.and_eq_true] at h
      obtain ⟨⟨h1, h2⟩, h3⟩ := h
      obtain ⟨a, b, d⟩ := okK r pos G h3
      exact ⟨pps_cons (okE k G h1) (okE v G h2) a, by rw [List.all_cons, b]; rfl, by rw [List.length_cons, List.length_cons, d]⟩
    · cases h
theorem okO : ∀ (a : IO) {Γ : Ev} {c : Ck} {X : Cx} {o : Option Expr}, Gd Γ c Z X → chkO a c o = true → PO X o (fun σ H Q => ∃ ro δ D R, SR Z X.K ro H δ σ ∧ HR X.K ro D H ∧ semO Γ a δ D R ∧ ∀ ro' l D' H', Pre ro ro' → Ext H H' → HR X.K ro' D' H' → R l D' → Q l H')
  | .no, Γ, c, X, o, G, h => by
    simp only [chkO] at h
    cases o with
    | some e => cases h
    | none =>
      simp only [semO]
      exact ⟨fun pins s σ H Q I ⟨ro, δ, D, R, sr, hr, q, po⟩ => po_none.run pins s σ H Q I (po ro none D H pre_refl (Ext.refl H) hr q)⟩
  | .some a, Γ, c, X, o, G, h => by
    simp only [chkO] at h
    cases o with
    | none => cases h
    | some e =>
      simp only [semO]
      refine ⟨fun pins s σ H Q I ⟨ro, δ, D, R, sr, hr, q, po⟩ => (po_some (okE a G h)).run pins s σ H Q I ?_⟩
      refine lift_bind sr hr q fun ro1 x D1 v H1 p1 e1 sr1 hr1 vx ⟨i, ei, q1⟩ => ?_
      subst ei
      simp only [VR] at vx
      exact ⟨i, vx, po ro1 (some i) D1 H1 p1 e1 hr1 q1⟩
theorem okI : ∀ (a : II) {Γ : Ev} {c : Ck} {X : Cx} {t e : Expr}, Gd Γ c Z X → chkI a c t e = true → PI X t e (liftI Z X.K (semI Γ a))
  | .of a, Γ, c, X, t, e, G, h => by
    simp only [chkI] at h
    simp only [semI]
    exact pi_ofD (okE a G h)
  | .range1 a, Γ, c, X, t, e, G, h => by
    simp only [chkI] at h
    split at h
    · simp only [Bool.and_eq_true, decide_eq_true_eq] at h
      obtain ⟨⟨⟨rfl, h1⟩, h2⟩, h3⟩ := h
      obtain ⟨g1, g2, _, _⟩ := G.bn1 h1
      simp only [semI]
      exact pi_r1 g1 g2 h2 (okE a G h3)
    · cases h
  | .range2 a b, Γ, c, X, t, e, G, h => by
    simp only [chkI] at h
    split at h
    · simp only [Bool.and_eq_true, decide_eq_true_eq] at h
      obtain ⟨⟨⟨⟨⟨rfl, h1⟩, h2⟩, h3⟩, h4⟩, h5⟩ := h
      obtain ⟨g1, g2, _, _⟩ := G.bn1 h1
      simp only [semI]
      exact pi_r2 g1 g2 h2 h3 (okE a G h4) (okE b G h5)
    · cases h
  | .enum a, Γ, c, X, t, e, G, h => by
    simp only [chkI] at h
    split at h
    · simp only [Bool.and_eq_true, decide_eq_true_eq] at h
      obtain ⟨⟨⟨⟨rfl, h1⟩, h2⟩, h3⟩, h4⟩ := h
      obtain ⟨g1, g2, _, _⟩ := G.bn1 h1
      simp only [semI]
      cases t <;> first | exact pi_en g1 g2 h3 (okE a G h4) | cases h2
    · cases h
  | .zip a b, Γ, c, X, t, e, G, h => by
    simp only [chkI] at h
    split at h
    · simp only [Bool.and_eq_true, decide_eq_true_eq] at h
      obtain ⟨⟨⟨⟨⟨⟨rfl, h1⟩, h2⟩, h3⟩, h4⟩, h5⟩, h6⟩ := h
      obtain ⟨g1, g2, _, _⟩ := G.bn1 h1
      simp only [semI]
      cases t <;> first | exact pi_zp g1 g2 h3 h4 (okE a G h5) (okE b G h6) | cases h2
    · cases h
theorem okT : ∀ (a : IT) {Γ : Ev} {c : Ck} {X : Cx} {e : Expr}, Gd Γ c Z X → chkT a c e = true → PG X e (liftGW Z X.K (slT a) (semT Γ a))
  | .nm i, Γ, c, X, e, G, h => by
    simp only [chkT] at h
    split at h
    · rw [Bool.and_eq_true, decide_eq_true_eq] at h
      obtain ⟨h1, h2⟩ := h
      unfold locB at h2
      simp only [Bool.or_eq_true, Bool.and_eq_true, decide_eq_true_eq] at h2
      simp only [semT, slT]
      refine pg_nmD G.nd (by rw [G.nN]; exact h1) ?_ ?_
      · rw [G.sc]
        rcases h2 with h2 | h2
        · exact .inl h2
        · exact .inr h2.1
      · rw [G.sc]
        rcases h2 with h2 | h2
        · exact .inr h2
        · exact .inl (G.fnr _ h2.2)
    · cases h
  | .tp ts, Γ, c, X, e, G, h => by
    simp only [chkT] at h
    split at h
    · simp only [Bool.and_eq_true, decide_eq_true_eq] at h
      obtain ⟨⟨h1, h2⟩, h3⟩ := h
      simp only [semT, slT]
      exact pg_tpD G.calm h1 h2 (okTs ts G h1 h3)
    · cases h
  | .un ts, Γ, c, X, e, G, h => by
    simp only [chkT] at h
    split at h
    · simp only [Bool.and_eq_true, decide_eq_true_eq] at h
      obtain ⟨⟨h1, h2⟩, h3⟩ := h
      simp only [semT, slT]
      exact pg_unD G.calm h1 h2 (okTs ts G h1 h3)
    · cases h
  | .ix o i, Γ, c, X, e, G, h => by
    simp only [chkT] at h
    split at h
    · simp only [Bool.and_eq_true] at h
      obtain ⟨⟨h1, h2⟩, h3⟩ := h
      simp only [semT, slT]
      exact pg_ixD h1 G.un (okE o G h2) (okE i G h3)
    · cases h
theorem okTs : ∀ (a : ITs) {Γ : Ev} {c : Ck} {X : Cx} {es : List Expr}, Gd Γ c Z X → es.all noStar = true → chkTs a c es = true → PGs X es (liftGsW Z X.K (slTs a) (semTs Γ a))
  | .nil, Γ, c, X, es, G, hs, h => by
    simp only [chkTs] at h
    cases es with
    | cons e es => cases h
    | nil =>
      simp only [semTs, slTs]
      exact pgs_nilD
  | .cons a as, Γ, c, X, es, G, hs, h => by
    simp only [chkTs] at h
    split at h
    · rw [Bool.and_eq_true] at h
      rw [List.all_cons, Bool.and_eq_true] at hs
      simp only [semTs, slTs]
      exact pgs_consD hs.1 (okT a G h.1) (okTs as G hs.2 h.2)
    · cases h
end
end
end Dl
set_option Elab.async false
set_option linter.all false
set_option maxRecDepth 100000
set_option maxHeartbeats 8000000
namespace Dl
open PySem PySem.Spec PyProof.Rows L2

/-! ### statements -/
def swapB (c : Ck) (tg v : Expr) : Bool := match v, tg with
  | .ListComp _ _ scope p, .Name t q => (c.sc.names.lookup t == some .local) && (q.line == p.line) && !(scope.names.any fun (n, k) => n == t && (k == .local || k == .cell))
  | _, _ => false
def okV : Expr → Bool
  | .SetComp _ _ _ _ => false
  | .DictComp _ _ _ _ _ => false
  | _ => true
def swNames (c : Ck) (ts : List Expr) : List Str := ts.filterMap fun
  | .Name id pos => if c.sc.names.lookup id == some .local && pos.line == (ts.head?.map (·.pos.line)).getD 0 then some id else none
  | _ => none
/-- no swapped stores -/
def swNo (c : Ck) (tg v : Expr) : Bool := match tg, v with
  | .Tuple ts _ _, .Tuple vs _ _ => !(ts.length == 2 || ts.length == 3) || vs.length != ts.length || (vs.all noStar && ((swNames c ts).length != ts.length || vs.all (foldedForSure 8)))
  | .List _ _, _ => false
  | _, _ => true
/-- swapped stores -/
def swYes (c : Ck) (ts vs : List Expr) : Bool := (ts.length == 2 || ts.length == 3) && vs.length == ts.length && vs.all noStar && (swNames c ts).length == ts.length && (swNames c ts).eraseDups.length == (swNames c ts).length && !(vs.all (foldedForSure 8)) && !(vs.all (constantsAlone 8))
def nameB (c : Ck) (i : Nat) : Expr → Bool
  | .Name x _ => decide (c.N[i]? = some x) && decide (c.sc.names.lookup x = some .local)
  | _ => false
mutual
def chkS : IS → Ck → Stmt → Bool
  | .asg t a => fun c s => match s with
    | .Assign [tg] v pos => swNo c tg v && okV v && chkT t c tg && chkE a c v
    | _ => false
  | .par2 i j a b => fun c s => match s with
    | .Assign [.Tuple [x, y] _ _] (.Tuple [e, f] _ _) pos => decide (i ≠ j) && swYes c [x, y] [e, f] && nameB c i x && nameB c j y && chkE a c e && chkE b c f
    | _ => false
  | .par3 i j k a b d => fun c s => match s with
    | .Assign [.Tuple [x, y, z] _ _] (.Tuple [e, f, g] _ _) pos => decide (i ≠ j) && decide (i ≠ k) && decide (j ≠ k) && swYes c [x, y, z] [e, f, g] && nameB c i x && nameB c j y && nameB c k z && chkE a c e && chkE b c f && chkE d c g
    | _ => false
  | .expr a => fun c s => match s with
    | .Expr (.Call f es ks p) _ => chkE a c (.Call f es ks p)
    | _ => false
  | .ret a => fun c s => match s with
    | .Return (some e) _ => chkE a c e
    | _ => false
  | .retN => fun c s => match s with
    | .Return none _ => true
    | _ => false
  | .pass => fun c s => match s with
    | .Pass _ => true
    | .Expr (.Constant (.str _) _ _) _ => true
    | _ => false
  | .brk => fun c s => match s with
    | .Break _ => true
    | _ => false
  | .cont => fun c s => match s with
    | .Continue _ => true
    | _ => false
  | .ife t a b => fun c s => match s with
    | .If e x y _ => chkB t c e && chkSs a c x && chkSs b c y
    | _ => false
  | .for_ t it b => fun c s => match s with
    | .For tg iter x [] _ => noSet iter && chkT t c tg && chkI it c tg iter && chkSs b c x
    | _ => false
  | .while_ t b => fun c s => match s with
    | .While e x [] _ => chkB t c e && chkSs b c x
    | _ => false
def chkSs : ISs → Ck → List Stmt → Bool
  | .nil => fun c ss => ss.isEmpty
  | .cons a as => fun c ss => match ss with
    | s :: ss => chkS a c s && chkSs as c ss
    | [] => false
end

section
variable {Γ : Ev} {c : Ck} {Z : Org} {X : Cx}
theorem blockKind_fn {env : Env} (h : env.scope.kind = .function) : env.blockKind = .function := by
  unfold Env.blockKind
  rw [h]; rfl
theorem swapsWith_no (G : Gd Γ c Z X) {tg v : Expr} {line : Nat} (hv : okV v = true) (h : swapB c tg v = false) (hk : X.env.scope.kind = .function) : swapsWith v (some tg) line X.env = pure false := by
  cases v with
  | SetComp => cases hv
  | DictComp => cases hv
  | ListComp a b scope p =>
    cases tg with
    | Name t q =>
      show (pure (X.env.blockKind == .function && X.env.kindOf t == some .local && q.line == p.line && !(scope.names.any fun (n, k) => n == t && (k == .local || k == .cell))) : Sem Bool) = pure false
      have e : (X.env.blockKind == .function && X.env.kindOf t == some .local && q.line == p.line && !(scope.names.any fun (n, k) => n == t && (k == .local || k == .cell))) = false := by
        rw [← h]
        unfold Env.kindOf
        rw [blockKind_fn hk, G.sc]
        rfl
      rw [e]
    | _ => rfl
  | _ => rfl
theorem swapsWith_yes (G : Gd Γ c Z X) {a : Expr} {b : List Comprehension} {scope : Scope} {p q : Pos} {t : Str} {line : Nat} (h : swapB c (.Name t q) (.ListComp a b scope p) = true) (hk : X.env.scope.kind = .function) : swapsWith (.ListComp a b scope p) (some (.Name t q)) line X.env = pure true := by
  show (pure (X.env.blockKind == .function && X.env.kindOf t == some .local && q.line == p.line && !(scope.names.any fun (n, k) => n == t && (k == .local || k == .cell))) : Sem Bool) = pure true
  have e : (X.env.blockKind == .function && X.env.kindOf t == some .local && q.line == p.line && !(scope.names.any fun (n, k) => n == t && (k == .local || k == .cell))) = true := by
    rw [← h]
    unfold Env.kindOf
    rw [blockKind_fn hk, G.sc]
    rfl
  rw [e]
theorem any_star : ∀ {vs : List Expr}, vs.all noStar = true → (vs.any fun | .Starred .. => true | _ => false) = false
  | [], _ => rfl
  | e :: es, h => by
    rw [List.all_cons, Bool.and_eq_true] at h
    rw [List.any_cons, any_star h.2]
    cases e <;> first | rfl | cases h.1
theorem names_eq (G : Gd Γ c Z X) (ts : List Expr) : (ts.filterMap fun
    | .Name id pos => if X.env.kindOf id == some .local && pos.line == (ts.head?.map (·.pos.line)).getD 0 then some id else none
    | _ => none) = swNames c ts := by
  unfold swNames Env.kindOf
  rw [G.sc]
theorem stores_no (G : Gd Γ c Z X) {tg v : Expr} (h : swNo c tg v = true) (hk : X.env.scope.kind = .function) : swappedStores [tg] v X.env = pure none := by
  cases tg with
  | List => cases v <;> cases h
  | Tuple ts k p =>
    cases v with
    | Tuple vs k2 p2 =>
      have ne := names_eq G ts
      have h : (!(ts.length == 2 || ts.length == 3) || vs.length != ts.length || (vs.all noStar && ((swNames c ts).length != ts.length || vs.all (foldedForSure 8)))) = true := h
      unfold swappedStores
      simp only [blockKind_fn hk]
      generalize hn : List.filterMap _ ts = nm
      have en : nm = swNames c ts := hn.symm.trans ne
      clear hn
      subst en
      split
      · rfl
      · split
        · rfl
        · rename_i h1 h2
          split
          · rfl
          · split
            · rfl
            · rename_i h3 h4
              exfalso
              simp only [bne_self_eq_false, Bool.or_false, Bool.not_eq_true] at h1
              rw [Bool.or_eq_true, Bool.or_eq_true] at h
              rw [Bool.or_eq_false_iff] at h1
              rcases h with (h | h) | h
              · rw [h1.1] at h; cases h
              · rw [h1.2] at h; cases h
              · rw [Bool.and_eq_true, Bool.or_eq_true] at h
                rcases h.2 with h | h
                · rw [h, Bool.true_or] at h3; exact h3 rfl
                · exact h4 h
    | _ => rfl
  | _ => rfl
theorem stores_yes (G : Gd Γ c Z X) {ts vs : List Expr} {k k2 : Nat} {p p2 : Pos} (h : swYes c ts vs = true) (hk : X.env.scope.kind = .function) : swappedStores [.Tuple ts k p] (.Tuple vs k2 p2) X.env = pure (some (swNames c ts)) := by
  have ne := names_eq G ts
  unfold swYes at h
  simp only [Bool.and_eq_true, Bool.not_eq_true'] at h
  obtain ⟨⟨⟨⟨⟨⟨h1, h2⟩, h3⟩, h4⟩, h5⟩, h6⟩, h7⟩ := h
  unfold swappedStores
  simp only [blockKind_fn hk]
  generalize hn : List.filterMap _ ts = nm
  have en : nm = swNames c ts := hn.symm.trans ne
  clear hn
  subst en
  have e2 : (vs.length != ts.length) = false := by rw [bne, h2]; rfl
  have e4 : ((swNames c ts).length != ts.length) = false := by rw [bne, h4]; rfl
  have e5 : ((swNames c ts).eraseDups.length != (swNames c ts).length) = false := by rw [bne, h5]; rfl
  simp only [h1, e2, e4, e5, h6, h7]
  refine (if_neg (by decide)).trans ((if_neg fun z => ?_).trans rfl)
  exact Bool.false_ne_true ((any_star h3).symm.trans z)
theorem names_two {c : Ck} {i j : Nat} {x y : Expr} (h : (swNames c [x, y]).length = 2) (hx : nameB c i x = true) (hy : nameB c j y = true) :
    ∃ a b pa pb, x = .Name a pa ∧ y = .Name b pb ∧ c.N[i]? = some a ∧ c.N[j]? = some b ∧ c.sc.names.lookup a = some .local ∧ c.sc.names.lookup b = some .local ∧ swNames c [x, y] = [a, b] := by
  cases x with
  | Name a pa =>
    cases y with
    | Name b pb =>
      unfold nameB at hx hy
      simp only [Bool.and_eq_true, decide_eq_true_eq] at hx hy
      refine ⟨a, b, pa, pb, rfl, rfl, hx.1, hy.1, hx.2, hy.2, ?_⟩
      unfold swNames at h ⊢
      simp only [List.filterMap_cons, List.filterMap_nil] at h ⊢
      split at h
      · split at h <;> simp at h
      · rename_i q1
        split at h
        · simp at h
        · rename_i q2
          rename_i b1 b2
          simp only [Option.ite_none_right_eq_some] at q1 q2
          have e1 := q1.2
          have e2 := q2.2
          simp_all
    | _ => cases hy
  | _ => cases hx
end
end Dl
set_option Elab.async false
set_option linter.all false
set_option maxRecDepth 100000
set_option maxHeartbeats 8000000
namespace Dl
open PySem PySem.Spec PyProof.Rows L2
section
variable {Γ : Ev} {c : Ck} {Z : Org} {X : Cx}
theorem names_three {c : Ck} {i j l : Nat} {x y z : Expr} (h : (swNames c [x, y, z]).length = 3) (hx : nameB c i x = true) (hy : nameB c j y = true) (hz : nameB c l z = true) :
    ∃ a b d pa pb pd, x = .Name a pa ∧ y = .Name b pb ∧ z = .Name d pd ∧ c.N[i]? = some a ∧ c.N[j]? = some b ∧ c.N[l]? = some d ∧ c.sc.names.lookup a = some .local ∧ c.sc.names.lookup b = some .local ∧ c.sc.names.lookup d = some .local ∧ swNames c [x, y, z] = [a, b, d] := by
  cases x with
  | Name a pa =>
    cases y with
    | Name b pb =>
      cases z with
      | Name d pd =>
        unfold nameB at hx hy hz
        simp only [Bool.and_eq_true, decide_eq_true_eq] at hx hy hz
        refine ⟨a, b, d, pa, pb, pd, rfl, rfl, rfl, hx.1, hy.1, hz.1, hx.2, hy.2, hz.2, ?_⟩
        have e : ∀ {ts : List Expr} {f : Expr → Option Str}, (ts.filterMap f).length ≤ ts.length := fun {ts f} => List.length_filterMap_le _ _
        unfold swNames at h ⊢
        simp only [List.filterMap_cons, List.filterMap_nil, hx.2, hy.2, hz.2] at h ⊢
        generalize (pa.line == (Option.map (fun x => x.pos.line) (List.head? [Expr.Name a pa, Expr.Name b pb, Expr.Name d pd])).getD 0) = b1 at h ⊢
        generalize (pb.line == (Option.map (fun x => x.pos.line) (List.head? [Expr.Name a pa, Expr.Name b pb, Expr.Name d pd])).getD 0) = b2 at h ⊢
        generalize (pd.line == (Option.map (fun x => x.pos.line) (List.head? [Expr.Name a pa, Expr.Name b pb, Expr.Name d pd])).getD 0) = b3 at h ⊢
        cases b1 <;> cases b2 <;> cases b3 <;> first | rfl | (simp at h)
      | _ => cases hz
    | _ => cases hy
  | _ => cases hx
theorem ok_set (G : Gd Γ c Z X) (h : ∀ {b : Stmt} {t : TS}, X.env.scope.kind = .function → PS X b t → PS X b t) : True := trivial
theorem PS.kind {s : Stmt} {t : TS} (h : X.env.scope.kind = .function → PS X s t) : PS X s t := ⟨fun pins s σ H D I q => (h I.ok.kind).run pins s σ H D I q⟩
theorem asg_ok {sl : List Nat} {g : DG} {tg v : Expr} {pos : Pos} {f : DE} (he : PE X v (liftE Z X.K f)) (hg : PG X tg (liftGW Z X.K sl g)) (h1 : swapsWith v (some tg) pos.line X.env = pure false) (h2 : swappedStores [tg] v X.env = pure none) (hs : noStar tg = true) :
    PS X (.Assign [tg] v pos) (liftS Z X.K fun F δ D => f δ D fun x D1 => g x δ D1 F.nx) := by
  refine PS.imp (ps_asg he hg h1 h2 (by rw [asg_each hs]; rfl)) fun E σ H ⟨ro, δ, D, F, sr, hr, q, po⟩ => ?_
  refine lift_bind sr hr q fun ro1 x D1 v H1 p1 e1 sr1 hr1 vx q1 => ?_
  exact ⟨ro1, δ, D1, x, F.nx, sr1, hr1, vx, q1, fun ro2 δ2 D2 σ2 H2 p2 e2 hr2 sr2 _ q2 => po.nx ro2 δ2 D2 σ2 H2 (p1.trans p2) (e1.trans e2) hr2 sr2 q2⟩
theorem chkT_star {t : IT} {c : Ck} {e : Expr} (h : chkT t c e = true) : noStar e = true := by
  cases e with
  | Starred => cases t <;> (simp only [chkT] at h; cases h)
  | _ => rfl
mutual
theorem okS : ∀ (a : IS) {s : Stmt}, Gd Γ c Z X → PassesOwn (model X.prog X.w) X.A X.env X.xe → chkS a c s = true → PS X s (liftS Z X.K (semS Γ a))
  | .asg t a, s, G, hp, h => by
    simp only [chkS] at h
    split at h
    · rename_i tg v pos
      simp only [Bool.and_eq_true] at h
      obtain ⟨⟨⟨h1, h2⟩, h3⟩, h4⟩ := h
      refine PS.kind fun hk => ?_
      have h5 := stores_no G h1 hk
      simp only [semS]
      cases hb : swapB c tg v with
      | false => exact asg_ok (okE a G h4) (okT t G h3) (swapsWith_no G h2 hb hk) h5 (chkT_star h3)
      | true =>
        cases v with
        | ListComp x gens scope p =>
          cases tg with
          | Name y py =>
            cases t with
            | nm i =>
              cases a with
              | lc own tg it cs el =>
                simp only [chkE] at h4
                split at h4
                · rename_i heq
                  cases heq
                  simp only [Bool.and_eq_true] at h4
                  obtain ⟨⟨⟨⟨⟨⟨a1, a2⟩, a3⟩, a4⟩, a5⟩, a6⟩, a7⟩ := h4
                  simp only [chkT, Bool.and_eq_true, decide_eq_true_eq] at h3
                  have hl : X.env.scope.names.lookup y = some .local := by
                    rw [G.sc]
                    have hb' := hb
                    unfold swapB at hb'
                    simp only [Bool.and_eq_true] at hb'
                    exact eq_of_beq hb'.1.1
                  refine PS.imp (ps_setLc (own := own) (te := liftE Z X.K (semE Γ.nox el)) (tt := liftT Z X.K (semC Γ.nox cs)) (g := liftGW Z X.K (slT tg) (semT Γ.nox tg)) G.calm G.nd (by rw [G.nN]; exact h3.1) hl (swapsWith_yes G hb hk) (okI it G a3) (blkOk_by (by rw [G.nN, G.sc]; exact a1)) (fun s H C cl fp => okT tg (G.blk _ s H C cl fp) a5) (fun s H C cl fp => okC cs (G.blk _ s H C cl fp) a6) (fun s H C cl fp => okE el (G.blk _ s H C cl fp) a7) (noSet_fold a2)) fun E σ H ⟨ro, δ, D, F, sr, hr, q, po⟩ => ?_
                  simp only [semE, semT] at q
                  refine lc_read (fun i hi => of_decide_eq_true (List.all_eq_true.mp a4 i hi)) ⟨ro, δ, D, _, sr, hr, q, fun ro1 d D1 v H1 p1 e1 hr1 vr q1 => ?_⟩
                  exact po.nx ro1 _ D1 _ H1 p1 e1 hr1 ((sr.stay p1 e1).set vr) q1
                · cases h4
              | _ => first | (simp only [chkE] at h4; cases h4) | exact absurd h4 Bool.false_ne_true
            | _ => first | (simp only [chkT] at h3; cases h3) | exact absurd h3 Bool.false_ne_true
          | _ => cases hb
        | _ => cases hb
    · cases h
  | .par2 i j a b, s, G, hp, h => by
    simp only [chkS] at h
    split at h
    · simp only [Bool.and_eq_true, decide_eq_true_eq] at h
      obtain ⟨⟨⟨⟨⟨h0, h1⟩, h2⟩, h3⟩, h4⟩, h5⟩ := h
      refine PS.kind fun hk => ?_
      have h6 := stores_yes (k := 0) (k2 := 0) (p := ⟨0, 0, 0, 0⟩) (p2 := ⟨0, 0, 0, 0⟩) G h1 hk
      have h1' := h1
      unfold swYes at h1'
      simp only [Bool.and_eq_true] at h1'
      obtain ⟨⟨⟨⟨⟨⟨_, _⟩, s1⟩, s2⟩, _⟩, _⟩, _⟩ := h1'
      obtain ⟨x, y, px, py, rfl, rfl, n1, n2, l1, l2, en⟩ := names_two (by simpa using s2) h2 h3
      rename_i e f _ _ _
      rw [en] at h6
      simp only [List.all_cons, List.all_nil, Bool.and_eq_true, Bool.and_true] at s1
      simp only [semS]
      refine PS.imp (ps_par G.calm G.nd (by rw [G.nN]; exact n1) (by rw [G.nN]; exact n2) h0 (by rw [G.sc]; exact l1) (by rw [G.sc]; exact l2) (pa_cons (okE a G h4) (pa_cons (okE b G h5) pa_nil (star_cons s1.2)) (star_cons s1.1)) h6 rfl) fun E σ H ⟨ro, δ, D, F, sr, hr, q, po⟩ => ?_
      refine lift_bind sr hr q fun ro1 x D1 v H1 p1 e1 sr1 hr1 vx q1 => ?_
      refine lift_bind sr1 hr1 q1 fun ro2 y D2 u H2 p2 e2 sr2 hr2 vy q2 => ?_
      exact ⟨v, u, rfl, po.nx ro2 _ D2 _ H2 (p1.trans p2) (e1.trans e2) hr2 ((sr2.set (vx.stay p2 e2)).set vy) q2⟩
    · cases h
  | .par3 i j l a b d, s, G, hp, h => by
    simp only [chkS] at h
    split at h
    · simp only [Bool.and_eq_true, decide_eq_true_eq] at h
      obtain ⟨⟨⟨⟨⟨⟨⟨⟨⟨h0, h0'⟩, h0''⟩, h1⟩, h2⟩, h3⟩, h3'⟩, h4⟩, h5⟩, h5'⟩ := h
      refine PS.kind fun hk => ?_
      have h6 := stores_yes (k := 0) (k2 := 0) (p := ⟨0, 0, 0, 0⟩) (p2 := ⟨0, 0, 0, 0⟩) G h1 hk
      have h1' := h1
      unfold swYes at h1'
      simp only [Bool.and_eq_true] at h1'
      obtain ⟨⟨⟨⟨⟨⟨_, _⟩, s1⟩, s2⟩, _⟩, _⟩, _⟩ := h1'
      obtain ⟨x, y, z, px, py, pz, rfl, rfl, rfl, n1, n2, n3, l1, l2, l3, en⟩ := names_three (by simpa using s2) h2 h3 h3'
      rw [en] at h6
      simp only [List.all_cons, List.all_nil, Bool.and_eq_true, Bool.and_true] at s1
      simp only [semS]
      refine PS.imp (ps_par3 G.calm G.nd (by rw [G.nN]; exact n1) (by rw [G.nN]; exact n2) (by rw [G.nN]; exact n3) h0 h0' h0'' (by rw [G.sc]; exact l1) (by rw [G.sc]; exact l2) (by rw [G.sc]; exact l3)
        (pa_cons (okE a G h4) (pa_cons (okE b G h5) (pa_cons (okE d G h5') pa_nil (star_cons s1.2.2)) (star_cons s1.2.1)) (star_cons s1.1)) h6 rfl) fun E σ H ⟨ro, δ, D, F, sr, hr, q, po⟩ => ?_
      refine lift_bind sr hr q fun ro1 x D1 v H1 p1 e1 sr1 hr1 vx q1 => ?_
      refine lift_bind sr1 hr1 q1 fun ro2 y D2 u H2 p2 e2 sr2 hr2 vy q2 => ?_
      refine lift_bind sr2 hr2 q2 fun ro3 z D3 w H3 p3 e3 sr3 hr3 vz q3 => ?_
      exact ⟨v, u, w, rfl, po.nx ro3 _ D3 _ H3 ((p1.trans p2).trans p3) ((e1.trans e2).trans e3) hr3 (((sr3.set (vx.stay (p2.trans p3) (e2.trans e3))).set (vy.stay p3 e3)).set vz) q3⟩
    · cases h
  | .expr a, s, G, hp, h => by
    simp only [chkS] at h
    split at h
    · simp only [semS]
      refine PS.imp (ps_expr (okE a G h) rfl) fun E σ H ⟨ro, δ, D, F, sr, hr, q, po⟩ => ?_
      exact lift_bind sr hr q fun ro1 x D1 v H1 p1 e1 sr1 hr1 vx q1 => po.nx ro1 δ D1 σ H1 p1 e1 hr1 sr1 q1
    · cases h
  | .ret a, s, G, hp, h => by
    simp only [chkS] at h
    split at h
    · simp only [semS]
      refine PS.imp (ps_ret (okE a G h)) fun E σ H ⟨ro, δ, D, F, sr, hr, q, po⟩ => ?_
      exact ⟨ro, δ, D, F.rt, sr, hr, q, po.rt⟩
    · cases h
  | .retN, s, G, hp, h => by
    simp only [chkS] at h
    split at h
    · simp only [semS]
      exact PS.imp ps_retN fun E σ H ⟨ro, δ, D, F, sr, hr, q, po⟩ => po.rt.here hr (d := .non) (by simp only [VR]) q
    · cases h
  | .pass, s, G, hp, h => by
    simp only [chkS] at h
    split at h
    · simp only [semS]
      exact PS.imp ps_pass fun E σ H ⟨ro, δ, D, F, sr, hr, q, po⟩ => po.nx ro δ D σ H pre_refl (Ext.refl H) hr sr q
    · simp only [semS]
      exact PS.imp ps_doc fun E σ H ⟨ro, δ, D, F, sr, hr, q, po⟩ => po.nx ro δ D σ H pre_refl (Ext.refl H) hr sr q
    · cases h
  | .brk, s, G, hp, h => by
    simp only [chkS] at h
    split at h
    · simp only [semS]
      exact PS.imp ps_break fun E σ H ⟨ro, δ, D, F, sr, hr, q, po⟩ => po.bk ro δ D σ H pre_refl (Ext.refl H) hr sr q
    · cases h
  | .cont, s, G, hp, h => by
    simp only [chkS] at h
    split at h
    · simp only [semS]
      exact PS.imp ps_continue fun E σ H ⟨ro, δ, D, F, sr, hr, q, po⟩ => po.ct ro δ D σ H pre_refl (Ext.refl H) hr sr q
    · cases h
  | .ife t a b, s, G, hp, h => by
    simp only [chkS] at h
    split at h
    · simp only [Bool.and_eq_true] at h
      obtain ⟨⟨h1, h2⟩, h3⟩ := h
      simp only [semS]
      refine PS.imp (ps_if (okB t G h1) (okSs a G hp h2) (okSs b G hp h3)) fun E σ H ⟨ro, δ, D, F, sr, hr, q, po⟩ => ?_
      refine lift_bindT sr hr q fun ro1 k D1 H1 p1 e1 sr1 hr1 q1 => ?_
      cases k with
      | true => exact ⟨ro1, δ, D1, F, sr1, hr1, q1, po.on p1 e1⟩
      | false => exact ⟨ro1, δ, D1, F, sr1, hr1, q1, po.on p1 e1⟩
    · cases h
  | .for_ t it b, s, G, hp, h => by
    simp only [chkS] at h
    split at h
    · simp only [Bool.and_eq_true] at h
      obtain ⟨⟨⟨h1, h2⟩, h3⟩, h4⟩ := h
      simp only [semS]
      exact for_ok hp G.calm (okI it G h3) (okT t G h2) (okSs b G hp h4) (noSet_fold h1)
    · cases h
  | .while_ t b, s, G, hp, h => by
    simp only [chkS] at h
    split at h
    · simp only [Bool.and_eq_true] at h
      simp only [semS]
      exact while_ok hp (okB t G h.1) (okSs b G hp h.2)
    · cases h
theorem okSs : ∀ (a : ISs) {ss : List Stmt}, Gd Γ c Z X → PassesOwn (model X.prog X.w) X.A X.env X.xe → chkSs a c ss = true → PSs X ss (liftS Z X.K (semSs Γ a))
  | .nil, ss, G, hp, h => by
    simp only [chkSs] at h
    cases ss with
    | cons s ss => cases h
    | nil =>
      simp only [semSs]
      exact PSs.imp pss_nil fun E σ H ⟨ro, δ, D, F, sr, hr, q, po⟩ => po.nx ro δ D σ H pre_refl (Ext.refl H) hr sr q
  | .cons a as, ss, G, hp, h => by
    simp only [chkSs] at h
    split at h
    · rw [Bool.and_eq_true] at h
      simp only [semSs]
      refine PSs.imp (pss_cons (okS a G hp h.1) (okSs as G hp h.2)) fun E σ H ⟨ro, δ, D, F, sr, hr, q, po⟩ => ?_
      refine ⟨ro, δ, D, _, sr, hr, q, ⟨fun ro1 δ1 D1 σ1 H1 p1 e1 hr1 sr1 q1 => ?_, po.rt, po.bk, po.ct⟩⟩
      exact ⟨ro1, δ1, D1, F, sr1, hr1, q1, po.on p1 e1⟩
    · cases h
end
end
end Dl
set_option Elab.async false
set_option linter.all false
set_option maxRecDepth 100000
set_option maxHeartbeats 4000000
namespace Dl
open PySem PySem.Spec PyProof.Rows L2

/-! ### a def by its reading -/
def startD (N : List Str) (ds : List DV) : DSt := ds.map some ++ List.replicate (N.length - ds.length) none
theorem start_rel {K : PySem.W.Frag} {ro : List Addr} {H : Hp} {N : List Str} {ds : List DV} {vs : List V} (h : VRs K ro H ds vs) : SR ⟨ro, H⟩ K ro H (startD N ds) (L2.start N vs) := by
  have hl := h.length
  refine ⟨pre_refl, Ext.refl H, ?_, fun i d e => ?_⟩
  · unfold startD L2.start
    simp [hl]
  · unfold startD at e
    unfold L2.start
    by_cases hi : i < ds.length
    · rw [List.getElem?_append_left (by simpa using hi)] at e
      rw [List.getElem?_append_left (by simpa [← hl] using hi)]
      rw [List.getElem?_map] at e ⊢
      obtain ⟨d', e1, e2⟩ := Option.map_eq_some_iff.mp e
      cases e2
      obtain ⟨v, g1, g2⟩ := h.get e1
      exact ⟨v, by rw [g1]; rfl, g2⟩
    · rw [List.getElem?_append_right (by simpa using hi)] at e
      rw [List.getElem?_replicate] at e
      split at e <;> cases e
theorem post_fgt {K : PySem.W.Frag} {ro : List Addr} {H : Hp} {D : DHp} {R : DR} {Q : VK} (hr : HR K ro D H) (po : Post K ro H R Q) : Post K ro H (FgtV D R) Q := by
  intro ro' d D' v H' p e hr' vr q
  rcases q with q | ⟨k, c, w, q⟩
  · exact po ro' d D' v H' p e hr' vr q
  · exact po (ro'.take k) d (D'.take k) v H' (pre_cut p (by rw [hr.len]; exact c.1)) e (hr.okCut hr' c) (vr.cut w) q

structure FnB (P : Program) (w : World) (K : PySem.W.Frag) (mg : Str → Option Value) (base : Heap) (k : Nat) (f : Str) (ps : List Str) (kcs : List KC) (sp : DSp) : Prop where
  ex : ∃ a fd, mg f = some (.ref a) ∧ PySem.W.keepIn K (.ref a) = true ∧ FnG P w K mg base k a fd ps (liftSp K sp) ∧
    (∀ s us, us.length = ps.length → BindsTo s fd ⟨us, []⟩ (ps.zip us)) ∧ ∀ kc ∈ kcs, BindK fd ps kc
theorem FnB.up {P : Program} {w : World} {K : PySem.W.Frag} {mg : Str → Option Value} {base : Heap} {j k : Nat} {f : Str} {ps : List Str} {kcs : List KC} {sp : DSp} (F : FnB P w K mg base j f ps kcs sp) (h : j ≤ k) : FnB P w K mg base k f ps kcs sp :=
  let ⟨a, fd, h1, h2, h3, h4⟩ := F.ex
  ⟨a, fd, h1, h2, h3.up h, h4⟩
/-- the defs that are told of, the names that stand for data -/
structure Wd (P : Program) (w : World) (K : PySem.W.Frag) (mg : Str → Option Value) (base : Heap) (k : Nat) (bn : List Str) (kc : List (Str × KC)) (fn : Str → Option DSp) (gl : Str → Option DV) : Prop where
  sy : SysOk base
  bn : ∀ x ∈ bn, mg x = none ∧ x ≠ "__name__"
  gl : ∀ x d, gl x = some d → ∃ v u, mg x = some u ∧ RelV v u ∧ ∀ ro H, VR K ro H d v
  fn : ∀ f sp, fn f = some sp → ∃ ps kcs, FnB P w K mg base k f ps kcs sp ∧ ∀ q, (f, q) ∈ kc → q ∈ kcs
section
variable {P : Program} {w : World} {K : PySem.W.Frag} {mg : Str → Option Value} {base : Heap} {k : Nat} {bn : List Str} {kc : List (Str × KC)} {fn : Str → Option DSp} {gl : Str → Option DV}
theorem FunD.keep {x qual : Str} {params : Arguments} {body : List Stmt} {scope : Scope} {dvs : List V} {kws : List (Str × V)} {f : Addr} {fd : FuncData} (F : FunD K x qual params body scope dvs kws f fd) : PySem.W.keepIn K (.ref f) = true := F.kp
/-- the rule for a def -/
theorem Wd.def_ (W : Wd P w K mg base k bn kc fn gl) {x qual : Str} {params : Arguments} {body : List Stmt} {scope : Scope} {a : Addr} {fd : FuncData} (F : FunD K x qual params body scope [] [] a fd) (hm : mg x = some (.ref a)) {N ps : List Str} (S : FnScope N ps scope) {kcs : List KC} {sp : DSp} {code : ISs}
    (bp : ∀ s us, us.length = ps.length → BindsTo s fd ⟨us, []⟩ (ps.zip us)) (bk : ∀ q ∈ kcs, BindK fd ps q) (hc : chkSs code ⟨N, scope, scope, bn, kc⟩ body = true) (len : ∀ ds D R E, sp ds D R E → ds.length = ps.length)
    (law : ∀ ds D R Ex, sp ds D R Ex → semSs ⟨fn, gl, fun c p _ D => Ex c p D⟩ code { nx := fun _ D' => FgtV D R .non D', rt := FgtV D R } (startD N ds) D) :
    FnB P w K mg base (k + 1) x ps kcs sp := by
  refine ⟨a, fd, hm, F.kp, FnG.of_body F S (fun vs H Q E ⟨ro, D, ds, R, Ex, hr, vr, h, _, _⟩ => by rw [← vr.length]; exact len ds D R Ex h) fun cd A outer s H vs Q E room gu ⟨ro, D, ds, R, Ex, hr, vr, h, po, px⟩ => ?_, bp, bk⟩
  have un := room.un
  have G : Gd ⟨fn, gl, fun c p _ D => Ex c p D⟩ ⟨N, scope, scope, bn, kc⟩ ⟨ro, H⟩ (cxOf (L2.CX P w) P w K mg base N qual scope a cd A outer s H E) :=
    { calm := rfl
      gd := gu
      un := by
        show (A.deeper (envOfC qual scope s.heap.objs.size a cd)).units + 64 < cLine
        omega
      sy := W.sy
      nN := rfl
      nd := S.nd
      sc := rfl
      fnr := fun _ _ => rfl
      bn := W.bn
      gl := W.gl
      fn := fun f sp' hf => by
        obtain ⟨ps', kcs', B, hk⟩ := W.fn f sp' hf
        obtain ⟨b, fb, h1, h2, h3, h4, h5⟩ := B.ex
        exact ⟨ps', kcs', ⟨k, b, fb, h1, h2, room, h3, h4, h5⟩, hk⟩
      tk := Takes.imp (takes_of (E₁ := _) rfl rfl rfl rfl) fun c d σ H' ⟨ro', δ', D', p, sr', hr', pr, ex⟩ => px ro' D' H' c d p sr'.pre sr'.ext hr' pr ex }
  have PO : PassesOwn (model (cxOf (L2.CX P w) P w K mg base N qual scope a cd A outer s H E).prog (cxOf (L2.CX P w) P w K mg base N qual scope a cd A outer s H E).w) (cxOf (L2.CX P w) P w K mg base N qual scope a cd A outer s H E).A (cxOf (L2.CX P w) P w K mg base N qual scope a cd A outer s H E).env (cxOf (L2.CX P w) P w K mg base N qual scope a cd A outer s H E).xe := passes_of rfl
  refine ⟨_, okSs code G PO hc, ro, startD N ds, D, _, start_rel vr, hr, law ds D R Ex h, ⟨fun ro' δ' D' σ' H' p e hr' sr' q => post_fgt hr po ro' .non D' .non H' p e hr' (by simp only [VR]) q, post_fgt hr po, fun _ _ _ _ _ _ _ _ _ q => q.elim, fun _ _ _ _ _ _ _ _ _ q => q.elim⟩⟩
theorem Wd.nil (sy : SysOk base) (hb : ∀ x ∈ bn, mg x = none ∧ x ≠ "__name__") (hg : ∀ x d, gl x = some d → ∃ v u, mg x = some u ∧ RelV v u ∧ ∀ ro H, VR K ro H d v) : Wd P w K mg base 0 bn kc (fun _ => none) gl :=
  ⟨sy, hb, hg, fun _ _ h => nomatch h⟩
def addF (fn : Str → Option DSp) (f : Str) (sp : DSp) : Str → Option DSp := fun x => if x = f then some sp else fn x
theorem Wd.add (W : Wd P w K mg base k bn kc fn gl) {f : Str} {ps : List Str} {kcs : List KC} {sp : DSp} (F : FnB P w K mg base (k + 1) f ps kcs sp) (h : ∀ q, (f, q) ∈ kc → q ∈ kcs) : Wd P w K mg base (k + 1) bn kc (addF fn f sp) gl :=
  ⟨W.sy, W.bn, W.gl, fun g sp' e => by
    unfold addF at e
    by_cases z : g = f
    · rw [if_pos z] at e; cases e; subst z
      exact ⟨ps, kcs, F, h⟩
    · rw [if_neg z] at e
      obtain ⟨ps', kcs', B, hk⟩ := W.fn g sp' e
      exact ⟨ps', kcs', B.up (Nat.le_succ k), hk⟩⟩
end
end Dl
set_option Elab.async false
set_option linter.all false
set_option maxRecDepth 100000
set_option maxHeartbeats 4000000
namespace Dl
open PySem PySem.Spec PyProof.Rows L2

/-! ### the end: the law's promise at the heap behind the top -/
section
variable {P : Program} {w : World} {K : PySem.W.Frag} {mg mb : Str → Option Value} {k : Nat} {fa a : Addr} {fd : FuncData} {x : Str} {sp : Sp} {t : Shared} {us : List Value} {ns : List Int}
theorem fin_core (KX : K.In t.heap) (hns : t.heap.Ns mainGlobals mg) (hb : t.heap.Ns builtinsNs mb) (hbb : ∀ y : Str, y ≠ "__name__" → mb y = bootBuiltins y) (hlim : t.heap.NoLimit) (hm : ∃ mm, t.heap.Ns sysModules mm) (hg : t.gens = #[])
    (ha : t.heap.get? a = some { cls := .type "list", data := .seq us.toArray }) (room : Room k callerA) (F : ∀ base : Heap, K.In base → base.Ns mainGlobals mg → SysOk base → FnG P w K mg base k fa fd [x] sp)
    (bind : ∀ (s : Shared) (u : Value), BindsTo s fd ⟨[u], []⟩ [(x, u)]) {H : Hp} (hO : Only H) (hok : HOk P w H t.heap) (hA : ∀ b, H b ≠ none → b = a) (hK : H a ≠ none → K.lookup a = none) (h : sp [.ref a] H (fun v _ => v = .bl true) fun _ _ _ => False) :
    codeAny (model P w) callerA (.call (.ref fa) ⟨[.ref a], []⟩) (fun r s' => r = .ok (.ret (.bool true)) ∧ OldK t.heap s'.heap ∧ s'.os = t.os ∧ AllBare s'.gens) t := by
  have keep : ∀ {b : Addr} {o : Obj}, t.heap.get? b = some o → H b = none → (hidT t.heap H).get? b = some o := fun e n => hidT_get e n
  have free : ∀ {b : Addr} {o : Obj} {es : Array DictEntry} {ep : Nat}, t.heap.get? b = some o → o.data = .dict es ep → H b = none := fun {b o es ep} e d => by
    rcases hb0 : H b with _ | u
    · rfl
    · have z : b = a := hA b (by rw [hb0]; exact Option.some_ne_none u)
      subst z
      rw [ha] at e; cases e
      exact absurd d (by simp)
  have ns' : ∀ {b : Addr} {m : Str → Option Value}, t.heap.Ns b m → (hidT t.heap H).Ns b m := fun {b m} ⟨o, es, ep, e, d, r⟩ => ⟨o, es, ep, keep e (free e d), d, r⟩
  have KB : K.In (hidT t.heap H) := fun b o e => by
    refine keep (KX b o e) ?_
    rcases hb0 : H b with _ | u
    · rfl
    · have z : b = a := hA b (by rw [hb0]; exact Option.some_ne_none u)
      subst z
      rw [hK (by rw [hb0]; exact Option.some_ne_none u)] at e; cases e
  have sy : SysOk (hidT t.heap H) := by
    obtain ⟨mm, q⟩ := hm
    obtain ⟨o, es, ep, e, d, _⟩ := ns' q
    exact ⟨o, es, ep, e, d⟩
  have M : Mod K mg (hidT t.heap H) := ⟨KB, ns' hns, ⟨mb, ns' hb, hbb⟩, by obtain ⟨mc, q1, q2⟩ := hlim; exact ⟨mc, ns' q1, q2⟩⟩
  have env : Env0 P w K mg (hidT t.heap H) callerA [] t H := ⟨rfl, M, fun b o e => of_hidT e, Nat.le_of_eq (hidT_size _ _), trivial, fun b hb => (by cases (show b ∈ ([] : List Addr) from hb)), hok, .of_eq hg⟩
  have run := (F _ KB (ns' hns) sy).go callerA [] t H ⟨[.ref a], []⟩ [.ref a] [.ref a] _ _ room rfl env (bind t (.ref a)) (.cons rfl .nil) h
  refine codeAny_mono run fun r s' q => ?_
  match r, q with
  | .error e, q =>
    obtain ⟨_, _, _, _, _, _, _, _, _, _, _, _, _, z⟩ := q
  | .ok .next, q => exact False.elim q
  | .ok .brk, q => exact False.elim q
  | .ok .cont, q => exact False.elim q
  | .ok (.ret u), q =>
    obtain ⟨v, H', os, bare, un, hok', rv, ev⟩ := q
    have ev : v = .bl true := ev
    subst ev
    have eu : u = Value.bool true := rv
    subst eu
    refine ⟨rfl, OldK.of_keep fun b o e => ?_, os, bare⟩
    rcases hO b with z | ⟨ob, ys, z⟩
    · exact un.keep b o e z (fun m => (by cases (show b ∈ ([] : List Addr) from m))) (by simp)
    · have e1 := (hok b _ z).1
      have e2 := (hok' b _ (un.frzs b ob _ z)).1
      rw [e] at e1; cases e1
      exact e2
/-- a promise that asks a list of ints which never changes -/
theorem fin_call {sp : DSp} (KX : K.In t.heap) (hns : t.heap.Ns mainGlobals mg) (hb : t.heap.Ns builtinsNs mb) (hbb : ∀ y : Str, y ≠ "__name__" → mb y = bootBuiltins y) (hlim : t.heap.NoLimit) (hm : ∃ mm, t.heap.Ns sysModules mm) (hg : t.gens = #[])
    (ha : t.heap.get? a = some { cls := .type "list", data := .seq us.toArray }) (hi : IntsAre us ns) (hl : ns.length ≤ sizeLine) (room : Room k callerA) (F : ∀ base : Heap, K.In base → base.Ns mainGlobals mg → SysOk base → FnG P w K mg base k fa fd [x] (liftSp K sp))
    (bind : ∀ (s : Shared) (u : Value), BindsTo s fd ⟨[u], []⟩ [(x, u)]) (h : sp [.frl ns] [] (fun d _ => d = .bl true) fun _ _ _ => False) :
    codeAny (model P w) callerA (.call (.ref fa) ⟨[.ref a], []⟩) (fun r s' => r = .ok (.ret (.bool true)) ∧ OldK t.heap s'.heap ∧ s'.os = t.os ∧ AllBare s'.gens) t := by
  have rv := vals_ints hi
  have hlen := hi.length
  have mk : ∀ H : Hp, FrL K H a (ns.map V.int) → liftSp K sp [.ref a] H (fun v _ => v = .bl true) fun _ _ _ => False := fun H hf =>
    ⟨[], [], [.frl ns], _, _, ⟨rfl, List.nodup_nil, fun i o b e => by simp at e⟩, VRs.cons (by simp only [VR]; exact ⟨a, rfl, hf⟩) VRs.nil, h, fun ro' d D' v H' _ _ _ vr q => by
      have q : d = .bl true := q
      subst q
      simpa only [VR] using vr, fun _ _ _ _ _ _ _ _ _ _ q => q⟩
  cases hk : K.lookup a with
  | some o =>
    have e := KX a o hk
    rw [ha] at e; cases e
    exact fin_core KX hns hb hbb hlim hm hg ha room F bind (H := fun _ => none) (fun _ => .inl rfl) (fun b u z => by cases (show (none : Option HO) = some u from z)) (fun b z => absurd rfl z) (fun z => absurd rfl z)
      (mk _ (.inr fun H' => .inr ⟨_, us.toArray, _, hk, rfl, rfl, rfl, by rw [List.size_toArray, hlen]; exact hl, by simpa using rv⟩))
  | none =>
    have at_ : ∀ {b : Addr} {u : HO}, (if b = a then some (HO.frz { cls := .type "list", data := .seq us.toArray } (.lst (ns.map V.int))) else none) = some u → b = a ∧ u = HO.frz { cls := .type "list", data := .seq us.toArray } (.lst (ns.map V.int)) := fun {b u} z => by
      by_cases c : b = a
      · rw [if_pos c] at z; cases z; exact ⟨c, rfl⟩
      · rw [if_neg c] at z; cases z
    refine fin_core KX hns hb hbb hlim hm hg ha room F bind (H := fun b => if b = a then some (.frz { cls := .type "list", data := .seq us.toArray } (.lst (ns.map V.int))) else none) (fun b => ?_) (fun b u z => ?_) (fun b z => ?_) (fun _ => hk) (mk _ (.inl ⟨_, if_pos rfl⟩))
    · by_cases c : b = a
      · exact .inr ⟨_, _, if_pos c⟩
      · exact .inl (if_neg c)
    · obtain ⟨rfl, rfl⟩ := at_ z
      exact ⟨ha, by rw [List.length_map]; exact hl, us, _, rv, ha⟩
    · by_cases c : b = a
      · exact c
      · exact absurd (if_neg c) z
end
/-- the walk that the head asks -/
theorem walk_D {l : PySem.W.OpenLaw} {n k : Nat} {q : Program} {loose : List Str} {XP : (Str → Option Value) → Heap → Prop} {YP : World → Heap → Prop} {d : DefRec} {x : Str} {sp : DSp} (hn : l.most = some n) (hn2 : n ≤ sizeLine) (hdf : d.params.defaults = []) (room : Room k callerA) (hq : importsNone q = true)
    (F : ∀ (w : World) (mg : Str → Option Value) (fa : Addr) (h : Heap), YP w h → h.Ns mainGlobals mg → mg d.name = some (.ref fa) → ∃ (K : PySem.W.Frag) (fd : FuncData), K.In h ∧ (∀ (s : Shared) (u : Value), BindsTo s fd ⟨[u], []⟩ [(x, u)]) ∧
      ∀ base : Heap, K.In base → base.Ns mainGlobals mg → SysOk base → FnG l.prog w K mg base k fa fd [x] (liftSp K sp))
    (hsp : ∀ ns : List Int, ns.length ≤ n → (∀ z ∈ ns, Builtin.Int.intBits z ≤ 1048576) → sp [.frl ns] [] (fun d _ => d = .bl true) fun _ _ _ => False) :
    PySem.W.WalkO q loose XP YP l.row.toRowW d [] (fun f vs => PySem.call f vs) := by
  refine Att.attach_callB hn hdf fun w s₀ t mg mb fa o pm cd doc a us ns G Y ho hd hcd hmg hobj hints hlen bits hg => ?_
  obtain ⟨K, fd, KX, bind, hF⟩ := F w mg fa _ Y G.T.g hmg
  have sm : ∃ mm, t.heap.Ns sysModules mm := let ⟨mm, z, _⟩ := (G.T.seer hq).mods; ⟨mm, z⟩
  exact fin_call KX G.T.g G.T.b G.T.builtins G.T.nolimit sm hg hobj hints (Nat.le_trans hlen hn2) room hF bind (hsp ns hlen bits)
end Dl
set_option Elab.async false
set_option linter.all false
set_option maxRecDepth 100000
set_option maxHeartbeats 4000000
namespace Dl
open PySem PySem.Spec PyProof.Rows L2

/-! ### rules for loops -/
theorem fgt_mono {d0 : DSt} {D0 : DHp} {P Q : DSt → DHp → Prop} (h : ∀ δ D, P δ D → Q δ D) {δ : DSt} {D : DHp} (p : Fgt d0 D0 P δ D) : Fgt d0 D0 Q δ D := by
  rcases p with p | ⟨k, δ', a, b, p⟩
  · exact .inl (h _ _ p)
  · exact .inr ⟨k, δ', a, b, h _ _ p⟩
theorem for_rule {it : DIt} {g : DG} {b : DS} {F : DEnds} {d0 : DSt} {D0 : DHp} (I : Nat → DSt → DHp → Prop) (len : Nat) {δ : DSt} {D : DHp} (h0 : I 0 δ D)
    (hs : ∀ (i : Nat) (δ : DSt) (D : DHp) (N : DSt → DHp → Prop), i < len → I i δ D → (∀ δ' D', Fgt d0 D0 (I (i + 1)) δ' D' → N δ' D') → ∃ d, it i D = some (some d) ∧ g d δ D fun δ1 D1 => b { F with nx := N, ct := N, bk := F.nx } δ1 D1)
    (he : ∀ δ D, I len δ D → it len D = some none ∧ F.nx δ D) : ∃ n, forLoop it g b F d0 D0 n 0 δ D := by
  have go : ∀ (m i : Nat) (δ : DSt) (D : DHp), i + m = len → I i δ D → forLoop it g b F d0 D0 (m + 1) i δ D := by
    intro m
    induction m with
    | zero =>
      intro i δ D e h
      have : i = len := by omega
      subst this
      obtain ⟨a, q⟩ := he δ D h
      exact ⟨none, a, q⟩
    | succ m ih =>
      intro i δ D e h
      obtain ⟨d, a, q⟩ := hs i δ D (Fgt d0 D0 (forLoop it g b F d0 D0 (m + 1) (i + 1))) (by omega) h fun δ' D' z => fgt_mono (fun δ2 D2 z2 => ih (i + 1) δ2 D2 (by omega) z2) z
      exact ⟨some d, a, q⟩
  exact ⟨len + 1, go len 0 δ D (by omega) h0⟩
theorem while_rule {c : DT} {b : DS} {F : DEnds} {d0 : DSt} {D0 : DHp} (I : Nat → DSt → DHp → Prop) {m : Nat} {δ : DSt} {D : DHp} (h0 : I m δ D)
    (hs : ∀ (m : Nat) (δ : DSt) (D : DHp) (N : DSt → DHp → Prop), I m δ D → (∀ j δ' D', j < m → Fgt d0 D0 (I j) δ' D' → N δ' D') → c δ D fun k D1 => if k = true then b { F with nx := N, ct := N, bk := F.nx } δ D1 else F.nx δ D1) : ∃ n, whileLoop c b F d0 D0 n δ D := by
  have up : ∀ (n j : Nat), j ≤ n → True := fun _ _ _ => True.intro
  have go : ∀ (n m : Nat) (δ : DSt) (D : DHp), m < n → I m δ D → whileLoop c b F d0 D0 n δ D := by
    intro n
    induction n with
    | zero => intro m δ D h; omega
    | succ n ih =>
      intro m δ D hm h
      exact hs m δ D _ h fun j δ' D' hj z => fgt_mono (fun δ2 D2 z2 => ih j δ2 D2 (by omega) z2) z
  exact ⟨m + 1, go (m + 1) m δ D (by omega) h0⟩
theorem lc_rule {it : DIt} {g : DG} {cs : DT} {el : DE} {own : List Nat} {δ : DSt} {l : Nat} {D0 : DHp} {R : DR} (I : Nat → DHp → Prop) (len : Nat) {D : DHp} (h0 : I 0 D)
    (hs : ∀ (i : Nat) (D : DHp) (N : DHp → Prop), i < len → I i D → (∀ D', Fgt [] D0 (fun _ D => I (i + 1) D) [] D' → N D') → ∃ d, it i D = some (some d) ∧ g d (wipeD δ own) D fun δ1 D1 => cs δ1 D1 fun b D2 =>
      if b = true then el δ1 D2 fun y D3 => ∃ acc, D3[l]? = some (.lst acc) ∧ acc.length < sizeLine ∧ N (D3.set l (.lst (acc ++ [y]))) else N D2)
    (he : ∀ D, I len D → it len D = some none ∧ R (.ref l) D) : ∃ n, lcLoop it g cs el own δ l D0 R n 0 D := by
  have go : ∀ (m i : Nat) (D : DHp), i + m = len → I i D → lcLoop it g cs el own δ l D0 R (m + 1) i D := by
    intro m
    induction m with
    | zero =>
      intro i D e h
      have : i = len := by omega
      subst this
      obtain ⟨a, q⟩ := he D h
      exact ⟨none, a, q⟩
    | succ m ih =>
      intro i D e h
      obtain ⟨d, a, q⟩ := hs i D (fun D' => Fgt [] D0 (fun _ D => lcLoop it g cs el own δ l D0 R (m + 1) (i + 1) D) [] D') (by omega) h fun D' z => fgt_mono (fun δ2 D2 z2 => ih (i + 1) D2 (by omega) z2) z
      exact ⟨some d, a, q⟩
  exact ⟨len + 1, go len 0 D (by omega) h0⟩
end Dl
set_option Elab.async false
set_option linter.all false
set_option maxRecDepth 100000
set_option maxHeartbeats 4000000
namespace Dl
open PySem PySem.Spec PyProof.Rows L2

/-! ### steps by hand -/
theorem get_set {D : DHp} {p : Nat} {o u : DO} (h : D[p]? = some u) : (D.set p o)[p]? = some o := by
  rw [List.getElem?_set_self (List.getElem?_eq_some_iff.mp h).1]
theorem get_setN {D : DHp} {p q : Nat} {o : DO} (h : p ≠ q) : (D.set p o)[q]? = D[q]? := List.getElem?_set_ne h
theorem get_app {D E : DHp} {p : Nat} {o : DO} (h : D[p]? = some o) : (D ++ E)[p]? = some o := by
  rw [List.getElem?_append_left (List.getElem?_eq_some_iff.mp h).1]; exact h
theorem get_lt {D : DHp} {p : Nat} {o : DO} (h : D[p]? = some o) : p < D.length := (List.getElem?_eq_some_iff.mp h).1
theorem get_new {D : DHp} {o : DO} : (D ++ [o])[D.length]? = some o := by simp
theorem ix_dk {D : DHp} {p : Nat} {k v : DV} {q : Key} {kvs : List (Key × DV)} {R : DR} (h : D[p]? = some (.dk kvs)) (ek : keyD k = some q) (ev : valD kvs q = some v) (r : R v D) : ixD (.ref p) k D R := by
  refine .inr ⟨v, ?_, r⟩
  unfold getS
  rw [h]
  cases k <;> first | (cases ek; done) | (simp only [ek, Option.map_some, ev])
theorem ix_ls {D : DHp} {p : Nat} {i : Int} {v : DV} {ds : List DV} {R : DR} (h : D[p]? = some (.lst ds)) (e : atI ds i = some v) (r : R v D) : ixD (.ref p) (.int i) D R :=
  .inl ⟨ds, i, v, h, rfl, e, r⟩
theorem put_dk {D : DHp} {p : Nat} {k v : DV} {q : Key} {kvs : List (Key × DV)} (h : D[p]? = some (.dk kvs)) (ek : keyD k = some q) (hl : kvs.length < sizeLine) : putS D p k v = some (D.set p (.dk (putD kvs q v))) := by
  unfold putS
  rw [h]
  cases k <;> first | (cases ek; done) | (simp only [ek, Option.bind_some, if_pos hl])
theorem atI_nat {α : Type} {ds : List α} {i : Int} {v : α} (h0 : 0 ≤ i) (h : ds[i.toNat]? = some v) : atI ds i = some v := by
  have hl := (List.getElem?_eq_some_iff.mp h).1
  unfold atI ixN
  rw [if_pos h0, if_pos (by omega)]
  exact h
theorem pyFs_ints (g : Nat → Option PyData) : ∀ ns : List Int, pyFs g (ns.map .int) = some (ns.map .int)
  | [] => by simp only [List.map_nil, pyFs]
  | n :: ns => by
    simp only [List.map_cons, pyFs, pyF, pyFs_ints g ns, Option.bind_some, Option.map_some]
theorem canLay_ints : ∀ ns : List Int, PyData.canLayAll0 (ns.map .int) = true
  | [] => by simp only [List.map_nil, PyData.canLayAll0]
  | n :: ns => by simp only [List.map_cons, PyData.canLayAll0, PyData.canLay0, canLay_ints ns, Bool.and_self]
theorem depth_ints : ∀ ns : List Int, PyData.depthAll (ns.map .int) = 0
  | [] => by simp only [List.map_nil, PyData.depthAll]
  | n :: ns => by simp only [List.map_cons, PyData.depthAll, PyData.depth, depth_ints ns, Nat.max_self]
theorem eqv_ints : ∀ xs ys : List Int, PyData.eqvAll (xs.map .int) (ys.map .int) = decide (xs = ys)
  | [], [] => by simp [PyData.eqvAll]
  | [], y :: ys => by simp [PyData.eqvAll]
  | x :: xs, [] => by simp [PyData.eqvAll]
  | x :: xs, y :: ys => by
    simp only [List.map_cons, PyData.eqvAll, PyData.eqv, eqv_ints xs ys, List.cons.injEq]
    by_cases h : x = y <;> simp [h]
theorem py_lst {D : DHp} {a n : Nat} {ds : List DV} {xs : List PyData} (h : D[a]? = some (.lst ds)) (e : pyFs (pyG n D) ds = some xs) : py (n + 1) D (.ref a) = some (.list xs) := by
  unfold py
  simp only [pyF, pyG, h, e, Option.map_some]
section
variable {neg : Bool} {D : DHp} {R : DR}
theorem eq_int {i j : Int} (h : R (.bl (if neg then !decide (i = j) else decide (i = j))) D) : eqS neg (.int i) (.int j) D R := by
  refine .inr ⟨1, .int i, .int j, by simp only [py, pyF], by simp only [py, pyF], by simp [SeqAt.shaped, PyData.canLay0, PyData.depth], by simp [SeqAt.shaped, PyData.canLay0, PyData.depth], ?_⟩
  have e : PyData.eqv (.int i) (.int j) = decide (i = j) := by simp only [PyData.eqv]; by_cases h : i = j <;> simp [h]
  rw [e]; exact h
theorem eq_str {i j : Str} (h : R (.bl (if neg then !decide (i = j) else decide (i = j))) D) : eqS neg (.str i) (.str j) D R := .inl ⟨i, j, rfl, rfl, h⟩
theorem shaped_list (ns : List Int) : SeqAt.shaped (.list (ns.map .int)) = true := by
  simp [SeqAt.shaped, PyData.canLay0, PyData.depth, canLay_ints, depth_ints]
theorem shaped_tuple (ns : List Int) : SeqAt.shaped (.tuple (ns.map .int)) = true := by
  simp [SeqAt.shaped, PyData.canLay0, PyData.depth, canLay_ints, depth_ints]
theorem eq_lists {a b : Nat} {xs ys : List Int} (ha : D[a]? = some (.lst (xs.map .int))) (hb : D[b]? = some (.lst (ys.map .int))) (h : R (.bl (if neg then !decide (xs = ys) else decide (xs = ys))) D) : eqS neg (.ref a) (.ref b) D R := by
  refine .inr ⟨2, _, _, py_lst ha (pyFs_ints _ xs), py_lst hb (pyFs_ints _ ys), shaped_list xs, shaped_list ys, ?_⟩
  simp only [PyData.eqv, eqv_ints]
  exact h
theorem eq_tups {xs ys : List Int} (h : R (.bl (if neg then !decide (xs = ys) else decide (xs = ys))) D) : eqS neg (.tup (xs.map .int)) (.tup (ys.map .int)) D R := by
  refine .inr ⟨2, .tuple (xs.map .int), .tuple (ys.map .int), by simp only [py, pyF, pyFs_ints, Option.map_some], by simp only [py, pyF, pyFs_ints, Option.map_some], shaped_tuple xs, shaped_tuple ys, ?_⟩
  simp only [PyData.eqv, eqv_ints]
  exact h
end
theorem seqIx_nat {n j : Nat} (h : j < n) : seqIndex? (j : Int) n = some j := by
  unfold seqIndex?
  have h1 : ¬ ((j : Int) < 0) := by omega
  have h2 : (decide ((0 : Int) ≤ j) && decide ((j : Int) < n)) = true := by simp; omega
  simp only [h1, if_false, h2, if_true, Int.toNat_natCast]
theorem co_ne {x y : DV} {D : DHp} {R : DR} : coSem .ne x y D R = eqS true x y D R := rfl
theorem co_eq {x y : DV} {D : DHp} {R : DR} : coSem .eq x y D R = eqS false x y D R := rfl
theorem co_in {x y : DV} {D : DHp} {R : DR} : coSem .isin x y D R = inS false x y D R := rfl
theorem co_nin {x y : DV} {D : DHp} {R : DR} : coSem .nin x y D R = inS true x y D R := rfl
section
variable {D : DHp} {R : DR} {i j : Int}
theorem i_add (r : R (.int (i + j)) D) : boSem .add (.int i) (.int j) D R := r
theorem i_sub (r : R (.int (i - j)) D) : boSem .sub (.int i) (.int j) D R := r
theorem i_mulR (h : -(2 ^ 64) < j ∧ j < 2 ^ 64) (r : R (.int (i * j)) D) : boSem .mul (.int i) (.int j) D R := ⟨.inl (.inr h), r⟩
theorem i_mulL (h : -(2 ^ 64) < i ∧ i < 2 ^ 64) (r : R (.int (i * j)) D) : boSem .mul (.int i) (.int j) D R := ⟨.inl (.inl h), r⟩
theorem i_fdiv (h : j ≠ 0) (h2 : j.natAbs < 1073741824) (r : R (.int (i.fdiv j)) D) : boSem .fdiv (.int i) (.int j) D R := ⟨⟨h, h2⟩, r⟩
theorem i_mod (h : j ≠ 0) (r : R (.int (i.fmod j)) D) : boSem .mod (.int i) (.int j) D R := ⟨h, r⟩
theorem i_modG (h : 0 < j) (r : ∀ m, 0 ≤ m → m < j → R (.int m) D) : boSem .mod (.int i) (.int j) D R := ⟨by omega, r _ (Int.fmod_nonneg_of_pos _ h) (Int.fmod_lt_of_pos _ h)⟩
theorem i_pow (h : 0 ≤ j) (h2 : j ≤ 1000000) (h3 : i.natAbs < 2 ^ 64) (r : R (.int (i ^ j.toNat)) D) : boSem .pow (.int i) (.int j) D R := ⟨⟨h, h2, h3⟩, r⟩
theorem i_xor (r : R (.int (Builtin.bitXor i j)) D) : boSem .bxor (.int i) (.int j) D R := r
theorem s_add {a b : Str} (h : a.length + b.length ≤ sizeLine) (r : R (.str (a ++ b)) D) : boSem .add (.str a) (.str b) D R := ⟨h, r⟩
theorem t_add {a b : List DV} (h : a.length + b.length ≤ sizeLine) (r : R (.tup (a ++ b)) D) : boSem .add (.tup a) (.tup b) D R := ⟨h, r⟩
theorem l_add {a b : Nat} {xs ys : List DV} (ha : D[a]? = some (.lst xs)) (hb : D[b]? = some (.lst ys)) (h : xs.length + ys.length ≤ sizeLine) (r : R (.ref D.length) (D ++ [.lst (xs ++ ys)])) : boSem .add (.ref a) (.ref b) D R := ⟨xs, ys, ha, hb, h, r⟩
theorem i_lt (r : R (.bl (decide (i < j))) D) : coSem .lt (.int i) (.int j) D R := r
theorem i_le (r : R (.bl (decide (i ≤ j))) D) : coSem .le (.int i) (.int j) D R := r
theorem i_gt (r : R (.bl (decide (j < i))) D) : coSem .gt (.int i) (.int j) D R := r
theorem i_ge (r : R (.bl (decide (j ≤ i))) D) : coSem .ge (.int i) (.int j) D R := r
theorem b_int (r : R (.int i) D) : biSem .int [.int i] D R := r
theorem b_min (r : R (.int (if j < i then j else i)) D) : biSem .min [.int i, .int j] D R := r
theorem b_max (r : R (.int (if j > i then j else i)) D) : biSem .max [.int i, .int j] D R := r
theorem b_lenL {a : Nat} {xs : List DV} (ha : D[a]? = some (.lst xs)) (r : R (.int xs.length) D) : biSem .len [.ref a] D R := ⟨xs.length, by simp only [lenD, ha], r⟩
theorem b_lenT {xs : List DV} (r : R (.int xs.length) D) : biSem .len [.tup xs] D R := ⟨xs.length, rfl, r⟩
theorem b_lenF {xs : List Int} (r : R (.int xs.length) D) : biSem .len [.frl xs] D R := ⟨xs.length, rfl, r⟩
theorem b_tupL {a : Nat} {xs : List DV} (ha : D[a]? = some (.lst xs)) (r : R (.tup xs) D) : biSem .tuple [.ref a] D R := ⟨xs, by simp only [itemsD, ha], r⟩
theorem b_tupT {xs : List DV} (r : R (.tup xs) D) : biSem .tuple [.tup xs] D R := ⟨xs, rfl, r⟩
theorem b_lstL {a : Nat} {xs : List DV} (ha : D[a]? = some (.lst xs)) (r : R (.ref D.length) (D ++ [.lst xs])) : biSem .list [.ref a] D R := ⟨xs, by simp only [itemsD, ha], r⟩
theorem b_lstT {xs : List DV} (r : R (.ref D.length) (D ++ [.lst xs])) : biSem .list [.tup xs] D R := ⟨xs, rfl, r⟩
theorem b_srtT {ns : List Int} (r : R (.ref D.length) (D ++ [.lst ((isort ns).map .int)])) : biSem .sorted [.tup (ns.map .int)] D R := ⟨_, ns, rfl, toInts_ints ns, r⟩
theorem b_srtL {a : Nat} {ns : List Int} (ha : D[a]? = some (.lst (ns.map .int))) (r : R (.ref D.length) (D ++ [.lst ((isort ns).map .int)])) : biSem .sorted [.ref a] D R := ⟨_, ns, by simp only [itemsD, ha], toInts_ints ns, r⟩
theorem m_app {a : Nat} {xs : List DV} {y : DV} (ha : D[a]? = some (.lst xs)) (h : xs.length < sizeLine) (r : R .non (D.set a (.lst (xs ++ [y])))) : mtTy .lappend (.ref a) D ∧ mtSem .lappend (.ref a) [y] D R := ⟨⟨a, xs, rfl, ha⟩, xs, ha, h, r⟩
theorem ix_t {ds : List DV} {i : Int} {v : DV} (e : atI ds i = some v) (r : R v D) : ixD (.tup ds) (.int i) D R := ⟨v, e, r⟩
theorem sl_t {ds : List DV} {lo hi : Option Int} (r : R (.tup (cutL ds lo hi)) D) : slD (.tup ds) lo hi D R := r
theorem sl_l {a : Nat} {ds : List DV} {lo hi : Option Int} (ha : D[a]? = some (.lst ds)) (r : R (.ref D.length) (D ++ [.lst (cutL ds lo hi)])) : slD (.ref a) lo hi D R := ⟨ds, ha, r⟩
end
theorem set_app {D E : DHp} {p : Nat} {o : DO} (h : p < D.length) : (D ++ E).set p o = D.set p o ++ E := List.set_append_left _ _ h
theorem cut_new {D D1 : DHp} {R : DR} {d : DV} (hl : D1.length = D.length) (w : wfV D.length d = true) (wf : ∀ i o, i < D.length → D1[i]? = some o → D[i]? = some o ∨ wfO D.length o = true) {E : DHp} (h : R d D1) : FgtV D R d (D1 ++ E) := by
  refine .inr ⟨D.length, ⟨Nat.le_refl _, fun i o hi e => ?_⟩, w, ?_⟩
  · rw [List.getElem?_append_left (by omega)] at e
    exact wf i o hi e
  · rw [← hl, List.take_left]; exact h
theorem wf_ints (k : Nat) : ∀ ns : List Int, wfVs k (ns.map .int) = true
  | [] => by simp only [List.map_nil, wfVs]
  | n :: ns => by simp only [List.map_cons, wfVs, wfV, wf_ints k ns, Bool.and_self]
theorem last_map {ns : List Int} (h : ns ≠ []) : (ns.map DV.int)[(ns.map DV.int).length - 1]? = some (.int (ns.getLast h)) := by
  rw [List.getElem?_map, List.length_map, List.getLast_eq_getElem, List.getElem?_eq_getElem (by have := List.length_pos_iff.mpr h; omega)]
  rfl
theorem set_wf {D : DHp} {p : Nat} {o : DO} (w : wfO D.length o = true) : ∀ i u, i < D.length → (D.set p o)[i]? = some u → D[i]? = some u ∨ wfO D.length u = true := by
  intro i u hi e
  rw [List.getElem?_set] at e
  by_cases h : p = i
  · rw [if_pos h] at e
    split at e
    · cases e; exact .inr w
    · cases e
  · rw [if_neg h] at e
    exact .inl e
end Dl
set_option Elab.async false
set_option linter.all false
set_option maxRecDepth 100000
set_option maxHeartbeats 4000000
namespace Dl
open PySem PySem.Spec PyProof.Rows L2

/-! ### how long a repr is -/
mutual
def sz : PyData → Nat
  | .none => 4
  | .bool _ => 5
  | .int i => i.natAbs.log2 + 2
  | .str x => (reprText x).length
  | .list xs => 2 + szs xs
  | .tuple xs => 3 + szs xs
  | .dict kvs => 2 + szk kvs
def szs : List PyData → Nat
  | [] => 0
  | x :: xs => sz x + 2 + szs xs
def szk : List (PyData × PyData) → Nat
  | [] => 0
  | (a, b) :: r => sz a + 2 + sz b + 2 + szk r
end
def pl : List Str → Nat
  | [] => 0
  | t :: r => t.length + 2 + pl r
theorem ofS_len (s : String) : (Str.ofString s).length = s.length := by
  rw [Str.ofString_eq_toList]
  show ((s.toList.map Char.toNat).toArray).size = _
  rw [List.size_toArray, List.length_map, String.length_toList]
theorem ofS_small (s : String) : ∀ c ∈ (Str.ofString s).cps.toList, c < 16 ^ 8 := by
  rw [Str.ofString_eq_toList]
  intro c hc
  simp only [List.mem_map] at hc
  obtain ⟨a, _, rfl⟩ := hc
  have := a.val.toNat_lt
  exact this
theorem tf_le : ∀ (ts : List Str) (k : Nat) (acc : Str), (textFrom k acc ts).length ≤ acc.length + pl ts
  | [], k, acc => Nat.le_refl _
  | t :: r, k, acc => by
    have ih := tf_le r (k + 1) (acc ++ (if k > 0 then ", " else "" : String) ++ t)
    show (textFrom (k + 1) (acc ++ (if k > 0 then ", " else "" : String) ++ t) r).length ≤ _
    rw [strLen_append, strLen_append] at ih
    have e : (Str.ofString (if k > 0 then ", " else "")).length ≤ 2 := by
      rw [ofS_len]; split <;> decide
    simp only [pl]
    omega
theorem jn_le : ∀ ts : List Str, (Str.join ", " ts).length ≤ pl ts
  | [] => Nat.le_refl _
  | [x] => by show x.length ≤ x.length + 2 + 0; omega
  | x :: y :: r => by
    have ih := jn_le (y :: r)
    show (x ++ ", " ++ Str.join ", " (y :: r)).length ≤ _
    rw [strLen_append, strLen_append]
    have e : (Str.ofString ", ").length = 2 := by rw [ofS_len]; rfl
    simp only [pl] at ih ⊢
    omega
mutual
theorem shown_le : ∀ d : PyData, d.shown.length ≤ sz d
  | .none => by simp only [PyData.shown, sz]; rw [ofS_len]; decide
  | .bool b => by
    simp only [PyData.shown, sz]
    cases b
    · show (Str.ofString "False").length ≤ 5
      rw [ofS_len]; decide
    · show (Str.ofString "True").length ≤ 5
      rw [ofS_len]; decide
  | .int i => by
    simp only [PyData.shown, sz]
    rw [ofS_len]
    exact int_text_length_le (k := i.natAbs.log2 + 1) (by omega) (by omega)
  | .str x => by simp only [PyData.shown, sz]; exact Nat.le_refl _
  | .list xs => by
    simp only [PyData.shown, sz]
    unfold listText
    rw [strLen_append]
    have h1 := tf_le (PyData.shownAll xs) 0 "["
    have h2 := shownAll_le xs
    rw [ofS_len] at h1 ⊢
    have : ("[" : String).length = 1 := rfl
    have : ("]" : String).length = 1 := rfl
    omega
  | .tuple xs => by
    simp only [PyData.shown, sz]
    unfold tupleText
    rw [strLen_append, strLen_append, ofS_len, ofS_len]
    have h1 := jn_le (PyData.shownAll xs)
    have h2 := shownAll_le xs
    have : ("(" : String).length = 1 := rfl
    have : (if (PyData.shownAll xs).length == 1 then ",)" else ")" : String).length ≤ 2 := by split <;> decide
    omega
  | .dict kvs => by
    simp only [PyData.shown, sz]
    unfold dictText
    rw [strLen_append, strLen_append, ofS_len, ofS_len]
    have h1 := jn_le (PyData.shownKv kvs)
    have h2 := shownKv_le kvs
    have : ("{" : String).length = 1 := rfl
    have : ("}" : String).length = 1 := rfl
    omega
theorem shownAll_le : ∀ xs : List PyData, pl (PyData.shownAll xs) ≤ szs xs
  | [] => by simp only [PyData.shownAll, pl, szs]; exact Nat.le_refl _
  | x :: xs => by
    have h1 := shown_le x
    have h2 := shownAll_le xs
    simp only [PyData.shownAll, pl, szs]
    omega
theorem shownKv_le : ∀ xs : List (PyData × PyData), pl (PyData.shownKv xs) ≤ szk xs
  | [] => by simp only [PyData.shownKv, pl, szk]; exact Nat.le_refl _
  | (a, b) :: xs => by
    have h1 := shown_le a
    have h2 := shown_le b
    have h3 := shownKv_le xs
    simp only [PyData.shownKv, pl, szk]
    rw [strLen_append, strLen_append, ofS_len]
    have : (": " : String).length = 2 := rfl
    omega
end
theorem szs_app : ∀ xs ys : List PyData, szs (xs ++ ys) = szs xs + szs ys
  | [], ys => by simp [szs]
  | x :: xs, ys => by
    simp only [List.cons_append, szs, szs_app xs ys]
    omega
theorem szs_le {k : Nat} : ∀ xs : List PyData, (∀ x ∈ xs, sz x ≤ k) → szs xs ≤ xs.length * (k + 2)
  | [], _ => by simp [szs]
  | x :: xs, h => by
    have h1 := h x List.mem_cons_self
    have h2 := szs_le xs fun y hy => h y (List.mem_cons_of_mem _ hy)
    simp only [szs, List.length_cons, Nat.add_mul, Nat.one_mul]
    omega

/-! ### what is read at x, whatever happens below -/
def Keep (k : Nat) (D D' : DHp) : Prop := ∀ (i : Nat) (o : DO), k ≤ i → D[i]? = some o → D'[i]? = some o
theorem Keep.refl {k : Nat} {D : DHp} : Keep k D D := fun _ _ _ h => h
theorem Keep.trans {k : Nat} {D D1 D2 : DHp} (a : Keep k D D1) (b : Keep k D1 D2) : Keep k D D2 := fun i o h e => b i o h (a i o h e)
theorem Keep.app {k : Nat} {D E : DHp} : Keep k D (D ++ E) := fun _ _ _ h => get_app h
def Rd (k : Nat) (D : DHp) (x : DV) (a : PyData) : Prop := ∀ D', Keep k D D' → py 2 D' x = some a
def Rds (k : Nat) (D : DHp) (xs : List DV) (as : List PyData) : Prop := ∀ D', Keep k D D' → pyFs (pyG 2 D') xs = some as
theorem Rd.on {k : Nat} {D D1 : DHp} {x : DV} {a : PyData} (h : Rd k D x a) (q : Keep k D D1) : Rd k D1 x a := fun D' r => h D' (q.trans r)
theorem Rd.up {j k : Nat} {D : DHp} {x : DV} {a : PyData} (h : Rd k D x a) (q : j ≤ k) : Rd j D x a := fun D' r => h D' fun i o hi e => r i o (by omega) e
theorem Rds.nil {k : Nat} {D : DHp} : Rds k D [] [] := fun D' _ => by simp only [pyFs]
theorem Rds.cons {k : Nat} {D : DHp} {x : DV} {xs : List DV} {a : PyData} {as : List PyData} (h : Rd k D x a) (t : Rds k D xs as) : Rds k D (x :: xs) (a :: as) := fun D' q => by
  have e := h D' q
  unfold py at e
  simp only [pyFs, e, t D' q, Option.bind_some, Option.map_some]
theorem Rds.app {k : Nat} {D : DHp} {as bs : List PyData} {ys : List DV} (t : Rds k D ys bs) : ∀ {xs : List DV} {as : List PyData}, Rds k D xs as → Rds k D (xs ++ ys) (as ++ bs)
  | [], as, h => by
    have := h D Keep.refl
    simp only [pyFs] at this; cases this
    exact t
  | x :: xs, as, h => fun D' q => by
    have e := h D' q
    simp only [pyFs] at e
    obtain ⟨a, e1, e2⟩ := Option.bind_eq_some_iff.mp e
    obtain ⟨b, e3, e4⟩ := Option.map_eq_some_iff.mp e2
    subst e4
    have hx : Rds k D xs b := fun D2 q2 => by
      have f := h D2 q2
      simp only [pyFs] at f
      obtain ⟨a', f1, f2⟩ := Option.bind_eq_some_iff.mp f
      obtain ⟨b', f3, f4⟩ := Option.map_eq_some_iff.mp f2
      cases f4; exact f3
    have z := Rds.app (as := as) (bs := bs) t hx D' q
    simp only [List.cons_append, pyFs, e1, z, Option.bind_some, Option.map_some]
theorem Rd.int {k : Nat} {D : DHp} (i : Int) : Rd k D (.int i) (.int i) := fun D' _ => by simp only [py, pyF]
theorem Rd.bl {k : Nat} {D : DHp} (i : Bool) : Rd k D (.bl i) (.bool i) := fun D' _ => by simp only [py, pyF]
theorem Rd.non {k : Nat} {D : DHp} : Rd k D .non .none := fun D' _ => by simp only [py, pyF]
theorem Rd.str {k : Nat} {D : DHp} (i : Str) : Rd k D (.str i) (.str i) := fun D' _ => by simp only [py, pyF]
theorem Rd.tup {k : Nat} {D : DHp} {xs : List DV} {as : List PyData} (h : Rds k D xs as) : Rd k D (.tup xs) (.tuple as) := fun D' q => by simp only [py, pyF, h D' q, Option.map_some]
theorem Rds.ints {k : Nat} {D : DHp} (ns : List Int) : Rds k D (ns.map .int) (ns.map .int) := fun D' _ => pyFs_ints _ ns
/-- without references -/
def Pu (x : DV) (a : PyData) : Prop := ∀ g, pyF g x = some a
def Pus (xs : List DV) (as : List PyData) : Prop := ∀ g, pyFs g xs = some as
theorem Pu.rd {k : Nat} {D : DHp} {x : DV} {a : PyData} (h : Pu x a) : Rd k D x a := fun D' _ => h _
theorem Pus.rds {k : Nat} {D : DHp} {xs : List DV} {as : List PyData} (h : Pus xs as) : Rds k D xs as := fun D' _ => h _
theorem Pu.int (i : Int) : Pu (.int i) (.int i) := fun g => by simp only [pyF]
theorem Pu.tup {xs : List DV} {as : List PyData} (h : Pus xs as) : Pu (.tup xs) (.tuple as) := fun g => by simp only [pyF, h g, Option.map_some]
theorem Pus.ints (ns : List Int) : Pus (ns.map .int) (ns.map .int) := fun g => pyFs_ints g ns
theorem Pus.map {α : Type} {f : α → DV} {h : α → PyData} (e : ∀ x, Pu (f x) (h x)) : ∀ xs : List α, Pus (xs.map f) (xs.map h)
  | [] => fun g => by simp only [List.map_nil, pyFs]
  | x :: xs => fun g => by
    simp only [List.map_cons, pyFs, e x g, Pus.map e xs g, Option.bind_some, Option.map_some]
theorem pyG_lst {n i : Nat} {D : DHp} {ds : List DV} (h : D[i]? = some (.lst ds)) : pyG (n + 1) D i = (pyFs (pyG n D) ds).map .list := by simp only [pyG, h]
theorem pyG_dk {n i : Nat} {D : DHp} {ds : List (Key × DV)} (h : D[i]? = some (.dk ds)) : pyG (n + 1) D i = (pyKv (pyG n D) ds).map .dict := by simp only [pyG, h]
theorem Rd.lst {k l : Nat} {D : DHp} {xs : List DV} {as : List PyData} (hk : k ≤ l) (e : D[l]? = some (.lst xs)) (h : Pus xs as) : Rd k D (.ref l) (.list as) := fun D' q => by
  have e' := q l _ hk e
  simp only [py, pyF]
  rw [pyG_lst e', h (pyG 1 D')]; rfl
theorem Rd.dk0 {k l : Nat} {D : DHp} (hk : k ≤ l) (e : D[l]? = some (.dk [])) : Rd k D (.ref l) (.dict []) := fun D' q => by
  have e' := q l _ hk e
  simp only [py, pyF]
  rw [pyG_dk e']
  simp only [pyKv, Option.map_some]
theorem Rd.dk1 {k l : Nat} {D : DHp} {q : Key} {x : DV} {a : PyData} (hk : k ≤ l) (e : D[l]? = some (.dk [(q, x)])) (h : Pu x a) : Rd k D (.ref l) (.dict [(keyP q, a)]) := fun D' r => by
  have e' := r l _ hk e
  simp only [py, pyF]
  rw [pyG_dk e']
  simp only [pyKv, h (pyG 1 D'), Option.bind_some, Option.map_some]
end Dl
set_option Elab.async false
set_option linter.all false
set_option maxRecDepth 100000
set_option maxHeartbeats 4000000
namespace Dl
open PySem PySem.Spec PyProof.Rows L2
section
variable {P : Program} {w : World} {K : PySem.W.Frag} {mg : Str → Option Value} {base : Heap} {k : Nat} {bn : List Str} {kc : List (Str × KC)} {fn : Str → Option DSp} {gl : Str → Option DV}
/-- the rule for a def -/
theorem Wd.defG (W : Wd P w K mg base k bn kc fn gl) {x qual : Str} {params : Arguments} {body : List Stmt} {scope : Scope} {a : Addr} {fd : FuncData} (F : FunD K x qual params body scope [] [] a fd) {N ps : List Str} (S : FnScope N ps scope) {sp : DSp} {code : ISs}
    (hc : chkSs code ⟨N, scope, scope, bn, kc⟩ body = true) (len : ∀ ds D R E, sp ds D R E → ds.length = ps.length)
    (law : ∀ ds D R Ex, sp ds D R Ex → semSs ⟨fn, gl, fun c p _ D => Ex c p D⟩ code { nx := fun _ D' => FgtV D R .non D', rt := FgtV D R } (startD N ds) D) :
    FnG P w K mg base (k + 1) a fd ps (liftSp K sp) := by
  refine FnG.of_body F S (fun vs H Q E ⟨ro, D, ds, R, Ex, hr, vr, h, _, _⟩ => by rw [← vr.length]; exact len ds D R Ex h) fun cd A outer s H vs Q E room gu ⟨ro, D, ds, R, Ex, hr, vr, h, po, px⟩ => ?_
  have un := room.un
  have G : Gd ⟨fn, gl, fun c p _ D => Ex c p D⟩ ⟨N, scope, scope, bn, kc⟩ ⟨ro, H⟩ (cxOf (L2.CX P w) P w K mg base N qual scope a cd A outer s H E) :=
    { calm := rfl
      gd := gu
      un := by
        show (A.deeper (envOfC qual scope s.heap.objs.size a cd)).units + 64 < cLine
        omega
      sy := W.sy
      nN := rfl
      nd := S.nd
      sc := rfl
      fnr := fun _ _ => rfl
      bn := W.bn
      gl := W.gl
      fn := fun f sp' hf => by
        obtain ⟨ps', kcs', B, hk⟩ := W.fn f sp' hf
        obtain ⟨b, fb, h1, h2, h3, h4, h5⟩ := B.ex
        exact ⟨ps', kcs', ⟨k, b, fb, h1, h2, room, h3, h4, h5⟩, hk⟩
      tk := Takes.imp (takes_of (E₁ := _) rfl rfl rfl rfl) fun c d σ H' ⟨ro', δ', D', p, sr', hr', pr, ex⟩ => px ro' D' H' c d p sr'.pre sr'.ext hr' pr ex }
  have PO : PassesOwn (model (cxOf (L2.CX P w) P w K mg base N qual scope a cd A outer s H E).prog (cxOf (L2.CX P w) P w K mg base N qual scope a cd A outer s H E).w) (cxOf (L2.CX P w) P w K mg base N qual scope a cd A outer s H E).A (cxOf (L2.CX P w) P w K mg base N qual scope a cd A outer s H E).env (cxOf (L2.CX P w) P w K mg base N qual scope a cd A outer s H E).xe := passes_of rfl
  refine ⟨_, okSs code G PO hc, ro, startD N ds, D, _, start_rel vr, hr, law ds D R Ex h, ⟨fun ro' δ' D' σ' H' p e hr' sr' q => post_fgt hr po ro' .non D' .non H' p e hr' (by simp only [VR]) q, post_fgt hr po, fun _ _ _ _ _ _ _ _ _ q => q.elim, fun _ _ _ _ _ _ _ _ _ q => q.elim⟩⟩

theorem addF_eq {fn : Str → Option DSp} {f : Str} {sp : DSp} : addF fn f sp f = some sp := if_pos rfl
theorem addF_ne {fn : Str → Option DSp} {f g : Str} {sp sq : DSp} (h : f ≠ g) (e : fn f = some sq) : addF fn g sp f = some sq := by unfold addF; rw [if_neg h]; exact e
end
end Dl
set_option Elab.async false
set_option linter.all false
set_option maxRecDepth 100000
set_option maxHeartbeats 4000000
namespace K36
open PySem PySem.Spec PyProof.Rows L2 Dl
/-! ### the text -/
def top (i : Nat) : Stmt := PySem.Challenge.pw_flatbonds_k36_what_is_a_laying.main.body.getD i (.Pass ⟨0, 0, 0, 0⟩)
def bns : List Str := ["bool", "enumerate", "int", "isinstance", "len", "list", "max", "min", "range", "repr", "sorted", "str", "tuple"]
def kcs : List (Str × KC) := [("laying_error", (0, ["value", "web"], [1, 0]))]
/-- darts_at -/
def c_darts_at : ISs :=
  (.cons (.asg (.nm 2) (.lst .nil)) <|
  .cons (.for_ (.tp (.cons (.nm 3) (.cons (.tp (.cons (.nm 4) (.cons (.nm 5) .nil))) .nil))) (.enum (.idx (.var 0) (.int 1)))
    (.cons (.ife (.val (.cmp .eq (.var 4) (.var 1)))
      (.cons (.expr (.mt .lappend (.var 2) (.cons (.bin .mul (.int 2) (.var 3)) .nil))) <|
      .nil)
      .nil) <|
    .cons (.ife (.val (.cmp .eq (.var 5) (.var 1)))
      (.cons (.expr (.mt .lappend (.var 2) (.cons (.bin .add (.bin .mul (.int 2) (.var 3)) (.int 1)) .nil))) <|
      .nil)
      .nil) <|
    .nil)) <|
  .cons (.ret (.bi .tuple (.cons (.var 2) .nil))) <|
  .nil)
def n_darts_at : List Str := ["web", "spot", "found", "tie", "low", "high"]
def p_darts_at : List Str := ["web", "spot"]
theorem s_darts_at : FnScope n_darts_at p_darts_at (defScope (top 2)) := ⟨rfl, rfl, rfl, by decide +kernel, rfl, by decide +kernel, by decide +kernel⟩
theorem k_darts_at : chkSs c_darts_at ⟨n_darts_at, defScope (top 2), defScope (top 2), bns, kcs⟩ (defBody (top 2)) = true := by decide +kernel
/-- is_turn -/
def c_is_turn : ISs :=
  (.cons (.ife (.not (.val (.bi .isinst (.cons (.var 2) (.cons (.tyc .tuple) .nil)))))
    (.cons (.ret (.bl false)) <|
    .nil)
    .nil) <|
  .cons (.for_ (.nm 3) (.of (.var 2))
    (.cons (.ife (.or (.not (.val (.bi .isinst (.cons (.var 3) (.cons (.tyc .int) .nil))))) (.val (.bi .isinst (.cons (.var 3) (.cons (.tyc .bool) .nil)))))
      (.cons (.ret (.bl false)) <|
      .nil)
      .nil) <|
    .nil)) <|
  .cons (.asg (.nm 4) (.call "darts_at" (.cons (.var 0) (.cons (.var 1) .nil)))) <|
  .cons (.ret (.and (.cmp .eq (.bi .tuple (.cons (.bi .sorted (.cons (.var 2) .nil)) .nil)) (.bi .tuple (.cons (.var 4) .nil))) (.cmp .eq (.slc (.var 2) .no (.some (.int 1))) (.bi .tuple (.cons (.slc (.var 4) .no (.some (.int 1))) .nil))))) <|
  .nil)
def n_is_turn : List Str := ["web", "spot", "value", "item", "darts"]
def p_is_turn : List Str := ["web", "spot", "value"]
theorem s_is_turn : FnScope n_is_turn p_is_turn (defScope (top 4)) := ⟨rfl, rfl, rfl, by decide +kernel, rfl, by decide +kernel, by decide +kernel⟩
theorem k_is_turn : chkSs c_is_turn ⟨n_is_turn, defScope (top 4), defScope (top 4), bns, kcs⟩ (defBody (top 4)) = true := by decide +kernel
/-- laying_error -/
def c_laying_error : ISs :=
  (.cons (.ife (.or (.not (.val (.bi .isinst (.cons (.var 1) (.cons (.tyc .tuple) .nil))))) (.val (.cmp .ne (.bi .len (.cons (.var 1) .nil)) (.idx (.var 0) (.int 0)))))
    (.cons (.ret (.tup (.cons .non (.cons (.str "laying") .nil)))) <|
    .nil)
    .nil) <|
  .cons (.for_ (.nm 2) (.range1 (.idx (.var 0) (.int 0)))
    (.cons (.ife (.not (.val (.call "is_turn" (.cons (.var 0) (.cons (.var 2) (.cons (.idx (.var 1) (.var 2)) .nil))))))
      (.cons (.ret (.tup (.cons (.var 2) (.cons (.str "turn") .nil)))) <|
      .nil)
      .nil) <|
    .nil)) <|
  .cons (.ret .non) <|
  .nil)
def n_laying_error : List Str := ["web", "value", "spot"]
def p_laying_error : List Str := ["web", "value"]
theorem s_laying_error : FnScope n_laying_error p_laying_error (defScope (top 5)) := ⟨rfl, rfl, rfl, by decide +kernel, rfl, by decide +kernel, by decide +kernel⟩
theorem k_laying_error : chkSs c_laying_error ⟨n_laying_error, defScope (top 5), defScope (top 5), bns, kcs⟩ (defBody (top 5)) = true := by decide +kernel
/-- _law_jar -/
def c_l_jar : ISs :=
  (.cons (.asg (.nm 1) (.lc [("_law_cell", 3)] (.nm 3) (.of (.slc (.var 0) .no (.some (.int 63)))) .no (.ite (.val (.cmp .ge (.var 3) (.int 0))) (.bin .mul (.int 2) (.var 3)) (.bin .sub (.neg (.int 1)) (.bin .mul (.int 2) (.var 3)))))) <|
  .cons (.asg (.nm 2) (.bin .add (.int 271) (.bi .len (.cons (.var 1) .nil)))) <|
  .cons (.for_ (.nm 3) (.of (.var 1))
    (.cons (.asg (.nm 2) (.bin .mod (.bi .int (.cons (.bin .add (.bin .mul (.var 2) (.int 69621)) (.var 3)) .nil)) (.int 2147483647))) <|
    .nil)) <|
  .cons (.ret (.dk (.cons (.str "deep") (.lc [("_law_cell", 3)] (.nm 3) (.of (.var 1)) (.one (.val (.cmp .ge (.var 3) (.bin .pow (.int 10) (.int 18))))) (.var 3)) (.cons (.str "cells") (.bin .add (.var 1) (.lst (.cons (.var 2) .nil))) (.cons (.str "blend") (.var 2) (.cons (.str "turn") (.int 0) .nil)))))) <|
  .nil)
def n_l_jar : List Str := ["_law_script", "_law_cells", "_law_blend", "_law_cell"]
def p_l_jar : List Str := ["_law_script"]
theorem s_l_jar : FnScope n_l_jar p_l_jar (defScope (top 7)) := ⟨rfl, rfl, rfl, by decide +kernel, rfl, by decide +kernel, by decide +kernel⟩
theorem k_l_jar : chkSs c_l_jar ⟨n_l_jar, defScope (top 7), defScope (top 7), bns, kcs⟩ (defBody (top 7)) = true := by decide +kernel
/-- _law_draw -/
def c_l_draw : ISs :=
  (.cons (.ife (.val (.cmp .ne (.idx (.var 0) (.str "deep")) (.lst .nil)))
    (.cons (.asg (.nm 2) (.mt .lpop (.idx (.var 0) (.str "deep")) .nil)) <|
    .cons (.ife (.val (.cmp .ge (.var 2) (.var 1)))
      (.cons (.expr (.mt .lappend (.idx (.var 0) (.str "deep")) (.cons (.bin .fdiv (.var 2) (.var 1)) .nil))) <|
      .nil)
      .nil) <|
    .cons (.ret (.bin .mod (.bi .int (.cons (.var 2) .nil)) (.var 1))) <|
    .nil)
    .nil) <|
  .cons (.asg (.nm 3) (.bin .add (.idx (.var 0) (.str "turn")) (.int 1))) <|
  .cons (.asg (.ix (.var 0) (.str "turn")) (.var 3)) <|
  .cons (.asg (.nm 2) (.bin .mod (.bi .int (.cons (.idx (.idx (.var 0) (.str "cells")) (.bin .mod (.bi .int (.cons (.var 3) .nil)) (.bi .len (.cons (.idx (.var 0) (.str "cells")) .nil)))) .nil)) (.int 4294967291))) <|
  .cons (.asg (.nm 4) (.bin .mod (.bi .int (.cons (.bin .add (.bin .add (.bin .mul (.var 2) (.int 40692)) (.bin .mul (.idx (.var 0) (.str "blend")) (.int 3))) (.bin .mul (.var 3) (.int 2654435761))) .nil)) (.int 4294967291))) <|
  .cons (.asg (.nm 4) (.bin .mod (.bi .int (.cons (.bin .add (.bin .add (.bin .mul (.var 4) (.var 4)) (.bin .mul (.var 3) (.int 48271))) (.var 2)) .nil)) (.int 4294967279))) <|
  .cons (.asg (.nm 4) (.bin .mod (.bi .int (.cons (.bin .add (.bin .add (.bin .mul (.var 4) (.var 4)) (.bin .mul (.var 4) (.int 5))) (.int 11)) .nil)) (.int 4294967231))) <|
  .cons (.ret (.bin .mod (.bi .int (.cons (.bin .fdiv (.var 4) (.int 64)) .nil)) (.var 1))) <|
  .nil)
def n_l_draw : List Str := ["_law_jar_here", "_law_size", "_law_cell", "_law_turn", "_law_mixed"]
def p_l_draw : List Str := ["_law_jar_here", "_law_size"]
theorem s_l_draw : FnScope n_l_draw p_l_draw (defScope (top 8)) := ⟨rfl, rfl, rfl, by decide +kernel, rfl, by decide +kernel, by decide +kernel⟩
theorem k_l_draw : chkSs c_l_draw ⟨n_l_draw, defScope (top 8), defScope (top 8), bns, kcs⟩ (defBody (top 8)) = true := by decide +kernel
/-- _law_one -/
def c_l_one : ISs :=
  (.cons (.ret (.idx (.var 1) (.call "_law_draw" (.cons (.var 0) (.cons (.bi .len (.cons (.var 1) .nil)) .nil))))) <|
  .nil)
def n_l_one : List Str := ["_law_jar_here", "_law_things"]
def p_l_one : List Str := ["_law_jar_here", "_law_things"]
theorem s_l_one : FnScope n_l_one p_l_one (defScope (top 9)) := ⟨rfl, rfl, rfl, by decide +kernel, rfl, by decide +kernel, by decide +kernel⟩
theorem k_l_one : chkSs c_l_one ⟨n_l_one, defScope (top 9), defScope (top 9), bns, kcs⟩ (defBody (top 9)) = true := by decide +kernel
/-- _law_shuffled -/
def c_l_shuffled : ISs :=
  (.cons (.par2 2 3 (.bi .list (.cons (.var 1) .nil)) (.lst .nil)) <|
  .cons (.for_ (.nm 4) (.range1 (.bi .len (.cons (.var 1) .nil)))
    (.cons (.expr (.mt .lappend (.var 3) (.cons (.mt .lpopAt (.var 2) (.cons (.call "_law_draw" (.cons (.var 0) (.cons (.bi .len (.cons (.var 2) .nil)) .nil))) .nil)) .nil))) <|
    .nil)) <|
  .cons (.ret (.var 3)) <|
  .nil)
def n_l_shuffled : List Str := ["_law_jar_here", "_law_things", "_law_rest", "_law_found", "_law_turn"]
def p_l_shuffled : List Str := ["_law_jar_here", "_law_things"]
theorem s_l_shuffled : FnScope n_l_shuffled p_l_shuffled (defScope (top 10)) := ⟨rfl, rfl, rfl, by decide +kernel, rfl, by decide +kernel, by decide +kernel⟩
theorem k_l_shuffled : chkSs c_l_shuffled ⟨n_l_shuffled, defScope (top 10), defScope (top 10), bns, kcs⟩ (defBody (top 10)) = true := by decide +kernel
/-- _law_net -/
def c_l_net : ISs :=
  (.cons (.asg (.nm 3) (.lst .nil)) <|
  .cons (.for_ (.nm 4) (.range1 (.var 2))
    (.cons (.par2 5 6 (.call "_law_draw" (.cons (.var 0) (.cons (.var 1) .nil))) (.call "_law_draw" (.cons (.var 0) (.cons (.var 1) .nil)))) <|
    .cons (.ife (.and (.val (.cmp .eq (.var 5) (.var 6))) (.val (.cmp .gt (.call "_law_draw" (.cons (.var 0) (.cons (.int 4) .nil))) (.int 0))))
      (.cons (.asg (.nm 6) (.bin .mod (.bi .int (.cons (.bin .add (.var 5) (.int 1)) .nil)) (.var 1))) <|
      .nil)
      .nil) <|
    .cons (.expr (.mt .lappend (.var 3) (.cons (.tup (.cons (.bi .min (.cons (.var 5) (.cons (.var 6) .nil))) (.cons (.bi .max (.cons (.var 5) (.cons (.var 6) .nil))) .nil))) .nil))) <|
    .nil)) <|
  .cons (.ret (.tup (.cons (.var 1) (.cons (.bi .tuple (.cons (.var 3) .nil)) .nil)))) <|
  .nil)
def n_l_net : List Str := ["_law_jar_here", "_law_size", "_law_many", "_law_found", "_law_turn", "_law_one_here", "_law_two"]
def p_l_net : List Str := ["_law_jar_here", "_law_size", "_law_many"]
theorem s_l_net : FnScope n_l_net p_l_net (defScope (top 11)) := ⟨rfl, rfl, rfl, by decide +kernel, rfl, by decide +kernel, by decide +kernel⟩
theorem k_l_net : chkSs c_l_net ⟨n_l_net, defScope (top 11), defScope (top 11), bns, kcs⟩ (defBody (top 11)) = true := by decide +kernel
/-- _law_darts -/
def c_l_darts : ISs :=
  (.cons (.asg (.nm 1) (.lc [("_law_at", 2)] (.nm 2) (.range1 (.idx (.var 0) (.int 0))) .no (.lst .nil))) <|
  .cons (.for_ (.tp (.cons (.nm 2) (.cons (.nm 3) .nil))) (.enum (.idx (.var 0) (.int 1)))
    (.cons (.expr (.mt .lappend (.idx (.var 1) (.idx (.var 3) (.int 0))) (.cons (.bin .mul (.int 2) (.var 2)) .nil))) <|
    .cons (.expr (.mt .lappend (.idx (.var 1) (.idx (.var 3) (.int 1))) (.cons (.bin .add (.bin .mul (.int 2) (.var 2)) (.int 1)) .nil))) <|
    .nil)) <|
  .cons (.ret (.var 1)) <|
  .nil)
def n_l_darts : List Str := ["_law_net_here", "_law_found", "_law_at", "_law_ends"]
def p_l_darts : List Str := ["_law_net_here"]
theorem s_l_darts : FnScope n_l_darts p_l_darts (defScope (top 12)) := ⟨rfl, rfl, rfl, by decide +kernel, rfl, by decide +kernel, by decide +kernel⟩
theorem k_l_darts : chkSs c_l_darts ⟨n_l_darts, defScope (top 12), defScope (top 12), bns, kcs⟩ (defBody (top 12)) = true := by decide +kernel
/-- _law_laid -/
def c_l_laid : ISs :=
  (.cons (.ret (.bi .tuple (.cons (.lc [("_law_darts_here", 2)] (.nm 2) (.of (.call "_law_darts" (.cons (.var 1) .nil))) .no (.bi .tuple (.cons (.bin .add (.slc (.var 2) .no (.some (.int 1))) (.call "_law_shuffled" (.cons (.var 0) (.cons (.slc (.var 2) (.some (.int 1)) .no) .nil)))) .nil))) .nil))) <|
  .nil)
def n_l_laid : List Str := ["_law_jar_here", "_law_net_here", "_law_darts_here"]
def p_l_laid : List Str := ["_law_jar_here", "_law_net_here"]
theorem s_l_laid : FnScope n_l_laid p_l_laid (defScope (top 13)) := ⟨rfl, rfl, rfl, by decide +kernel, rfl, by decide +kernel, by decide +kernel⟩
theorem k_l_laid : chkSs c_l_laid ⟨n_l_laid, defScope (top 13), defScope (top 13), bns, kcs⟩ (defBody (top 13)) = true := by decide +kernel
/-- _law_is_int -/
def c_l_is_int : ISs :=
  (.cons (.ret (.and (.bi .isinst (.cons (.var 0) (.cons (.tyc .int) .nil))) (.not (.bi .isinst (.cons (.var 0) (.cons (.tyc .bool) .nil)))))) <|
  .nil)
def n_l_is_int : List Str := ["_law_thing"]
def p_l_is_int : List Str := ["_law_thing"]
theorem s_l_is_int : FnScope n_l_is_int p_l_is_int (defScope (top 14)) := ⟨rfl, rfl, rfl, by decide +kernel, rfl, by decide +kernel, by decide +kernel⟩
theorem k_l_is_int : chkSs c_l_is_int ⟨n_l_is_int, defScope (top 14), defScope (top 14), bns, kcs⟩ (defBody (top 14)) = true := by decide +kernel
/-- _law_due -/
def c_l_due : ISs :=
  (.cons (.ife (.or (.not (.val (.bi .isinst (.cons (.var 1) (.cons (.tyc .tuple) .nil))))) (.val (.cmp .ne (.bi .len (.cons (.var 1) .nil)) (.idx (.var 0) (.int 0)))))
    (.cons (.ret (.tup (.cons .non (.cons (.str "laying") .nil)))) <|
    .nil)
    .nil) <|
  .cons (.for_ (.tp (.cons (.nm 2) (.cons (.nm 3) .nil))) (.enum (.call "_law_darts" (.cons (.var 0) .nil)))
    (.cons (.asg (.nm 4) (.idx (.var 1) (.var 2))) <|
    .cons (.ife (.or (.not (.val (.bi .isinst (.cons (.var 4) (.cons (.tyc .tuple) .nil))))) (.val (.cmp .ne (.lc [("_law_dart", 5)] (.nm 5) (.of (.var 4)) (.one (.not (.val (.call "_law_is_int" (.cons (.var 5) .nil))))) (.int 1)) (.lst .nil))))
      (.cons (.ret (.tup (.cons (.var 2) (.cons (.str "turn") .nil)))) <|
      .nil)
      .nil) <|
    .cons (.ife (.or (.val (.cmp .ne (.bi .sorted (.cons (.var 4) .nil)) (.var 3))) (.val (.cmp .ne (.bi .list (.cons (.slc (.var 4) .no (.some (.int 1))) .nil)) (.slc (.var 3) .no (.some (.int 1))))))
      (.cons (.ret (.tup (.cons (.var 2) (.cons (.str "turn") .nil)))) <|
      .nil)
      .nil) <|
    .nil)) <|
  .cons (.ret .non) <|
  .nil)
def n_l_due : List Str := ["_law_net_here", "_law_thing", "_law_at", "_law_due_here", "_law_turn", "_law_dart"]
def p_l_due : List Str := ["_law_net_here", "_law_thing"]
theorem s_l_due : FnScope n_l_due p_l_due (defScope (top 15)) := ⟨rfl, rfl, rfl, by decide +kernel, rfl, by decide +kernel, by decide +kernel⟩
theorem k_l_due : chkSs c_l_due ⟨n_l_due, defScope (top 15), defScope (top 15), bns, kcs⟩ (defBody (top 15)) = true := by decide +kernel
/-- _law_odd_turns -/
def c_l_odd_turns : ISs :=
  (.cons (.asg (.nm 3) (.call "_law_draw" (.cons (.var 0) (.cons (.bin .add (.bi .len (.cons (.var 1) .nil)) (.int 1)) .nil)))) <|
  .cons (.asg (.nm 4) (.call "_law_one" (.cons (.var 0) (.cons (.lst (.cons (.neg (.int 1)) (.cons (.var 2) (.cons (.bin .add (.var 2) (.int 1)) (.cons .non (.cons (.str "0") (.cons (.tup .nil) (.cons (.lst (.cons (.int 0) .nil)) (.cons (.bin .pow (.int 10) (.int 60)) (.cons (.bin .sub (.int 0) (.bin .pow (.int 10) (.int 60))) (.cons (.call "_law_draw" (.cons (.var 0) (.cons (.bin .add (.var 2) (.int 2)) .nil))) .nil))))))))))) .nil)))) <|
  .cons (.asg (.nm 5) (.lst (.cons (.bi .list (.cons (.var 1) .nil)) (.cons (.bin .add (.slc (.var 1) (.some (.int 1)) .no) (.slc (.var 1) .no (.some (.int 1)))) (.cons (.bin .add (.var 1) (.slc (.var 1) .no (.some (.int 1)))) (.cons (.slc (.var 1) .no (.some (.neg (.int 1)))) (.cons (.rv 0 (.var 1)) (.cons (.bin .add (.bin .add (.slc (.var 1) .no (.some (.var 3))) (.tup (.cons (.var 4) .nil))) (.slc (.var 1) (.some (.bin .add (.var 3) (.int 1))) .no)) .nil)))))))) <|
  .cons (.asg (.nm 5) (.bin .add (.var 5) (.lst (.cons (.bi .tuple (.cons (.lc [("_law_dart", 6)] (.nm 6) (.of (.var 1)) .no (.ite (.val (.cmp .isin (.var 6) (.tup (.cons (.int 0) (.cons (.int 1) .nil))))) (.cmp .eq (.var 6) (.int 1)) (.var 6))) .nil)) (.cons (.bin .add (.var 1) (.tup (.cons (.var 4) .nil))) (.cons (.tup (.cons (.var 1) .nil)) .nil)))))) <|
  .cons (.asg (.nm 5) (.bin .add (.var 5) (.lst (.cons (.bin .add (.bin .add (.slc (.var 1) .no (.some (.int 1))) (.slc (.var 1) (.some (.var 3)) .no)) (.slc (.var 1) (.some (.int 1)) (.some (.var 3)))) (.cons (.bi .tuple (.cons (.bi .sorted (.cons (.var 1) .nil)) .nil)) (.cons (.bi .tuple (.cons (.lc [("_law_dart", 6)] (.nm 6) (.of (.var 1)) .no (.bin .bxor (.var 6) (.int 1))) .nil)) (.cons .dk0 .nil))))))) <|
  .cons (.ret (.bin .add (.var 5) (.lst (.cons .non (.cons (.int 0) (.cons (.bl false) (.cons (.bin .add (.slc (.var 1) .no (.some (.var 3))) (.slc (.var 1) (.some (.bin .add (.var 3) (.int 1))) .no)) (.cons (.bin .add (.tup (.cons (.var 4) .nil)) (.var 1)) (.cons (.bin .add (.slc (.var 1) .no (.some (.int 1))) (.rv 1 (.var 1))) (.cons (.lst .nil) (.cons (.bi .str (.cons (.var 1) .nil)) .nil))))))))))) <|
  .nil)
def n_l_odd_turns : List Str := ["_law_jar_here", "_law_turn", "_law_many", "_law_k", "_law_new", "_law_found", "_law_dart"]
def p_l_odd_turns : List Str := ["_law_jar_here", "_law_turn", "_law_many"]
theorem s_l_odd_turns : FnScope n_l_odd_turns p_l_odd_turns (defScope (top 16)) := ⟨rfl, rfl, rfl, by decide +kernel, rfl, by decide +kernel, by decide +kernel⟩
theorem k_l_odd_turns : chkSs c_l_odd_turns ⟨n_l_odd_turns, defScope (top 16), defScope (top 16), bns, kcs⟩ (defBody (top 16)) = true := by decide +kernel
/-- _law_like -/
def c_l_like : ISs :=
  (.cons (.asg (.nm 4) (.call "_law_draw" (.cons (.var 0) (.cons (.bin .add (.bi .len (.cons (.var 2) .nil)) (.int 1)) .nil)))) <|
  .cons (.ife (.val (.cmp .eq (.call "_law_draw" (.cons (.var 0) (.cons (.int 5) .nil))) (.int 0)))
    (.cons (.asg (.nm 5) (.lst (.cons (.bi .list (.cons (.var 2) .nil)) (.cons (.bin .add (.var 2) (.tup (.cons (.tup .nil) .nil))) (.cons (.slc (.var 2) .no (.some (.neg (.int 1)))) (.cons (.bin .add (.slc (.var 2) .no (.some (.var 4))) (.slc (.var 2) (.some (.bin .add (.var 4) (.int 1))) .no)) (.cons (.rv 0 (.var 2)) (.cons (.tup (.cons (.var 2) .nil)) (.cons (.bl true) (.cons (.str "laying") .nil)))))))))) <|
    .cons (.asg (.nm 5) (.bin .add (.var 5) (.lst (.cons (.bin .add (.slc (.var 2) (.some (.int 1)) .no) (.slc (.var 2) .no (.some (.int 1)))) (.cons .non (.cons .dk0 (.cons (.tup .nil) (.cons (.lst .nil) (.cons (.dk (.cons (.int 0) (.var 2) .nil)) (.cons (.var 3) (.cons (.bin .add (.bin .add (.slc (.var 2) .no (.some (.var 4))) (.tup (.cons (.tup .nil) .nil))) (.slc (.var 2) (.some (.var 4)) .no)) (.cons (.bin .add (.var 2) (.var 2)) .nil)))))))))))) <|
    .cons (.ret (.call "_law_one" (.cons (.var 0) (.cons (.var 5) .nil)))) <|
    .nil)
    .nil) <|
  .cons (.asg (.nm 6) (.var 2)) <|
  .cons (.for_ (.nm 7) (.range1 (.call "_law_one" (.cons (.var 0) (.cons (.lst (.cons (.int 1) (.cons (.int 1) (.cons (.int 2) .nil)))) .nil))))
    (.cons (.asg (.nm 4) (.call "_law_draw" (.cons (.var 0) (.cons (.bi .len (.cons (.var 2) .nil)) .nil)))) <|
    .cons (.asg (.nm 5) (.call "_law_odd_turns" (.cons (.var 0) (.cons (.idx (.var 2) (.var 4)) (.cons (.bin .mul (.int 2) (.bi .len (.cons (.idx (.var 1) (.int 1)) .nil))) .nil))))) <|
    .cons (.asg (.nm 6) (.bin .add (.bin .add (.slc (.var 6) .no (.some (.var 4))) (.tup (.cons (.call "_law_one" (.cons (.var 0) (.cons (.var 5) .nil))) .nil))) (.slc (.var 6) (.some (.bin .add (.var 4) (.int 1))) .no))) <|
    .nil)) <|
  .cons (.ret (.var 6)) <|
  .nil)
def n_l_like : List Str := ["_law_jar_here", "_law_net_here", "_law_laid_here", "_law_mate", "_law_at", "_law_odd", "_law_found", "_law_turn"]
def p_l_like : List Str := ["_law_jar_here", "_law_net_here", "_law_laid_here", "_law_mate"]
theorem s_l_like : FnScope n_l_like p_l_like (defScope (top 17)) := ⟨rfl, rfl, rfl, by decide +kernel, rfl, by decide +kernel, by decide +kernel⟩
theorem k_l_like : chkSs c_l_like ⟨n_l_like, defScope (top 17), defScope (top 17), bns, kcs⟩ (defBody (top 17)) = true := by decide +kernel
/-- law -/
def c_law : ISs :=
  (.cons (.asg (.nm 1) (.call "_law_jar" (.cons (.var 0) .nil))) <|
  .cons (.asg (.tp (.cons (.nm 2) (.cons (.nm 3) .nil))) (.tup (.cons (.lst .nil) (.cons (.tup (.cons (.tup .nil) .nil)) .nil)))) <|
  .cons (.for_ (.nm 4) (.range1 (.int 6))
    (.cons (.asg (.nm 5) (.call "_law_net" (.cons (.var 1) (.cons (.bin .add (.int 1) (.call "_law_draw" (.cons (.var 1) (.cons (.int 6) .nil)))) (.cons (.call "_law_draw" (.cons (.var 1) (.cons (.int 10) .nil))) .nil))))) <|
    .cons (.ife (.val (.cmp .eq (.var 4) (.int 5)))
      (.cons (.asg (.nm 5) (.call "_law_net" (.cons (.var 1) (.cons (.call "_law_one" (.cons (.var 1) (.cons (.lst (.cons (.int 1) (.cons (.int 2) (.cons (.int 60) .nil)))) .nil))) (.cons (.call "_law_one" (.cons (.var 1) (.cons (.lst (.cons (.int 0) (.cons (.int 60) .nil))) .nil))) .nil))))) <|
      .nil)
      .nil) <|
    .cons (.asg (.nm 6) (.call "_law_laid" (.cons (.var 1) (.cons (.var 5) .nil)))) <|
    .cons (.for_ (.nm 7) (.of (.bin .add (.lst (.cons (.var 6) (.cons (.var 3) .nil))) (.lc [("_law_step", 11)] (.nm 11) (.range1 (.int 6)) .no (.call "_law_like" (.cons (.var 1) (.cons (.var 5) (.cons (.var 6) (.cons (.var 3) .nil))))))))
      (.cons (.expr (.mt .lappend (.var 2) (.cons (.lst (.cons (.var 5) (.cons (.var 7) (.cons (.bi .repr (.cons (.var 7) .nil)) (.cons (.bi .repr (.cons (.call "_law_due" (.cons (.var 5) (.cons (.var 7) .nil))) .nil)) .nil))))) .nil))) <|
      .nil)) <|
    .cons (.asg (.nm 3) (.var 6)) <|
    .nil)) <|
  .cons (.for_ (.un (.cons (.nm 5) (.cons (.nm 7) (.cons (.nm 8) (.cons (.nm 9) .nil))))) (.of (.bin .add (.var 2) (.rv 0 (.var 2))))
    (.cons (.ife (.val (.cmp .ne (.bi .repr (.cons (.lst (.cons (.call "laying_error" (.cons (.var 5) (.cons (.var 7) .nil))) (.cons (.callk "laying_error" .nil ["value", "web"] (.cons (.var 7) (.cons (.var 5) .nil)) [1, 0]) .nil))) .nil)) (.bin .add (.bin .add (.bin .add (.bin .add (.str "[") (.var 9)) (.str ", ")) (.var 9)) (.str "]"))))
      (.cons (.ret (.bl false)) <|
      .nil)
      .nil) <|
    .cons (.ife (.val (.cmp .ne (.bi .repr (.cons (.var 7) .nil)) (.var 8)))
      (.cons (.ret (.bl false)) <|
      .nil)
      .nil) <|
    .nil)) <|
  .cons (.asg (.tp (.cons (.nm 5) (.cons (.nm 6) .nil))) (.tup (.cons (.tup (.cons (.int 3) (.cons (.tup (.cons (.tup (.cons (.int 0) (.cons (.int 1) .nil))) (.cons (.tup (.cons (.int 1) (.cons (.int 1) .nil))) .nil))) .nil))) (.cons (.tup (.cons (.tup (.cons (.int 0) .nil)) (.cons (.tup (.cons (.int 1) (.cons (.int 3) (.cons (.int 2) .nil)))) (.cons (.tup .nil) .nil)))) .nil)))) <|
  .cons (.asg (.nm 10) (.lst (.cons (.call "laying_error" (.cons (.var 5) (.cons (.var 6) .nil))) (.cons (.call "laying_error" (.cons (.var 5) (.cons (.tup (.cons (.tup (.cons (.int 0) .nil)) (.cons (.tup (.cons (.int 2) (.cons (.int 3) (.cons (.int 1) .nil)))) (.cons (.tup .nil) .nil)))) .nil))) (.cons (.call "laying_error" (.cons (.var 5) (.cons (.slc (.var 6) .no (.some (.int 2))) .nil))) .nil))))) <|
  .cons (.ret (.cmp .eq (.bi .repr (.cons (.lst (.cons (.var 10) (.cons (.glo "MAX_FAR") .nil))) .nil)) (.bi .repr (.cons (.lst (.cons (.lst (.cons .non (.cons (.tup (.cons (.int 1) (.cons (.str "turn") .nil))) (.cons (.tup (.cons .non (.cons (.str "laying") .nil))) .nil)))) (.cons (.int 60) .nil))) .nil)))) <|
  .nil)
def n_law : List Str := ["_law_script", "_law_jar_here", "_law_known", "_law_mate", "_law_turn", "_law_net_here", "_law_laid_here", "_law_thing", "_law_was", "_law_due_here", "_law_found", "_law_step"]
def p_law : List Str := ["_law_script"]
theorem s_law : FnScope n_law p_law (defScope (top 18)) := ⟨rfl, rfl, rfl, by decide +kernel, rfl, by decide +kernel, by decide +kernel⟩
theorem k_law : chkSs c_law ⟨n_law, defScope (top 18), defScope (top 18), bns, kcs⟩ (defBody (top 18)) = true := by decide +kernel
-- order: darts_at is_turn laying_error _law_jar _law_draw _law_one _law_shuffled _law_net _law_darts _law_laid _law_is_int _law_due _law_odd_turns _law_like law
-- globals: MAX_FAR
end K36
set_option Elab.async false
set_option linter.all false
set_option maxRecDepth 100000
set_option maxHeartbeats 4000000
namespace K36
open PySem PySem.Spec PyProof.Rows L2 Dl
abbrev kD : Key := .inr "deep"
abbrev kC : Key := .inr "cells"
abbrev kB : Key := .inr "blend"
abbrev kT : Key := .inr "turn"
theorem ne_keys : kD ≠ kC ∧ kD ≠ kB ∧ kD ≠ kT ∧ kC ≠ kB ∧ kC ≠ kT ∧ kB ≠ kT := by decide +kernel
abbrev jarK (x y z w : DV) : List (Key × DV) := [(kD, x), (kC, y), (kB, z), (kT, w)]
theorem jar_vals (x y z w : DV) : valD (jarK x y z w) kD = some x ∧ valD (jarK x y z w) kC = some y ∧ valD (jarK x y z w) kB = some z ∧ valD (jarK x y z w) kT = some w := by
  obtain ⟨h1, h2, h3, h4, h5, h6⟩ := ne_keys
  unfold valD jarK
  simp only [List.find?, h1, h2, h3, h4, h5, h6, decide_true, decide_false, Option.map_some, and_self]
theorem jar_put (x y z w v : DV) : putD (jarK x y z w) kT v = jarK x y z v := by
  obtain ⟨h1, h2, h3, h4, h5, h6⟩ := ne_keys
  unfold putD jarK
  simp only [List.any_cons, List.any_nil, List.map_cons, List.map_nil, h3, h5, h6, decide_true, decide_false, Bool.or_true, Bool.or_false, Bool.false_or, Bool.true_or, if_true, if_false]

/-- the jar at p, its deep list at a, its cells at b -/
def Jar (p a b : Nat) (D : DHp) : Prop := ∃ (dp cl : List Int) (bl tn : Int), p ≠ a ∧ p ≠ b ∧ a ≠ b ∧ D[p]? = some (.dk (jarK (.ref a) (.ref b) (.int bl) (.int tn))) ∧ D[a]? = some (.lst (dp.map .int)) ∧ D[b]? = some (.lst (cl.map .int)) ∧ 0 < cl.length ∧ dp.length ≤ 64 ∧ cl.length ≤ 64
/-- nothing else changes -/
def Frm (p a : Nat) (D D' : DHp) : Prop := D'.length = D.length ∧ ∀ i, i ≠ p → i ≠ a → D'[i]? = D[i]?
def sp_draw : DSp := fun ds D R _ => ∃ p a b n, ds = [.ref p, .int n] ∧ Jar p a b D ∧ 0 < n ∧ n < 1073741824 ∧ ∀ v D', 0 ≤ v → v < n → Frm p a D D' → Jar p a b D' → R (.int v) D'
variable {fn : Str → Option DSp} {gl : Str → Option DV}
theorem l_draw : ∀ ds D R Ex, sp_draw ds D R Ex → semSs ⟨fn, gl, fun c p _ D => Ex c p D⟩ c_l_draw { nx := fun _ D' => FgtV D R .non D', rt := FgtV D R } (startD n_l_draw ds) D := by
  rintro ds D R Ex ⟨p, a, b, n, rfl, ⟨dp, cl, bl, tn, ne1, ne2, ne3, hp, ha, hb, c0, d1, c1⟩, n0, n1, k⟩
  simp only [c_l_draw, n_l_draw, startD, List.map_cons, List.map_nil, List.length_cons, List.length_nil, List.cons_append, List.nil_append, Nat.reduceAdd, Nat.reduceSub, List.replicate, semSs, semS, semE, semEs, semB, semT, semTs, semO, semC, semI, semKv, List.getElem?_cons_zero, List.getElem?_cons_succ, Option.some.injEq, exists_eq_left', List.set_cons_zero, List.set_cons_succ, co_ne, co_eq, co_in, co_nin]
  obtain ⟨j1, j2, j3, j4⟩ := jar_vals (.ref a) (.ref b) (.int bl) (.int tn)
  refine ix_dk (q := kD) hp rfl j1 ⟨Nat.zero_le _, ?_⟩
  refine eq_lists (neg := true) (xs := dp) (ys := []) (get_app ha) (show (D ++ [DO.lst []])[D.length]? = some (DO.lst (([] : List Int).map .int)) from get_new) ?_
  refine ⟨_, rfl, ?_⟩
  have la := get_lt ha
  have lp := get_lt hp
  have lb := get_lt hb
  have hp' : (D ++ [DO.lst []])[p]? = _ := get_app hp
  have ha' : (D ++ [DO.lst []])[a]? = _ := get_app ha
  by_cases hd : dp = []
  · subst hd
    simp only [decide_true, Bool.not_true, if_true, Bool.false_eq_true, if_false]
    refine ix_dk (q := kT) hp' rfl j4 ?_
    refine ⟨p, rfl, .inr ⟨_, put_dk (q := kT) hp' rfl (by show 4 < sizeLine; decide), ?_⟩⟩
    rw [jar_put, set_app lp]
    obtain ⟨i1, i2, i3, i4⟩ := jar_vals (.ref a) (.ref b) (.int bl) (.int (tn + 1))
    have gp : (D.set p (DO.dk (jarK (.ref a) (.ref b) (.int bl) (.int (tn + 1)))))[p]? = _ := get_set hp
    have gb : (D.set p (DO.dk (jarK (.ref a) (.ref b) (.int bl) (.int (tn + 1)))))[b]? = _ := (get_setN ne2).trans hb
    have ga : (D.set p (DO.dk (jarK (.ref a) (.ref b) (.int bl) (.int (tn + 1)))))[a]? = _ := (get_setN ne1).trans ha
    refine ix_dk (q := kC) (get_app gp) rfl i2 (b_int (ix_dk (q := kC) (get_app gp) rfl i2 (b_lenL (get_app gb) (i_modG (by rw [List.length_map]; omega) fun m m0 m1 => ?_))))
    rw [List.length_map] at m1
    have hm : (cl.map DV.int)[m.toNat]? = some (.int (cl[m.toNat]'(by omega))) := by rw [List.getElem?_map, List.getElem?_eq_getElem (by omega)]; rfl
    refine ix_ls (get_app gb) (atI_nat m0 hm) (b_int (i_modG (by decide) fun x x0 x1 => i_mulR (by decide) (ix_dk (q := kB) (get_app gp) rfl i3 (i_mulR (by decide) (i_add (i_mulR (by decide) (i_add (b_int (i_modG (by decide) fun y y0 y1 => ?_)))))))))
    refine i_mulL (by omega) (i_mulR (by decide) (i_add (i_add (b_int (i_modG (by decide) fun z z0 z1 => ?_)))))
    refine i_mulL (by omega) (i_mulR (by decide) (i_add (i_add (b_int (i_modG (by decide) fun u u0 u1 => ?_)))))
    refine i_fdiv (by decide) (by decide) (b_int (i_modG n0 fun v v0 v1 => ?_))
    refine cut_new (by rw [List.length_set]) (by simp only [wfV]) (set_wf (by simp [wfO, wfV, la, lb])) (k v _ v0 v1 ⟨by rw [List.length_set], fun i h1 h2 => get_setN (Ne.symm h1)⟩ ⟨[], cl, bl, tn + 1, ne1, ne2, ne3, gp, ga, gb, c0, d1, c1⟩)
  · simp only [hd, decide_false, Bool.not_false, if_true]
    refine ix_dk (q := kD) hp' rfl j1 ?_
    refine ⟨⟨a, _, rfl, ha'⟩, _, _, ha', last_map hd, ?_⟩
    rw [← List.map_dropLast, set_app la]
    have fin : ∀ dp' : List Int, dp'.length ≤ 64 → ∀ v, 0 ≤ v → v < n → FgtV D R (.int v) (D.set a (.lst (dp'.map .int)) ++ [DO.lst []]) := fun dp' hl v v0 v1 =>
      cut_new (by rw [List.length_set]) (by simp only [wfV]) (set_wf (show wfO _ (.lst (dp'.map .int)) = true from wf_ints _ _)) (k v _ v0 v1 ⟨by rw [List.length_set], fun i h1 h2 => get_setN (Ne.symm h2)⟩ ⟨dp', cl, bl, tn, ne1, ne2, ne3, (get_setN (Ne.symm ne1)).trans hp, get_set ha, (get_setN ne3).trans hb, c0, hl, c1⟩)
    have hl : dp.dropLast.length ≤ 63 := by rw [List.length_dropLast]; omega
    refine i_ge ⟨_, rfl, ?_⟩
    by_cases hn : n ≤ dp.getLast hd
    · simp only [hn, decide_true, if_true]
      refine ix_dk (q := kD) (get_app ((get_setN (Ne.symm ne1)).trans hp)) rfl j1 ?_
      refine ⟨⟨a, _, rfl, get_app (get_set ha)⟩, i_fdiv (by omega) (by omega) ⟨_, get_app (get_set ha), by rw [List.length_map]; have : sizeLine = 16777216 := rfl; omega, ?_⟩⟩
      rw [set_app (by rw [List.length_set]; exact la), List.set_set]
      refine b_int (i_modG n0 fun v v0 v1 => ?_)
      have z := fin (dp.dropLast ++ [(dp.getLast hd).fdiv n]) (by rw [List.length_append]; simp only [List.length_singleton]; omega) v v0 v1
      rw [List.map_append] at z
      exact z
    · simp only [hn, decide_false, Bool.false_eq_true, if_false]
      exact b_int (i_modG n0 fun v v0 v1 => fin _ (by omega) v v0 v1)

theorem Jar.lt {p a b : Nat} {D : DHp} (J : Jar p a b D) : p < D.length ∧ a < D.length ∧ b < D.length :=
  let ⟨_, _, _, _, _, _, _, h1, h2, h3, _⟩ := J
  ⟨get_lt h1, get_lt h2, get_lt h3⟩
theorem Jar.app {p a b : Nat} {D E : DHp} (J : Jar p a b D) : Jar p a b (D ++ E) :=
  let ⟨dp, cl, bl, tn, n1, n2, n3, h1, h2, h3, r⟩ := J
  ⟨dp, cl, bl, tn, n1, n2, n3, get_app h1, get_app h2, get_app h3, r⟩
theorem Frm.refl {p a : Nat} {D : DHp} : Frm p a D D := ⟨rfl, fun _ _ _ => rfl⟩
theorem Frm.trans {p a : Nat} {D D1 D2 : DHp} (f : Frm p a D D1) (g : Frm p a D1 D2) : Frm p a D D2 := ⟨g.1.trans f.1, fun i h1 h2 => (g.2 i h1 h2).trans (f.2 i h1 h2)⟩
/-- what is added stays apart -/
theorem Frm.split {p a b : Nat} {D E D' : DHp} (hp : p < D.length) (ha : a < D.length) (hb : b < D.length) (f : Frm p a (D ++ E) D') (J : Jar p a b D') : ∃ D1, D' = D1 ++ E ∧ Frm p a D D1 ∧ Jar p a b D1 := by
  have hl : D'.length = D.length + E.length := by rw [f.1, List.length_append]
  have low : ∀ i, i < D.length → (D'.take D.length)[i]? = D'[i]? := fun i hi => List.getElem?_take_of_lt hi
  refine ⟨D'.take D.length, ?_, ⟨by rw [List.length_take]; omega, fun i h1 h2 => ?_⟩, ?_⟩
  · apply List.ext_getElem?
    intro i
    by_cases hi : i < D.length
    · rw [List.getElem?_append_left (by rw [List.length_take]; omega), low i hi]
    · rw [List.getElem?_append_right (by rw [List.length_take]; omega), f.2 i (by omega) (by omega), List.getElem?_append_right (by omega), List.length_take, Nat.min_eq_left (by omega)]
  · by_cases hi : i < D.length
    · rw [low i hi, f.2 i h1 h2, List.getElem?_append_left hi]
    · rw [List.getElem?_eq_none (by rw [List.length_take]; omega), List.getElem?_eq_none (by omega)]
  · obtain ⟨dp, cl, bl, tn, n1, n2, n3, h1, h2, h3, r⟩ := J
    exact ⟨dp, cl, bl, tn, n1, n2, n3, (low p hp).trans h1, (low a ha).trans h2, (low b hb).trans h3, r⟩
def sp_one : DSp := fun ds D R _ => ∃ p a b q xs, ds = [.ref p, .ref q] ∧ Jar p a b D ∧ D[q]? = some (.lst xs) ∧ q ≠ a ∧ 0 < xs.length ∧ xs.length < 1073741824 ∧ ∀ v D', v ∈ xs → Frm p a D D' → Jar p a b D' → R v D'
theorem Jar.ne {p a b q : Nat} {D : DHp} {xs : List DV} (J : Jar p a b D) (h : D[q]? = some (.lst xs)) : q ≠ p := fun z => by
  obtain ⟨_, _, _, _, _, _, _, h1, _⟩ := J
  subst z
  rw [h] at h1; cases h1
theorem l_one (hd : fn "_law_draw" = some sp_draw) : ∀ ds D R Ex, sp_one ds D R Ex → semSs ⟨fn, gl, fun c p _ D => Ex c p D⟩ c_l_one { nx := fun _ D' => FgtV D R .non D', rt := FgtV D R } (startD n_l_one ds) D := by
  rintro ds D R Ex ⟨p, a, b, q, xs, rfl, J, hq, ne, l0, l1, k⟩
  simp only [c_l_one, n_l_one, startD, List.map_cons, List.map_nil, List.length_cons, List.length_nil, List.cons_append, List.nil_append, Nat.reduceAdd, Nat.reduceSub, List.replicate, semSs, semS, semE, semEs, semB, semT, semTs, semO, semC, semI, semKv, List.getElem?_cons_zero, List.getElem?_cons_succ, Option.some.injEq, exists_eq_left', List.set_cons_zero, List.set_cons_succ, co_ne, co_eq, co_in, co_nin]
  refine ⟨_, hd, b_lenL hq ⟨p, a, b, _, rfl, J, by omega, by omega, fun v D' v0 v1 fr J' => ?_⟩⟩
  have hv : v.toNat < xs.length := by omega
  exact ix_ls ((fr.2 q (J.ne hq) ne).trans hq) (atI_nat v0 (List.getElem?_eq_getElem hv)) (.inl (k _ D' (List.getElem_mem hv) fr J'))
def sp_shuffled : DSp := fun ds D R _ => ∃ p a b q xs, ds = [.ref p, .ref q] ∧ Jar p a b D ∧ D[q]? = some (.lst xs) ∧ q ≠ a ∧ xs.length < 10000000 ∧ ∀ ys D1, ys.Perm xs → Frm p a D D1 → Jar p a b D1 → R (.ref (D.length + 1)) (D1 ++ [.lst [], .lst ys])
theorem rng_at {n i : Nat} {D : DHp} (h : i < n) : itRange 0 n i D = some (some (.int i)) := by
  unfold itRange
  rw [if_pos h, Int.zero_add]
theorem rng_end {n : Nat} {D : DHp} : itRange 0 n n D = some none := by
  unfold itRange
  rw [if_neg (by omega)]
theorem get_two {D : DHp} {o u : DO} : (D ++ [o, u])[D.length]? = some o ∧ (D ++ [o, u])[D.length + 1]? = some u := by
  constructor
  · rw [List.getElem?_append_right (Nat.le_refl _), Nat.sub_self]; rfl
  · rw [List.getElem?_append_right (by omega), Nat.add_sub_cancel_left]; rfl
theorem perm_erase {α : Type} : ∀ (xs : List α) {i : Nat} (h : i < xs.length), (xs[i] :: xs.eraseIdx i).Perm xs
  | [], _, h => absurd h (Nat.not_lt_zero _)
  | x :: xs, 0, h => List.Perm.refl _
  | x :: xs, i + 1, h => by
    have h' : i < xs.length := by simpa using h
    rw [List.getElem_cons_succ, List.eraseIdx_cons_succ]
    exact (List.Perm.swap _ _ _).trans ((perm_erase xs h').cons x)
theorem l_shuffled (hd : fn "_law_draw" = some sp_draw) : ∀ ds D R Ex, sp_shuffled ds D R Ex → semSs ⟨fn, gl, fun c p _ D => Ex c p D⟩ c_l_shuffled { nx := fun _ D' => FgtV D R .non D', rt := FgtV D R } (startD n_l_shuffled ds) D := by
  rintro ds D R Ex ⟨p, a, b, q, xs, rfl, J, hq, ne, l1, k⟩
  have sl : sizeLine = 16777216 := rfl
  obtain ⟨lp, la, lb⟩ := J.lt
  simp only [c_l_shuffled, n_l_shuffled, startD, List.map_cons, List.map_nil, List.length_cons, List.length_nil, List.cons_append, List.nil_append, Nat.reduceAdd, Nat.reduceSub, List.replicate, semS, semE, semEs, semB, semT, semTs, semO, semC, semI, semKv, List.getElem?_cons_zero, List.getElem?_cons_succ, Option.some.injEq, exists_eq_left', List.set_cons_zero, List.set_cons_succ, co_ne, co_eq, co_in, co_nin]
  simp only [semSs]
  simp only [startD, List.map_cons, List.map_nil, List.length_cons, List.length_nil, List.cons_append, List.nil_append, Nat.reduceAdd, Nat.reduceSub, List.replicate, semS, semE, semEs, semB, semT, semTs, semO, semC, semI, semKv, List.getElem?_cons_zero, List.getElem?_cons_succ, Option.some.injEq, exists_eq_left', List.set_cons_zero, List.set_cons_succ, co_ne, co_eq, co_in, co_nin]
  refine b_lstL hq ?_
  refine ⟨Nat.zero_le _, ?_⟩
  have e2 : D ++ [DO.lst xs] ++ [DO.lst []] = D ++ [DO.lst xs, DO.lst []] := by rw [List.append_assoc]; rfl
  rw [e2]
  simp only [semSs]
  simp only [startD, List.map_cons, List.map_nil, List.length_cons, List.length_nil, List.cons_append, List.nil_append, Nat.reduceAdd, Nat.reduceSub, List.replicate, semS, semE, semEs, semB, semT, semTs, semO, semC, semI, semKv, List.getElem?_cons_zero, List.getElem?_cons_succ, Option.some.injEq, exists_eq_left', List.set_cons_zero, List.set_cons_succ, co_ne, co_eq, co_in, co_nin]
  refine b_lenL (get_app hq) ⟨xs.length, rfl, by omega, by omega, ?_⟩
  rw [show ((xs.length : Int)).toNat = xs.length from rfl]
  have e1 : (D ++ [DO.lst xs]).length = D.length + 1 := by simp
  rw [e1]
  refine for_rule (fun i δ D' => ∃ x D1 rest found, δ = [some (.ref p), some (.ref q), some (.ref D.length), some (.ref (D.length + 1)), x] ∧ D' = D1 ++ [.lst rest, .lst found] ∧ Frm p a D D1 ∧ Jar p a b D1 ∧ rest.length + i = xs.length ∧ (found ++ rest).Perm xs) xs.length
    ⟨none, D, xs, [], rfl, rfl, Frm.refl, J, rfl, by rw [List.nil_append]⟩ ?_ ?_
  · rintro i δ D' N hi ⟨x, D1, rest, found, rfl, rfl, fr, J1, hl, pm⟩ hN
    obtain ⟨lp1, la1, lb1⟩ := J1.lt
    refine ⟨_, rng_at hi, ?_⟩
    simp only [semSs]
    simp only [startD, List.map_cons, List.map_nil, List.length_cons, List.length_nil, List.cons_append, List.nil_append, Nat.reduceAdd, Nat.reduceSub, List.replicate, semS, semE, semEs, semB, semT, semTs, semO, semC, semI, semKv, List.getElem?_cons_zero, List.getElem?_cons_succ, Option.some.injEq, exists_eq_left', List.set_cons_zero, List.set_cons_succ, co_ne, co_eq, co_in, co_nin]
    have eL : D1.length = D.length := fr.1
    obtain ⟨g1, g2⟩ := get_two (D := D1) (o := .lst rest) (u := .lst found)
    rw [eL] at g1 g2
    refine ⟨⟨_, _, rfl, g2⟩, ⟨_, _, rfl, g1⟩, _, hd, b_lenL g1 ⟨p, a, b, _, rfl, J1.app, by omega, by omega, fun v D2 v0 v1 f2 J2 => ?_⟩⟩
    obtain ⟨D3, rfl, f3, J3⟩ := Frm.split lp1 la1 lb1 f2 J2
    have eL3 : D3.length = D.length := f3.1.trans eL
    obtain ⟨g3, g4⟩ := get_two (D := D3) (o := .lst rest) (u := .lst found)
    rw [eL3] at g3 g4
    have hv : v.toNat < rest.length := by omega
    refine ⟨rest, v.toNat, _, g3, by rw [show v = ((v.toNat : Nat) : Int) by omega]; exact seqIx_nat (by simpa using hv), List.getElem?_eq_getElem hv, ?_⟩
    have s1 : (D3 ++ [DO.lst rest, DO.lst found]).set D.length (.lst (rest.eraseIdx v.toNat)) = D3 ++ [.lst (rest.eraseIdx v.toNat), .lst found] := by
      rw [List.set_append_right _ _ (by omega), eL3, Nat.sub_self]; rfl
    rw [s1]
    obtain ⟨g5, g6⟩ := get_two (D := D3) (o := .lst (rest.eraseIdx v.toNat)) (u := .lst found)
    rw [eL3] at g5 g6
    have pl : found.length + rest.length = xs.length := by rw [← List.length_append]; exact pm.length_eq
    refine ⟨found, g6, by omega, hN _ _ (.inl ⟨_, D3, rest.eraseIdx v.toNat, found ++ [rest[v.toNat]], rfl, ?_, fr.trans f3, J3, ?_, ?_⟩)⟩
    · rw [List.set_append_right _ _ (by omega), eL3, Nat.add_sub_cancel_left]; rfl
    · rw [List.length_eraseIdx_of_lt hv]; omega
    · refine List.Perm.trans ?_ pm
      rw [List.append_assoc]
      refine List.Perm.append_left _ ?_
      exact (perm_erase _ hv)
  · rintro δ D' ⟨x, D1, rest, found, rfl, rfl, fr, J1, hl, pm⟩
    refine ⟨rng_end, ?_⟩
    simp only [semSs]
    simp only [startD, List.map_cons, List.map_nil, List.length_cons, List.length_nil, List.cons_append, List.nil_append, Nat.reduceAdd, Nat.reduceSub, List.replicate, semS, semE, semEs, semB, semT, semTs, semO, semC, semI, semKv, List.getElem?_cons_zero, List.getElem?_cons_succ, Option.some.injEq, exists_eq_left', List.set_cons_zero, List.set_cons_succ, co_ne, co_eq, co_in, co_nin]
    have : rest = [] := List.eq_nil_of_length_eq_zero (by omega)
    subst this
    rw [List.append_nil] at pm
    exact .inl (k found D1 pm fr J1)

/-! ### webs -/
def tieV (t : Int × Int) : DV := .tup [.int t.1, .int t.2]
def webV (n : Nat) (ts : List (Int × Int)) : DV := .tup [.int n, .tup (ts.map tieV)]
def WebOk (n : Nat) (ts : List (Int × Int)) : Prop := 0 < n ∧ n ≤ 60 ∧ ts.length ≤ 60 ∧ ∀ t ∈ ts, 0 ≤ t.1 ∧ t.1 < n ∧ 0 ≤ t.2 ∧ t.2 < n
def sp_net : DSp := fun ds D R _ => ∃ (p a b n m : Nat), ds = [.ref p, .int n, .int m] ∧ Jar p a b D ∧ 0 < n ∧ n ≤ 60 ∧ m ≤ 60 ∧ ∀ ts D', WebOk n ts → ts.length = m → Frm p a D D' → Jar p a b D' → R (webV n ts) D'
theorem cut_frm {p a b : Nat} {D D1 E : DHp} {R : DR} {d : DV} (J : Jar p a b D) (f : Frm p a D D1) (J1 : Jar p a b D1) (w : wfV D.length d = true) (h : R d D1) : FgtV D R d (D1 ++ E) := by
  obtain ⟨dp, cl, bl, tn, n1, n2, n3, h1, h2, h3, r⟩ := J1
  obtain ⟨lp, la, lb⟩ := J.lt
  refine cut_new f.1 w (fun i o hi e => ?_) h
  by_cases c1 : i = p
  · subst c1
    rw [h1] at e; cases e
    exact .inr (by simp [wfO, wfV, la, lb])
  · by_cases c2 : i = a
    · subst c2
      rw [h2] at e; cases e
      exact .inr (wf_ints _ _)
    · rw [f.2 i c1 c2] at e
      exact .inl e
theorem get_one {D : DHp} {o : DO} {n : Nat} (h : D.length = n) : (D ++ [o])[n]? = some o := by subst h; simp
theorem set_one {D : DHp} {o u : DO} {n : Nat} (h : D.length = n) : (D ++ [o]).set n u = D ++ [u] := by
  subst h
  rw [List.set_append_right _ _ (Nat.le_refl _), Nat.sub_self]; rfl
theorem wf_ties (k : Nat) : ∀ ts : List (Int × Int), wfVs k (ts.map tieV) = true
  | [] => by simp only [List.map_nil, wfVs]
  | t :: ts => by simp only [List.map_cons, wfVs, wfV, tieV, wf_ties k ts, Bool.and_self]
theorem b_tr {b : Bool} {D : DHp} : tru (.bl b) D = some b := rfl
theorem mn_mx {i j : Int} {n : Nat} (h0 : 0 ≤ i) (h1 : i < n) (h2 : 0 ≤ j) (h3 : j < n) : 0 ≤ (if j < i then j else i) ∧ (if j < i then j else i) < n ∧ 0 ≤ (if j > i then j else i) ∧ (if j > i then j else i) < n := by
  split <;> split <;> omega
theorem l_net (hd : fn "_law_draw" = some sp_draw) : ∀ ds D R Ex, sp_net ds D R Ex → semSs ⟨fn, gl, fun c p _ D => Ex c p D⟩ c_l_net { nx := fun _ D' => FgtV D R .non D', rt := FgtV D R } (startD n_l_net ds) D := by
  rintro ds D R Ex ⟨p, a, b, n, m, rfl, J, n0, n1, m1, k⟩
  have sl : sizeLine = 16777216 := rfl
  obtain ⟨lp, la, lb⟩ := J.lt
  simp only [c_l_net, n_l_net, startD, List.map_cons, List.map_nil, List.length_cons, List.length_nil, List.cons_append, List.nil_append, Nat.reduceAdd, Nat.reduceSub, List.replicate, semS, semE, semEs, semB, semT, semTs, semO, semC, semI, semKv, List.getElem?_cons_zero, List.getElem?_cons_succ, Option.some.injEq, exists_eq_left', List.set_cons_zero, List.set_cons_succ, co_ne, co_eq, co_in, co_nin]
  simp only [semSs]
  simp only [startD, List.map_cons, List.map_nil, List.length_cons, List.length_nil, List.cons_append, List.nil_append, Nat.reduceAdd, Nat.reduceSub, List.replicate, semS, semE, semEs, semB, semT, semTs, semO, semC, semI, semKv, List.getElem?_cons_zero, List.getElem?_cons_succ, Option.some.injEq, exists_eq_left', List.set_cons_zero, List.set_cons_succ, co_ne, co_eq, co_in, co_nin]
  refine ⟨Nat.zero_le _, ?_⟩
  simp only [semSs]
  simp only [startD, List.map_cons, List.map_nil, List.length_cons, List.length_nil, List.cons_append, List.nil_append, Nat.reduceAdd, Nat.reduceSub, List.replicate, semS, semE, semEs, semB, semT, semTs, semO, semC, semI, semKv, List.getElem?_cons_zero, List.getElem?_cons_succ, Option.some.injEq, exists_eq_left', List.set_cons_zero, List.set_cons_succ, co_ne, co_eq, co_in, co_nin]
  refine ⟨m, rfl, by omega, by omega, ?_⟩
  rw [show ((m : Int)).toNat = m from rfl]
  refine for_rule (fun i δ D' => ∃ x y z D1 ts, δ = [some (.ref p), some (.int n), some (.int m), some (.ref D.length), x, y, z] ∧ D' = D1 ++ [.lst (ts.map tieV)] ∧ Frm p a D D1 ∧ Jar p a b D1 ∧ ts.length = i ∧ WebOk n ts) m
    ⟨none, none, none, D, [], rfl, rfl, Frm.refl, J, rfl, n0, n1, Nat.zero_le _, fun t h => by cases h⟩ ?_ ?_
  · rintro i δ D' N hi ⟨x, y, z, D1, ts, rfl, rfl, fr, J1, hl, ok⟩ hN
    obtain ⟨lp1, la1, lb1⟩ := J1.lt
    have eL : D1.length = D.length := fr.1
    refine ⟨_, rng_at hi, ?_⟩
    simp only [semSs]
    simp only [startD, List.map_cons, List.map_nil, List.length_cons, List.length_nil, List.cons_append, List.nil_append, Nat.reduceAdd, Nat.reduceSub, List.replicate, semS, semE, semEs, semB, semT, semTs, semO, semC, semI, semKv, List.getElem?_cons_zero, List.getElem?_cons_succ, Option.some.injEq, exists_eq_left', List.set_cons_zero, List.set_cons_succ, co_ne, co_eq, co_in, co_nin]
    refine ⟨_, hd, p, a, b, n, rfl, J1.app, by omega, by omega, fun v D2 v0 v1 f2 J2 => ?_⟩
    obtain ⟨D3, rfl, f3, J3⟩ := Frm.split lp1 la1 lb1 f2 J2
    obtain ⟨lp3, la3, lb3⟩ := J3.lt
    refine ⟨_, hd, p, a, b, n, rfl, J3.app, by omega, by omega, fun u D4 u0 u1 f4 J4 => ?_⟩
    obtain ⟨D5, rfl, f5, J5⟩ := Frm.split lp3 la3 lb3 f4 J4
    obtain ⟨lp5, la5, lb5⟩ := J5.lt
    have fin : ∀ (D6 : DHp) (f6 : Frm p a D D6) (J6 : Jar p a b D6) (t u : Int), 0 ≤ t → t < n → 0 ≤ u → u < n → 
        (mtTy .lappend (.ref D.length) (D6 ++ [.lst (ts.map tieV)]) ∧ biSem .min [.int t, .int u] (D6 ++ [.lst (ts.map tieV)]) fun d E1 => biSem .max [.int t, .int u] E1 fun d1 E2 => 2 ≤ sizeLine ∧ mtSem .lappend (.ref D.length) [.tup [d, d1]] E2 fun _ E3 =>
          N [some (.ref p), some (.int n), some (.int m), some (.ref D.length), some (.int i), some (.int t), some (.int u)] E3) := by
      intro D6 f6 J6 t u t0 t1 u0 u1
      obtain ⟨q0, q1, q2, q3⟩ := mn_mx t0 t1 u0 u1
      refine ⟨⟨_, _, rfl, get_one f6.1⟩, b_min (b_max ⟨by decide, _, get_one f6.1, by rw [List.length_map]; omega, ?_⟩)⟩
      rw [set_one f6.1]
      refine hN _ _ (.inl ⟨_, _, _, D6, ts ++ [(if u < t then u else t, if u > t then u else t)], rfl, by rw [List.map_append]; rfl, f6, J6, by rw [List.length_append, hl]; rfl, n0, n1, by rw [List.length_append, hl]; simp; omega, fun w hw => ?_⟩)
      rcases List.mem_append.mp hw with hw | hw
      · exact ok.2.2.2 w hw
      · rw [List.mem_singleton.mp hw]
        exact ⟨q0, q1, q2, q3⟩
    have fr5 := (fr.trans f3).trans f5
    refine eq_int (neg := false) ⟨_, rfl, ?_⟩
    by_cases e : v = u
    · simp only [e, decide_true, if_true, Bool.false_eq_true, if_false]
      refine ⟨_, hd, p, a, b, 4, rfl, J5.app, by decide, by decide, fun g D6 g0 g1 f6 J6 => ?_⟩
      obtain ⟨D7, rfl, f7, J7⟩ := Frm.split lp5 la5 lb5 f6 J6
      refine i_gt ⟨_, rfl, ?_⟩
      have fr7 := fr5.trans f7
      by_cases h : 0 < g
      · simp only [h, decide_true, if_true]
        refine i_add (b_int (i_modG (by omega) fun w w0 w1 => ?_))
        exact fin D7 fr7 J7 u w u0 u1 w0 w1
      · simp only [h, decide_false, Bool.false_eq_true, if_false]
        exact fin D7 fr7 J7 u u u0 u1 u0 u1
    · simp only [e, decide_false, Bool.false_eq_true, if_false]
      exact fin D5 fr5 J5 v u v0 v1 u0 u1
  · rintro δ D' ⟨x, y, z, D1, ts, rfl, rfl, fr, J1, hl, ok⟩
    refine ⟨rng_end, ?_⟩
    simp only [semSs]
    simp only [startD, List.map_cons, List.map_nil, List.length_cons, List.length_nil, List.cons_append, List.nil_append, Nat.reduceAdd, Nat.reduceSub, List.replicate, semS, semE, semEs, semB, semT, semTs, semO, semC, semI, semKv, List.getElem?_cons_zero, List.getElem?_cons_succ, Option.some.injEq, exists_eq_left', List.set_cons_zero, List.set_cons_succ, co_ne, co_eq, co_in, co_nin]
    refine b_tupL (get_one fr.1) ⟨by decide, ?_⟩
    exact cut_frm J fr J1 (by simp only [wfV, wfVs, wf_ties, Bool.and_self]) (k ts D1 ok hl fr J1)
end K36
set_option Elab.async false
set_option linter.all false
set_option maxRecDepth 100000
set_option maxHeartbeats 4000000
namespace K36
open PySem PySem.Spec PyProof.Rows L2 Dl
variable {fn : Str → Option DSp} {gl : Str → Option DV}
def sp_jar : DSp := fun ds D R _ => ∃ ns : List Int, ds = [.frl ns] ∧ ns.length ≤ 63 ∧ D = [] ∧ ∀ p a b D', Jar p a b D' → R (.ref p) D'
theorem cut_len {α : Type} (xs : List α) (lo hi : Option Int) : (cutL xs lo hi).length ≤ xs.length := by
  unfold cutL
  exact Nat.le_trans (List.length_take_le' _ _) (by rw [List.length_drop]; omega)
theorem lst_at {D : DHp} {a : Nat} {ns : List DV} (h : D[a]? = some (.lst ns)) : itOf (.ref a) D = some fun i D => match D[a]? with
    | some (.lst ds) => some ds[i]?
    | _ => none := by
  simp only [itOf, h]
  try rfl
theorem ints_get {ns : List Int} {i : Nat} (h : i < ns.length) : (ns.map DV.int)[i]? = some (.int ns[i]) := by
  rw [List.getElem?_map, List.getElem?_eq_getElem h]; rfl
theorem ints_end {ns : List Int} : (ns.map DV.int)[ns.length]? = none := by
  rw [List.getElem?_map, List.getElem?_eq_none (Nat.le_refl _)]; rfl
theorem jar_fold (x y z w : DV) : List.foldl (fun acc (kv : Key × DV) => putD acc kv.1 kv.2) [] [(kD, x), (kC, y), (kB, z), (kT, w)] = jarK x y z w := by
  obtain ⟨h1, h2, h3, h4, h5, h6⟩ := ne_keys
  simp only [List.foldl, putD, List.any_cons, List.any_nil, h1, h2, h3, h4, h5, h6, decide_false, Bool.or_false, Bool.false_eq_true, if_false, List.nil_append, List.cons_append]
theorem l_jar : ∀ ds D R Ex, sp_jar ds D R Ex → semSs ⟨fn, gl, fun c p _ D => Ex c p D⟩ c_l_jar { nx := fun _ D' => FgtV D R .non D', rt := FgtV D R } (startD n_l_jar ds) D := by
  rintro ds D R Ex ⟨ns, rfl, l0, rfl, k⟩
  have sl : sizeLine = 16777216 := rfl
  simp only [c_l_jar, n_l_jar, startD, List.map_cons, List.map_nil, List.length_cons, List.length_nil, List.cons_append, List.nil_append, Nat.reduceAdd, Nat.reduceSub, List.replicate, semSs, semS, semE, semEs, semB, semT, semTs, semO, semC, semI, semKv, wipeD, List.getElem?_cons_zero, List.getElem?_cons_succ, Option.some.injEq, exists_eq_left', List.set_cons_zero, List.set_cons_succ, co_ne, co_eq, co_in, co_nin, DV.tup.injEq, DV.int.injEq, DV.ref.injEq, DV.bl.injEq, ITs.len, List.cons.injEq, and_assoc, exists_and_left, true_and, and_true]
  simp only [slD]
  have hc := cut_len ns none (some 63)
  generalize hcs : cutL ns none (some 63) = cs at hc ⊢
  simp only [List.nil_append, List.length_nil]
  refine ⟨_, lst_at rfl, ?_⟩
  refine lc_rule (fun i D' => ∃ os : List Int, D' = [DO.lst (cs.map .int), .lst (os.map .int)] ∧ os.length = i) cs.length ⟨[], rfl, rfl⟩ ?_ ?_
  · rintro i D' N hi ⟨os, rfl, hl⟩ hN
    refine ⟨_, by show some ((cs.map DV.int)[i]?) = _; rw [ints_get hi], ?_⟩
    simp only [if_true, startD, List.map_cons, List.map_nil, List.length_cons, List.length_nil, List.cons_append, List.nil_append, Nat.reduceAdd, Nat.reduceSub, List.replicate, semSs, semS, semE, semEs, semB, semT, semTs, semO, semC, semI, semKv, wipeD, List.getElem?_cons_zero, List.getElem?_cons_succ, Option.some.injEq, exists_eq_left', List.set_cons_zero, List.set_cons_succ, co_ne, co_eq, co_in, co_nin, DV.tup.injEq, DV.int.injEq, DV.ref.injEq, DV.bl.injEq, ITs.len, List.cons.injEq, and_assoc, exists_and_left, true_and, and_true]
    refine i_ge ?_
    refine ⟨_, rfl, ?_⟩
    have fin : ∀ z : Int, ∃ acc, ([DO.lst (cs.map .int), .lst (os.map .int)] : DHp)[1]? = some (.lst acc) ∧ acc.length < sizeLine ∧ N (([DO.lst (cs.map .int), .lst (os.map .int)] : DHp).set 1 (.lst (acc ++ [.int z]))) := fun z =>
      ⟨os.map .int, rfl, by rw [List.length_map]; omega, hN _ (.inl ⟨os ++ [z], by rw [List.map_append]; rfl, by rw [List.length_append, hl]; rfl⟩)⟩
    split
    · exact i_mulL (by decide) (fin _)
    · exact i_mulL (by decide) (i_sub (fin _))
  · rintro D' ⟨os, rfl, hl⟩
    refine ⟨by show some ((cs.map DV.int)[cs.length]?) = _; rw [ints_end], ?_⟩
    refine b_lenL rfl (i_add ?_)
    refine ⟨_, lst_at rfl, ?_⟩
    rw [List.length_map]
    refine for_rule (fun i δ D' => ∃ bl x, δ = [some (.frl ns), some (.ref 1), some (.int bl), x] ∧ D' = [DO.lst (cs.map .int), .lst (os.map .int)]) os.length ⟨_, _, rfl, rfl⟩ ?_ ?_
    · rintro i δ D' N hi ⟨bl, x, rfl, rfl⟩ hN
      refine ⟨_, by show some ((os.map DV.int)[i]?) = _; rw [ints_get hi], ?_⟩
      simp only [startD, List.map_cons, List.map_nil, List.length_cons, List.length_nil, List.cons_append, List.nil_append, Nat.reduceAdd, Nat.reduceSub, List.replicate, semSs, semS, semE, semEs, semB, semT, semTs, semO, semC, semI, semKv, wipeD, List.getElem?_cons_zero, List.getElem?_cons_succ, Option.some.injEq, exists_eq_left', List.set_cons_zero, List.set_cons_succ, co_ne, co_eq, co_in, co_nin, DV.tup.injEq, DV.int.injEq, DV.ref.injEq, DV.bl.injEq, ITs.len, List.cons.injEq, and_assoc, exists_and_left, true_and, and_true]
      exact i_mulR (by decide) (i_add (b_int (i_modG (by decide) fun m m0 m1 => hN _ _ (.inl ⟨_, _, rfl, rfl⟩))))
    · rintro δ D' ⟨bl, x, rfl, rfl⟩
      refine ⟨by show some ((os.map DV.int)[os.length]?) = _; rw [ints_end], ?_⟩
      simp only [startD, List.map_cons, List.map_nil, List.length_cons, List.length_nil, List.cons_append, List.nil_append, Nat.reduceAdd, Nat.reduceSub, List.replicate, semSs, semS, semE, semEs, semB, semT, semTs, semO, semC, semI, semKv, wipeD, List.getElem?_cons_zero, List.getElem?_cons_succ, Option.some.injEq, exists_eq_left', List.set_cons_zero, List.set_cons_succ, co_ne, co_eq, co_in, co_nin, DV.tup.injEq, DV.int.injEq, DV.ref.injEq, DV.bl.injEq, ITs.len, List.cons.injEq, and_assoc, exists_and_left, true_and, and_true]
      refine ⟨_, lst_at rfl, ?_⟩
      refine lc_rule (fun i D' => ∃ dp : List Int, D' = [DO.lst (cs.map .int), .lst (os.map .int), .dk [], .lst (dp.map .int)] ∧ dp.length ≤ i) os.length ⟨[], rfl, Nat.le_refl _⟩ ?_ ?_
      · rintro i D' N hi ⟨dp, rfl, hd⟩ hN
        refine ⟨_, by show some ((os.map DV.int)[i]?) = _; rw [ints_get hi], ?_⟩
        simp only [startD, List.map_cons, List.map_nil, List.length_cons, List.length_nil, List.cons_append, List.nil_append, Nat.reduceAdd, Nat.reduceSub, List.replicate, semSs, semS, semE, semEs, semB, semT, semTs, semO, semC, semI, semKv, wipeD, List.getElem?_cons_zero, List.getElem?_cons_succ, Option.some.injEq, exists_eq_left', List.set_cons_zero, List.set_cons_succ, co_ne, co_eq, co_in, co_nin, DV.tup.injEq, DV.int.injEq, DV.ref.injEq, DV.bl.injEq, ITs.len, List.cons.injEq, and_assoc, exists_and_left, true_and, and_true]
        refine i_pow (by decide) (by decide) (by decide) (i_ge ?_)
        refine ⟨_, rfl, ?_⟩
        split
        · exact ⟨dp.map .int, rfl, by rw [List.length_map]; omega, hN _ (.inl ⟨dp ++ [os[i]], by rw [List.map_append]; rfl, by rw [List.length_append]; simp; omega⟩)⟩
        · exact hN _ (.inl ⟨dp, rfl, by omega⟩)
      · rintro D' ⟨dp, rfl, hd⟩
        refine ⟨by show some ((os.map DV.int)[os.length]?) = _; rw [ints_end], ?_⟩
        simp only [startD, List.map_cons, List.map_nil, List.length_cons, List.length_nil, List.cons_append, List.nil_append, Nat.reduceAdd, Nat.reduceSub, List.replicate, semSs, semS, semE, semEs, semB, semT, semTs, semO, semC, semI, semKv, wipeD, List.getElem?_cons_zero, List.getElem?_cons_succ, Option.some.injEq, exists_eq_left', List.set_cons_zero, List.set_cons_succ, co_ne, co_eq, co_in, co_nin, DV.tup.injEq, DV.int.injEq, DV.ref.injEq, DV.bl.injEq, ITs.len, List.cons.injEq, and_assoc, exists_and_left, true_and, and_true]
        refine ⟨kD, rfl, by decide, l_add (xs := os.map .int) (ys := [.int bl]) rfl rfl (by simp; omega) ?_⟩
        refine ⟨kC, rfl, kB, rfl, kT, rfl, ?_⟩
        refine ⟨rfl, by decide, ?_⟩
        rw [jar_fold]
        exact .inl (k 2 3 5 _ ⟨dp, os ++ [bl], bl, 0, by decide, by decide, by decide, rfl, rfl, by rw [List.map_append]; rfl, by simp, by omega, by simp; omega⟩)

/-! ### darts -/
def piece (ts : List (Int × Int)) (s : Int) (i : Nat) : List Int := match ts[i]? with
  | some t => (if t.1 = s then [2 * (i : Int)] else []) ++ (if t.2 = s then [2 * (i : Int) + 1] else [])
  | none => []
def dAt (ts : List (Int × Int)) (s : Int) (k : Nat) : List Int := (List.range k).flatMap (piece ts s)
theorem dAt_succ (ts : List (Int × Int)) (s : Int) (k : Nat) : dAt ts s (k + 1) = dAt ts s k ++ piece ts s k := by
  unfold dAt
  rw [List.range_succ, List.flatMap_append, List.flatMap_singleton]
theorem piece_len (ts : List (Int × Int)) (s : Int) (k : Nat) : (piece ts s k).length ≤ 2 := by
  unfold piece
  split
  · rw [List.length_append]; split <;> split <;> simp
  · simp
theorem dAt_len (ts : List (Int × Int)) (s : Int) : ∀ k : Nat, (dAt ts s k).length ≤ 2 * k
  | 0 => by simp [dAt]
  | k + 1 => by
    rw [dAt_succ, List.length_append]
    have := piece_len ts s k
    have := dAt_len ts s k
    omega
theorem piece_at {ts : List (Int × Int)} {i : Nat} (h : i < ts.length) (s : Int) : piece ts s i = (if ts[i].1 = s then [2 * (i : Int)] else []) ++ (if ts[i].2 = s then [2 * (i : Int) + 1] else []) := by
  unfold piece
  rw [List.getElem?_eq_getElem h]
theorem enum_t {ds : List DV} {i : Nat} {D : DHp} (h : i < ds.length) : itEnum (fun i _ => some ds[i]?) i D = some (some (.tup [.int i, ds[i]])) := by
  unfold itEnum
  simp [h]
theorem enum_tE {ds : List DV} {D : DHp} : itEnum (fun i _ => some ds[i]?) ds.length D = some none := by
  unfold itEnum
  simp
def sp_darts_at : DSp := fun ds D R _ => ∃ n ts s, ds = [webV n ts, .int s] ∧ ts.length ≤ 60 ∧ R (.tup ((dAt ts s ts.length).map .int)) D
theorem cut_D {D E : DHp} {R : DR} {d : DV} (w : wfV D.length d = true) (h : R d D) : FgtV D R d (D ++ E) := cut_new rfl w (fun i o hi e => .inl e) h
theorem l_darts_at : ∀ ds D R Ex, sp_darts_at ds D R Ex → semSs ⟨fn, gl, fun c p _ D => Ex c p D⟩ c_darts_at { nx := fun _ D' => FgtV D R .non D', rt := FgtV D R } (startD n_darts_at ds) D := by
  rintro ds D R Ex ⟨n, ts, s, rfl, ht, k⟩
  have sl : sizeLine = 16777216 := rfl
  simp only [c_darts_at, n_darts_at, webV, startD, List.map_cons, List.map_nil, List.length_cons, List.length_nil, List.cons_append, List.nil_append, Nat.reduceAdd, Nat.reduceSub, List.replicate, semSs, semS, semE, semEs, semB, semT, semTs, semO, semC, semI, semKv, wipeD, List.getElem?_cons_zero, List.getElem?_cons_succ, Option.some.injEq, exists_eq_left', List.set_cons_zero, List.set_cons_succ, co_ne, co_eq, co_in, co_nin, DV.tup.injEq, DV.int.injEq, DV.ref.injEq, DV.bl.injEq, ITs.len, List.cons.injEq, and_assoc, exists_and_left, true_and, and_true]
  refine ⟨Nat.zero_le _, ix_t rfl ?_⟩
  refine ⟨_, rfl, ?_⟩
  refine for_rule (fun i δ D' => ∃ x y z, δ = [some (webV n ts), some (.int s), some (.ref D.length), x, y, z] ∧ D' = D ++ [.lst ((dAt ts s i).map .int)]) (ts.map tieV).length ⟨none, none, none, rfl, rfl⟩ ?_ ?_
  · rintro i δ D' N hi ⟨x, y, z, rfl, rfl⟩ hN
    have hi' : i < ts.length := by simpa using hi
    refine ⟨_, enum_t hi, ?_⟩
    rw [List.getElem_map]
    simp only [tieV, webV, startD, List.map_cons, List.map_nil, List.length_cons, List.length_nil, List.cons_append, List.nil_append, Nat.reduceAdd, Nat.reduceSub, List.replicate, semSs, semS, semE, semEs, semB, semT, semTs, semO, semC, semI, semKv, wipeD, List.getElem?_cons_zero, List.getElem?_cons_succ, Option.some.injEq, exists_eq_left', List.set_cons_zero, List.set_cons_succ, co_ne, co_eq, co_in, co_nin, DV.tup.injEq, DV.int.injEq, DV.ref.injEq, DV.bl.injEq, ITs.len, List.cons.injEq, and_assoc, exists_and_left, true_and, and_true]
    have hl := dAt_len ts s i
    have fin : N [some (webV n ts), some (.int s), some (.ref D.length), some (.int i), some (.int ts[i].1), some (.int ts[i].2)] (D ++ [.lst ((dAt ts s i ++ piece ts s i).map .int)]) := hN _ _ (.inl ⟨_, _, _, rfl, by rw [dAt_succ]⟩)
    rw [piece_at hi'] at fin
    simp only [webV] at fin
    refine eq_int (neg := false) ?_
    refine ⟨_, rfl, ?_⟩
    by_cases h1 : ts[i].1 = s
    · simp only [h1, decide_true, if_true, Bool.false_eq_true, if_false] at fin ⊢
      refine ⟨⟨_, _, rfl, get_new⟩, i_mulL (by decide) ⟨_, get_new, by rw [List.length_map]; omega, ?_⟩⟩
      rw [set_one rfl]
      refine eq_int (neg := false) ?_
      refine ⟨_, rfl, ?_⟩
      by_cases h2 : ts[i].2 = s
      · simp only [h2, decide_true, if_true, Bool.false_eq_true, if_false] at fin ⊢
        refine ⟨⟨_, _, rfl, get_one rfl⟩, i_mulL (by decide) (i_add ⟨_, get_one rfl, by simp; omega, ?_⟩)⟩
        rw [set_one rfl]
        simpa using fin
      · simp only [h2, decide_false, Bool.false_eq_true, if_false] at fin ⊢
        simpa using fin
    · simp only [h1, decide_false, Bool.false_eq_true, if_false] at fin ⊢
      refine eq_int (neg := false) ?_
      refine ⟨_, rfl, ?_⟩
      by_cases h2 : ts[i].2 = s
      · simp only [h2, decide_true, if_true, Bool.false_eq_true, if_false] at fin ⊢
        refine ⟨⟨_, _, rfl, get_one rfl⟩, i_mulL (by decide) (i_add ⟨_, get_one rfl, by simp; omega, ?_⟩)⟩
        rw [set_one rfl]
        simpa using fin
      · simp only [h2, decide_false, Bool.false_eq_true, if_false] at fin ⊢
        simpa using fin
  · rintro δ D' ⟨x, y, z, rfl, rfl⟩
    refine ⟨enum_tE, ?_⟩
    simp only [startD, List.map_cons, List.map_nil, List.length_cons, List.length_nil, List.cons_append, List.nil_append, Nat.reduceAdd, Nat.reduceSub, List.replicate, semSs, semS, semE, semEs, semB, semT, semTs, semO, semC, semI, semKv, wipeD, List.getElem?_cons_zero, List.getElem?_cons_succ, Option.some.injEq, exists_eq_left', List.set_cons_zero, List.set_cons_succ, co_ne, co_eq, co_in, co_nin, DV.tup.injEq, DV.int.injEq, DV.ref.injEq, DV.bl.injEq, ITs.len, List.cons.injEq, and_assoc, exists_and_left, true_and, and_true]
    refine b_tupL (get_one rfl) ?_
    rw [List.length_map]
    exact cut_D (by simp only [wfV, wf_ints]) k
end K36
set_option Elab.async false
set_option linter.all false
set_option maxRecDepth 100000
set_option maxHeartbeats 4000000
namespace K36
open PySem PySem.Spec PyProof.Rows L2 Dl
variable {fn : Str → Option DSp} {gl : Str → Option DV}
def refsV (k n : Nat) : List DV := (List.range n).map fun j => .ref (k + 1 + j)
def cellsH (n : Nat) (L : Nat → List Int) : DHp := (List.range n).map fun j => .lst ((L j).map .int)
def dartsH (k n : Nat) (L : Nat → List Int) : DHp := .lst (refsV k n) :: cellsH n L
theorem dartsH_0 (D : DHp) (n : Nat) (L : Nat → List Int) : (D ++ dartsH D.length n L)[D.length]? = some (.lst (refsV D.length n)) := by
  rw [List.getElem?_append_right (Nat.le_refl _), Nat.sub_self]; rfl
theorem dartsH_at (D : DHp) {n j : Nat} (L : Nat → List Int) (h : j < n) : (D ++ dartsH D.length n L)[D.length + 1 + j]? = some (.lst ((L j).map .int)) := by
  rw [List.getElem?_append_right (by omega), show D.length + 1 + j - D.length = j + 1 by omega]
  show (cellsH n L)[j]? = _
  unfold cellsH
  rw [List.getElem?_map, List.getElem?_range h]; rfl
theorem dartsH_set (D : DHp) {n j : Nat} (L : Nat → List Int) (h : j < n) (xs : List Int) : (D ++ dartsH D.length n L).set (D.length + 1 + j) (.lst (xs.map .int)) = D ++ dartsH D.length n (fun k => if k = j then xs else L k) := by
  rw [List.set_append_right _ _ (by omega), show D.length + 1 + j - D.length = j + 1 by omega]
  congr 1
  show DO.lst (refsV D.length n) :: (cellsH n L).set j _ = DO.lst (refsV D.length n) :: cellsH n _
  congr 1
  apply List.ext_getElem?
  intro i
  unfold cellsH
  rw [List.getElem?_set, List.getElem?_map, List.getElem?_map, List.length_map, List.length_range]
  by_cases hi : j = i
  · subst hi
    rw [if_pos rfl, if_pos h, List.getElem?_range h]
    simp
  · rw [if_neg hi]
    by_cases hn : i < n
    · rw [List.getElem?_range hn]
      simp [show ¬ i = j from fun z => hi z.symm]
    · rw [List.getElem?_eq_none (by simpa using hn)]; rfl
theorem dartsH_congr (k n : Nat) {L M : Nat → List Int} (h : ∀ j, j < n → L j = M j) : dartsH k n L = dartsH k n M := by
  unfold dartsH cellsH
  congr 1
  apply List.map_congr_left
  intro j hj
  rw [h j (List.mem_range.mp hj)]
theorem refs_at {k n j : Nat} (h : j < n) : atI (refsV k n) (j : Int) = some (.ref (k + 1 + j)) := by
  refine atI_nat (by omega) ?_
  unfold refsV
  rw [Int.toNat_natCast, List.getElem?_map, List.getElem?_range h]; rfl
def sp_darts : DSp := fun ds D R _ => ∃ n ts, ds = [webV n ts] ∧ WebOk n ts ∧ R (.ref D.length) (D ++ dartsH D.length n fun j => dAt ts j ts.length)
theorem l_darts : ∀ ds D R Ex, sp_darts ds D R Ex → semSs ⟨fn, gl, fun c p _ D => Ex c p D⟩ c_l_darts { nx := fun _ D' => FgtV D R .non D', rt := FgtV D R } (startD n_l_darts ds) D := by
  rintro ds D R Ex ⟨n, ts, rfl, ⟨n0, n1, t1, ok⟩, k⟩
  have sl : sizeLine = 16777216 := rfl
  simp only [c_l_darts, n_l_darts, webV, startD, List.map_cons, List.map_nil, List.length_cons, List.length_nil, List.cons_append, List.nil_append, Nat.reduceAdd, Nat.reduceSub, List.replicate, semSs, semS, semE, semEs, semB, semT, semTs, semO, semC, semI, semKv, wipeD, List.getElem?_cons_zero, List.getElem?_cons_succ, Option.some.injEq, exists_eq_left', List.set_cons_zero, List.set_cons_succ, co_ne, co_eq, co_in, co_nin, DV.tup.injEq, DV.int.injEq, DV.ref.injEq, DV.bl.injEq, ITs.len, List.cons.injEq, and_assoc, exists_and_left, true_and, and_true]
  refine ix_t rfl ?_
  refine ⟨n, rfl, by omega, by omega, ?_⟩
  rw [show ((n : Int)).toNat = n from rfl]
  refine lc_rule (fun i D' => i ≤ n ∧ D' = D ++ (.lst (refsV D.length i) :: cellsH i fun _ => [])) n ⟨Nat.zero_le _, rfl⟩ ?_ ?_
  · rintro i D' N hi ⟨_, rfl⟩ hN
    refine ⟨_, rng_at hi, ?_⟩
    simp only [if_true, startD, List.map_cons, List.map_nil, List.length_cons, List.length_nil, List.cons_append, List.nil_append, Nat.reduceAdd, Nat.reduceSub, List.replicate, semSs, semS, semE, semEs, semB, semT, semTs, semO, semC, semI, semKv, wipeD, List.getElem?_cons_zero, List.getElem?_cons_succ, Option.some.injEq, exists_eq_left', List.set_cons_zero, List.set_cons_succ, co_ne, co_eq, co_in, co_nin, DV.tup.injEq, DV.int.injEq, DV.ref.injEq, DV.bl.injEq, ITs.len, List.cons.injEq, and_assoc, exists_and_left, true_and, and_true]
    refine ⟨Nat.zero_le _, refsV D.length i, ?_, ?_, hN _ (.inl ⟨hi, ?_⟩)⟩
    · refine get_app ?_
      rw [List.getElem?_append_right (Nat.le_refl _), Nat.sub_self]; rfl
    · simp [refsV]; omega
    · have hl : (D ++ DO.lst (refsV D.length i) :: cellsH i fun _ => []).length = D.length + 1 + i := by simp [cellsH]; omega
      rw [hl, List.append_assoc, List.set_append_right _ _ (Nat.le_refl _), Nat.sub_self]
      simp [refsV, cellsH, List.range_succ]
  · rintro D' ⟨_, rfl⟩
    refine ⟨rng_end, ?_⟩
    refine ix_t rfl ?_
    refine ⟨_, rfl, ?_⟩
    refine for_rule (fun i δ D' => ∃ x y, δ = [some (webV n ts), some (.ref D.length), x, y] ∧ D' = D ++ dartsH D.length n fun j => dAt ts j i) (ts.map tieV).length ⟨none, none, rfl, ?_⟩ ?_ ?_
    · congr 1
    · rintro i δ D' N hi ⟨x, y, rfl, rfl⟩ hN
      have hi' : i < ts.length := by simpa using hi
      refine ⟨_, enum_t hi, ?_⟩
      rw [List.getElem_map]
      obtain ⟨a0, a1, b0, b1⟩ := ok ts[i] (List.getElem_mem hi')
      obtain ⟨l, hl⟩ : ∃ l : Nat, ts[i].1 = l := ⟨ts[i].1.toNat, by omega⟩
      obtain ⟨h, hh⟩ : ∃ h : Nat, ts[i].2 = h := ⟨ts[i].2.toNat, by omega⟩
      have ln : l < n := by omega
      have hn : h < n := by omega
      simp only [tieV, webV, hl, hh, startD, List.map_cons, List.map_nil, List.length_cons, List.length_nil, List.cons_append, List.nil_append, Nat.reduceAdd, Nat.reduceSub, List.replicate, semSs, semS, semE, semEs, semB, semT, semTs, semO, semC, semI, semKv, wipeD, List.getElem?_cons_zero, List.getElem?_cons_succ, Option.some.injEq, exists_eq_left', List.set_cons_zero, List.set_cons_succ, co_ne, co_eq, co_in, co_nin, DV.tup.injEq, DV.int.injEq, DV.ref.injEq, DV.bl.injEq, ITs.len, List.cons.injEq, and_assoc, exists_and_left, true_and, and_true]
      refine ix_t rfl (ix_ls (dartsH_0 _ _ _) (refs_at ln) ⟨⟨_, _, rfl, dartsH_at _ _ ln⟩, i_mulL (by decide) ⟨_, dartsH_at _ _ ln, ?_, ?_⟩⟩)
      · rw [List.length_map]; have := dAt_len ts l i; omega
      rw [show ((dAt ts (l : Int) i).map DV.int ++ [DV.int (2 * (i : Int))]) = (dAt ts (l : Int) i ++ [2 * (i : Int)]).map DV.int by rw [List.map_append]; rfl, dartsH_set _ _ ln]
      refine ix_t rfl (ix_ls (dartsH_0 _ _ _) (refs_at hn) ⟨⟨_, _, rfl, dartsH_at _ _ hn⟩, i_mulL (by decide) (i_add ⟨_, dartsH_at _ _ hn, ?_, ?_⟩)⟩)
      · rw [List.length_map]
        have h1 := dAt_len ts l i
        have h2 := dAt_len ts h i
        split
        · rw [List.length_append]; simp; omega
        · omega
      refine hN _ _ (.inl ⟨_, _, rfl, ?_⟩)
      have e : ∀ xs : List Int, xs.map DV.int ++ [DV.int (2 * (i : Int) + 1)] = (xs ++ [2 * (i : Int) + 1]).map DV.int := fun xs => by rw [List.map_append]; rfl
      rw [e, dartsH_set _ _ hn]
      congr 1
      refine dartsH_congr _ _ fun j hj => ?_
      show (if j = h then (if h = l then dAt ts (l : Int) i ++ [2 * (i : Int)] else dAt ts (h : Int) i) ++ [2 * (i : Int) + 1] else if j = l then dAt ts (l : Int) i ++ [2 * (i : Int)] else dAt ts (j : Int) i) = dAt ts (j : Int) (i + 1)
      rw [dAt_succ, piece_at hi', hl, hh]
      by_cases c1 : j = h
      · subst c1
        by_cases c2 : j = l
        · subst c2; simp
        · have : ¬ ((l : Int) = j) := by omega
          simp [c2, this]
      · have c1' : ¬ ((h : Int) = j) := by omega
        by_cases c2 : j = l
        · subst c2; simp [c1, c1']
        · have : ¬ ((l : Int) = j) := by omega
          simp [c1, c2, this, c1']
    · rintro δ D' ⟨x, y, rfl, rfl⟩
      refine ⟨enum_tE, ?_⟩
      simp only [startD, List.map_cons, List.map_nil, List.length_cons, List.length_nil, List.cons_append, List.nil_append, Nat.reduceAdd, Nat.reduceSub, List.replicate, semSs, semS, semE, semEs, semB, semT, semTs, semO, semC, semI, semKv, wipeD, List.getElem?_cons_zero, List.getElem?_cons_succ, Option.some.injEq, exists_eq_left', List.set_cons_zero, List.set_cons_succ, co_ne, co_eq, co_in, co_nin, DV.tup.injEq, DV.int.injEq, DV.ref.injEq, DV.bl.injEq, ITs.len, List.cons.injEq, and_assoc, exists_and_left, true_and, and_true]
      rw [List.length_map]
      exact .inl k
end K36
set_option Elab.async false
set_option linter.all false
set_option maxRecDepth 100000
set_option maxHeartbeats 4000000
namespace K36
open PySem PySem.Spec PyProof.Rows L2 Dl
variable {fn : Str → Option DSp} {gl : Str → Option DV}
/-! ### values of a known kind -/
def isIntD : DV → Bool
  | .int _ => true
  | _ => false
def isBlD : DV → Bool
  | .bl _ => true
  | _ => false
def Ty (D : DHp) (x : DV) : Prop := ∃ n a, py n D x = some a
theorem Ty.cls {D : DHp} {x : DV} (h : Ty D x) : ∃ t, tyD x D = some t ∧ isaT t "tuple" = isTupD x ∧ isaT t "int" = (isIntD x || isBlD x) ∧ isaT t "bool" = isBlD x := by
  obtain ⟨n, a, h⟩ := h
  cases x with
  | non => exact ⟨_, rfl, by decide, by decide, by decide⟩
  | bl b => exact ⟨_, rfl, by simp [isaT, isTupD], by simp [isaT, isIntD, isBlD], by simp [isaT, isBlD]⟩
  | int i => exact ⟨_, rfl, by simp [isaT, isTupD], by simp [isaT, isIntD, isBlD], by simp [isaT, isBlD]⟩
  | str s => exact ⟨_, rfl, by simp [isaT, isTupD], by simp [isaT, isIntD, isBlD], by simp [isaT, isBlD]⟩
  | tup ds => exact ⟨_, rfl, by simp [isaT, isTupD], by simp [isaT, isIntD, isBlD], by simp [isaT, isBlD]⟩
  | frl ns => exact ⟨_, rfl, by simp [isaT, isTupD], by simp [isaT, isIntD, isBlD], by simp [isaT, isBlD]⟩
  | ty n => simp [py, pyF] at h
  | obj n => simp [py, pyF] at h
  | ref i =>
    simp only [py, pyF] at h
    cases n with
    | zero => simp [pyG] at h
    | succ n =>
      cases q : D[i]? with
      | none => simp [pyG, q] at h
      | some o =>
        cases o with
        | lst ds => exact ⟨"list", by simp [tyD, q], by simp [isaT, isTupD], by simp [isaT, isIntD, isBlD], by simp [isaT, isBlD]⟩
        | dk ds => exact ⟨"dict", by simp [tyD, q], by simp [isaT, isTupD], by simp [isaT, isIntD, isBlD], by simp [isaT, isBlD]⟩
        | dt ds => simp [pyG, q] at h
        | ins C ds => simp [pyG, q] at h
theorem pyFs_mem {g : Nat → Option PyData} : ∀ {ds : List DV} {as : List PyData}, pyFs g ds = some as → ∀ d ∈ ds, ∃ a, pyF g d = some a
  | [], _, _, d, h => by cases h
  | e :: ds, as, h, d, hd => by
    simp only [pyFs] at h
    obtain ⟨a, h1, h2⟩ := Option.bind_eq_some_iff.mp h
    obtain ⟨b, h3, h4⟩ := Option.map_eq_some_iff.mp h2
    rcases List.mem_cons.mp hd with rfl | hd
    · exact ⟨a, h1⟩
    · exact pyFs_mem h3 d hd
theorem Ty.item {D : DHp} {ds : List DV} (h : Ty D (.tup ds)) : ∀ d ∈ ds, Ty D d := fun d hd => by
  obtain ⟨n, a, h⟩ := h
  simp only [py, pyF] at h
  obtain ⟨b, h1, h2⟩ := Option.map_eq_some_iff.mp h
  obtain ⟨c, h3⟩ := pyFs_mem h1 d hd
  exact ⟨n, c, h3⟩
theorem isi_tup {D : DHp} {x : DV} {R : DR} (h : Ty D x) (r : R (.bl (isTupD x)) D) : biSem .isinst [x, .ty "tuple"] D R := by
  obtain ⟨t, e, h1, _⟩ := h.cls
  exact ⟨t, e, by decide, by rw [h1]; exact r⟩
theorem isi_int {D : DHp} {x : DV} {R : DR} (h : Ty D x) (r : R (.bl (isIntD x || isBlD x)) D) : biSem .isinst [x, .ty "int"] D R := by
  obtain ⟨t, e, _, h1, _⟩ := h.cls
  exact ⟨t, e, by decide, by rw [h1]; exact r⟩
theorem isi_bool {D : DHp} {x : DV} {R : DR} (h : Ty D x) (r : R (.bl (isBlD x)) D) : biSem .isinst [x, .ty "bool"] D R := by
  obtain ⟨t, e, _, _, h1⟩ := h.cls
  exact ⟨t, e, by decide, by rw [h1]; exact r⟩
theorem toInts_all : ∀ {es : List DV}, (∀ d ∈ es, isIntD d = true) → ∃ ns, toInts es = some ns
  | [], _ => ⟨[], rfl⟩
  | d :: es, h => by
    obtain ⟨ns, e⟩ := toInts_all (es := es) fun d hd => h d (List.mem_cons_of_mem _ hd)
    have := h d List.mem_cons_self
    cases d with
    | int i => exact ⟨i :: ns, by show (toInts es).map _ = _; rw [e]; rfl⟩
    | _ => cases this
theorem toInts_bad : ∀ {es : List DV} {d : DV}, d ∈ es → isIntD d = false → toInts es = none
  | e :: es, d, h, b => by
    rcases List.mem_cons.mp h with rfl | h
    · cases d <;> first | rfl | cases b
    · have := toInts_bad h b
      cases e with
      | int i => show (toInts es).map _ = _; rw [this]; rfl
      | _ => rfl
def turnOk (dl : List Int) (t : DV) : Bool := match t with
  | .tup es => match toInts es with
    | some ns => decide (isort ns = dl) && decide (ns.take 1 = dl.take 1)
    | none => false
  | _ => false
theorem turnOk_no {dl : List Int} {t : DV} (h : isTupD t = false) : turnOk dl t = false := by
  cases t <;> first | rfl | cases h
theorem turnOk_bad {dl : List Int} {es : List DV} {d : DV} (hd : d ∈ es) (b : isIntD d = false) : turnOk dl (.tup es) = false := by
  unfold turnOk
  simp only [toInts_bad hd b]
theorem cut_1 {α : Type} (xs : List α) : cutL xs none (some 1) = xs.take 1 := by
  unfold cutL HT.sIx
  cases xs with
  | nil => rfl
  | cons x xs => simp
def sp_is_turn : DSp := fun ds D R _ => ∃ n ts s v, ds = [webV n ts, .int s, v] ∧ ts.length ≤ 60 ∧ Ty D v ∧ R (.bl (turnOk (dAt ts s ts.length) v)) D
theorem tup_of {x : DV} (h : isTupD x = true) : ∃ es, x = .tup es := by
  cases x <;> first | exact ⟨_, rfl⟩ | cases h
theorem l_is_turn (hd : fn "darts_at" = some sp_darts_at) : ∀ ds D R Ex, sp_is_turn ds D R Ex → semSs ⟨fn, gl, fun c p _ D => Ex c p D⟩ c_is_turn { nx := fun _ D' => FgtV D R .non D', rt := FgtV D R } (startD n_is_turn ds) D := by
  rintro ds D R Ex ⟨n, ts, s, v, rfl, ht, hv, k⟩
  simp only [c_is_turn, n_is_turn, T6.nm, startD, List.map_cons, List.map_nil, List.length_cons, List.length_nil, List.cons_append, List.nil_append, Nat.reduceAdd, Nat.reduceSub, List.replicate, semSs, semS, semE, semEs, semB, semT, semTs, semO, semC, semI, semKv, wipeD, List.getElem?_cons_zero, List.getElem?_cons_succ, Option.some.injEq, exists_eq_left', List.set_cons_zero, List.set_cons_succ, co_ne, co_eq, co_in, co_nin, DV.tup.injEq, DV.int.injEq, DV.ref.injEq, DV.bl.injEq, ITs.len, List.cons.injEq, and_assoc, exists_and_left, true_and, and_true]
  refine isi_tup hv ?_
  refine ⟨_, rfl, ?_⟩
  cases hb : isTupD v with
  | false =>
    rw [turnOk_no hb] at k
    simp only [Bool.not_false, if_true]
    exact .inl k
  | true =>
    obtain ⟨es, rfl⟩ := tup_of hb
    simp only [Bool.not_true, Bool.false_eq_true, if_false]
    refine ⟨_, rfl, ?_⟩
    refine for_rule (fun i δ D' => ∃ x, δ = [some (webV n ts), some (.int s), some (.tup es), x, none] ∧ D' = D ∧ ∀ j (h : j < es.length), j < i → isIntD es[j] = true) es.length ⟨none, rfl, rfl, fun j _ h => absurd h (Nat.not_lt_zero _)⟩ ?_ ?_
    · rintro i δ D' N hi ⟨x, rfl, rfl, ok⟩ hN
      refine ⟨es[i], by rw [List.getElem?_eq_getElem hi], ?_⟩
      have ty := hv.item es[i] (List.getElem_mem hi)
      simp only [T6.nm, startD, List.map_cons, List.map_nil, List.length_cons, List.length_nil, List.cons_append, List.nil_append, Nat.reduceAdd, Nat.reduceSub, List.replicate, semSs, semS, semE, semEs, semB, semT, semTs, semO, semC, semI, semKv, wipeD, List.getElem?_cons_zero, List.getElem?_cons_succ, Option.some.injEq, exists_eq_left', List.set_cons_zero, List.set_cons_succ, co_ne, co_eq, co_in, co_nin, DV.tup.injEq, DV.int.injEq, DV.ref.injEq, DV.bl.injEq, ITs.len, List.cons.injEq, and_assoc, exists_and_left, true_and, and_true]
      refine isi_int ty ?_
      refine ⟨_, rfl, ?_⟩
      cases h1 : isIntD es[i] with
      | true =>
        have h2 : isBlD es[i] = false := by revert h1; cases es[i] <;> intro h1 <;> first | rfl | cases h1
        simp only [Bool.true_or, Bool.not_true, Bool.false_eq_true, if_false]
        refine isi_bool ty ?_
        refine ⟨_, rfl, ?_⟩
        simp only [h2, Bool.false_eq_true, if_false]
        refine hN _ _ (.inl ⟨_, rfl, rfl, fun j hj hlt => ?_⟩)
        by_cases e : j = i
        · subst e; exact h1
        · exact ok j hj (by omega)
      | false =>
        rw [turnOk_bad (List.getElem_mem hi) h1] at k
        simp only [Bool.false_or]
        cases h2 : isBlD es[i] with
        | true =>
          simp only [Bool.not_true, Bool.false_eq_true, if_false]
          refine isi_bool ty ?_
          refine ⟨_, rfl, ?_⟩
          simp only [h2, if_true]
          exact .inl k
        | false =>
          simp only [Bool.not_false, if_true]
          exact .inl k
    · rintro δ D' ⟨x, rfl, rfl, ok⟩
      refine ⟨by rw [List.getElem?_eq_none (Nat.le_refl _)], ?_⟩
      obtain ⟨ns, e⟩ := toInts_all (es := es) fun d hd => by
        obtain ⟨j, hj, rfl⟩ := List.getElem_of_mem hd
        exact ok j hj hj
      have ek : turnOk (dAt ts s ts.length) (.tup es) = (decide (isort ns = dAt ts s ts.length) && decide (ns.take 1 = (dAt ts s ts.length).take 1)) := by
        unfold turnOk
        simp only [e]
      rw [ek] at k
      have ee := toInts_eq e
      subst ee
      simp only [startD, List.map_cons, List.map_nil, List.length_cons, List.length_nil, List.cons_append, List.nil_append, Nat.reduceAdd, Nat.reduceSub, List.replicate, semSs, semS, semE, semEs, semB, semT, semTs, semO, semC, semI, semKv, wipeD, List.getElem?_cons_zero, List.getElem?_cons_succ, Option.some.injEq, exists_eq_left', List.set_cons_zero, List.set_cons_succ, co_ne, co_eq, co_in, co_nin, DV.tup.injEq, DV.int.injEq, DV.ref.injEq, DV.bl.injEq, ITs.len, List.cons.injEq, and_assoc, exists_and_left, true_and, and_true]
      refine ⟨_, hd, n, ts, s, rfl, ht, ?_⟩
      refine b_srtT (b_tupL get_new (b_tupT (eq_tups (neg := false) ?_)))
      refine ⟨_, rfl, ?_⟩
      have fin : ∀ {d : DV}, wfV D'.length d = true → R d D' → FgtV D' R d (D' ++ [DO.lst ((isort ns).map .int)]) := fun w h => cut_D w h
      cases h1 : decide (isort ns = dAt ts s ts.length) with
      | true =>
        simp only [Bool.false_eq_true, if_false, h1, if_true]
        refine sl_t (sl_t (b_tupT ?_))
        rw [cut_1, cut_1, ← List.map_take, ← List.map_take]
        refine eq_tups (neg := false) (fin (by simp only [wfV]) ?_)
        rw [h1, Bool.true_and] at k
        exact k
      | false =>
        simp only [Bool.false_eq_true, if_false, h1]
        refine fin (by simp only [wfV]) ?_
        rw [h1, Bool.false_and] at k
        exact k
end K36
set_option Elab.async false
set_option linter.all false
set_option maxRecDepth 100000
set_option maxHeartbeats 4000000
namespace K36
open PySem PySem.Spec PyProof.Rows L2 Dl
variable {fn : Str → Option DSp} {gl : Str → Option DV}
/-- the first turn that is none -/
def badAt (ts : List (Int × Int)) (es : List DV) : Nat → Nat → DV
  | 0, _ => .non
  | m + 1, i => if turnOk (dAt ts i ts.length) (es.getD i .non) = true then badAt ts es m (i + 1) else .tup [.int i, .str "turn"]
def errV (n : Nat) (ts : List (Int × Int)) (x : DV) : DV := match x with
  | .tup es => if es.length = n then badAt ts es n 0 else .tup [.non, .str "laying"]
  | _ => .tup [.non, .str "laying"]
theorem errV_no {n : Nat} {ts : List (Int × Int)} {x : DV} (h : isTupD x = false) : errV n ts x = .tup [.non, .str "laying"] := by
  cases x <;> first | rfl | cases h
theorem wf_badAt (ts : List (Int × Int)) (es : List DV) (k : Nat) : ∀ m i, wfV k (badAt ts es m i) = true
  | 0, i => by simp only [badAt, wfV]
  | m + 1, i => by
    simp only [badAt]
    split
    · exact wf_badAt ts es k m (i + 1)
    · simp only [wfV, wfVs, Bool.and_self]
theorem wf_errV {n : Nat} {ts : List (Int × Int)} {x : DV} {k : Nat} : wfV k (errV n ts x) = true := by
  unfold errV
  split
  · split
    · exact wf_badAt ts _ k _ _
    · simp only [wfV, wfVs, Bool.and_self]
  · simp only [wfV, wfVs, Bool.and_self]
/-- no turn is too long -/
def Sm (x : DV) : Prop := ∀ es, x = .tup es → ∀ vs, .tup vs ∈ es → vs.length ≤ 1000000
def sp_err : DSp := fun ds D R _ => ∃ n ts x, ds = [webV n ts, x] ∧ WebOk n ts ∧ Ty D x ∧ Sm x ∧ R (errV n ts x) D
theorem l_laying_error (hd : fn "is_turn" = some sp_is_turn) : ∀ ds D R Ex, sp_err ds D R Ex → semSs ⟨fn, gl, fun c p _ D => Ex c p D⟩ c_laying_error { nx := fun _ D' => FgtV D R .non D', rt := FgtV D R } (startD n_laying_error ds) D := by
  rintro ds D R Ex ⟨n, ts, x, rfl, ⟨n0, n1, t1, ok⟩, hx, hs, k⟩
  have sl : sizeLine = 16777216 := rfl
  simp only [c_laying_error, n_laying_error, T6.nm, webV, startD, List.map_cons, List.map_nil, List.length_cons, List.length_nil, List.cons_append, List.nil_append, Nat.reduceAdd, Nat.reduceSub, List.replicate, semSs, semS, semE, semEs, semB, semT, semTs, semO, semC, semI, semKv, wipeD, List.getElem?_cons_zero, List.getElem?_cons_succ, Option.some.injEq, exists_eq_left', List.set_cons_zero, List.set_cons_succ, co_ne, co_eq, co_in, co_nin, DV.tup.injEq, DV.int.injEq, DV.ref.injEq, DV.bl.injEq, ITs.len, List.cons.injEq, and_assoc, exists_and_left, true_and, and_true]
  refine isi_tup hx ?_
  refine ⟨_, rfl, ?_⟩
  cases hb : isTupD x with
  | false =>
    rw [errV_no hb] at k
    simp only [Bool.not_false, if_true]
    exact ⟨by decide, .inl k⟩
  | true =>
    obtain ⟨es, rfl⟩ := tup_of hb
    simp only [Bool.not_true, Bool.false_eq_true, if_false]
    refine b_lenT (ix_t rfl (eq_int (neg := true) ?_))
    refine ⟨_, rfl, ?_⟩
    by_cases hl : es.length = n
    · have e1 : ((es.length : Int) = (n : Int)) := by omega
      simp only [e1, decide_true, Bool.not_true, if_true, Bool.false_eq_true, if_false]
      refine ix_t rfl ?_
      refine ⟨n, rfl, by omega, by omega, ?_⟩
      rw [show ((n : Int)).toNat = n from rfl]
      have ek : errV n ts (.tup es) = badAt ts es n 0 := by unfold errV; simp only [hl, if_true]
      rw [ek] at k
      refine for_rule (fun i δ D' => ∃ y, δ = [some (webV n ts), some (.tup es), y] ∧ D' = D ∧ badAt ts es n 0 = badAt ts es (n - i) i) n ⟨none, rfl, rfl, rfl⟩ ?_ ?_
      · rintro i δ D' N hi ⟨y, rfl, rfl, eb⟩ hN
        have hi' : i < es.length := by omega
        refine ⟨_, rng_at hi, ?_⟩
        simp only [webV, startD, List.map_cons, List.map_nil, List.length_cons, List.length_nil, List.cons_append, List.nil_append, Nat.reduceAdd, Nat.reduceSub, List.replicate, semSs, semS, semE, semEs, semB, semT, semTs, semO, semC, semI, semKv, wipeD, List.getElem?_cons_zero, List.getElem?_cons_succ, Option.some.injEq, exists_eq_left', List.set_cons_zero, List.set_cons_succ, co_ne, co_eq, co_in, co_nin, DV.tup.injEq, DV.int.injEq, DV.ref.injEq, DV.bl.injEq, ITs.len, List.cons.injEq, and_assoc, exists_and_left, true_and, and_true]
        refine ⟨_, hd, ix_t (atI_nat (by omega) (by rw [Int.toNat_natCast]; exact List.getElem?_eq_getElem hi')) ⟨n, ts, i, _, rfl, t1, hx.item _ (List.getElem_mem hi'), ?_⟩⟩
        refine ⟨_, rfl, ?_⟩
        obtain ⟨m, hm⟩ : ∃ m, n - i = m + 1 := ⟨n - i - 1, by omega⟩
        have gd : es.getD i .non = es[i] := by rw [List.getD_eq_getElem?_getD, List.getElem?_eq_getElem hi']; rfl
        rw [hm] at eb
        simp only [badAt, gd] at eb
        cases ht : turnOk (dAt ts (i : Int) ts.length) es[i] with
        | true =>
          simp only [ht, if_true] at eb
          simp only [Bool.not_true, Bool.false_eq_true, if_false]
          exact hN _ _ (.inl ⟨_, rfl, rfl, by rw [eb, show n - (i + 1) = m by omega]⟩)
        | false =>
          simp only [ht, Bool.false_eq_true, if_false] at eb
          simp only [Bool.not_false, if_true]
          rw [eb] at k
          exact ⟨by decide, .inl k⟩
      · rintro δ D' ⟨y, rfl, rfl, eb⟩
        refine ⟨rng_end, ?_⟩
        rw [eb, Nat.sub_self] at k
        exact .inl k
    · have e1 : ¬ ((es.length : Int) = (n : Int)) := by omega
      simp only [e1, decide_false, Bool.not_false, if_true]
      have ek : errV n ts (.tup es) = .tup [.non, .str "laying"] := by unfold errV; simp only [hl, if_false]
      rw [ek] at k
      exact ⟨by decide, .inl k⟩
def sp_is_int : DSp := fun ds D R _ => ∃ x, ds = [x] ∧ Ty D x ∧ R (.bl (isIntD x)) D
theorem l_is_int : ∀ ds D R Ex, sp_is_int ds D R Ex → semSs ⟨fn, gl, fun c p _ D => Ex c p D⟩ c_l_is_int { nx := fun _ D' => FgtV D R .non D', rt := FgtV D R } (startD n_l_is_int ds) D := by
  rintro ds D R Ex ⟨x, rfl, hx, k⟩
  simp only [c_l_is_int, n_l_is_int, T6.nm, startD, List.map_cons, List.map_nil, List.length_cons, List.length_nil, List.cons_append, List.nil_append, Nat.reduceAdd, Nat.reduceSub, List.replicate, semSs, semS, semE, semEs, semB, semT, semTs, semO, semC, semI, semKv, wipeD, List.getElem?_cons_zero, List.getElem?_cons_succ, Option.some.injEq, exists_eq_left', List.set_cons_zero, List.set_cons_succ, co_ne, co_eq, co_in, co_nin, DV.tup.injEq, DV.int.injEq, DV.ref.injEq, DV.bl.injEq, ITs.len, List.cons.injEq, and_assoc, exists_and_left, true_and, and_true]
  refine isi_int hx ?_
  refine ⟨_, rfl, ?_⟩
  cases h1 : isIntD x with
  | true =>
    have h2 : isBlD x = false := by revert h1; cases x <;> intro h1 <;> first | rfl | cases h1
    simp only [Bool.true_or, if_true]
    refine isi_bool hx ?_
    refine ⟨_, rfl, ?_⟩
    rw [h2]
    rw [h1] at k
    exact .inl k
  | false =>
    rw [h1] at k
    simp only [Bool.false_or]
    cases h2 : isBlD x with
    | true =>
      simp only [if_true]
      refine isi_bool hx ?_
      refine ⟨_, rfl, ?_⟩
      rw [h2]
      exact .inl k
    | false =>
      simp only [Bool.false_eq_true, if_false]
      exact .inl k
mutual
theorem pyF_mono {g g' : Nat → Option PyData} (h : ∀ i a, g i = some a → g' i = some a) : ∀ (d : DV) (a : PyData), pyF g d = some a → pyF g' d = some a
  | .non, a, e | .bl _, a, e | .int _, a, e | .str _, a, e | .ty _, a, e | .obj _, a, e | .frl _, a, e => by simpa only [pyF] using e
  | .ref i, a, e => by
    simp only [pyF] at e ⊢
    exact h i a e
  | .tup ds, a, e => by
    simp only [pyF] at e ⊢
    obtain ⟨b, e1, e2⟩ := Option.map_eq_some_iff.mp e
    rw [pyFs_mono h ds b e1]
    exact congrArg some e2
theorem pyFs_mono {g g' : Nat → Option PyData} (h : ∀ i a, g i = some a → g' i = some a) : ∀ (ds : List DV) (as : List PyData), pyFs g ds = some as → pyFs g' ds = some as
  | [], a, e => by simpa only [pyFs] using e
  | d :: ds, a, e => by
    simp only [pyFs] at e ⊢
    obtain ⟨b, e1, e2⟩ := Option.bind_eq_some_iff.mp e
    obtain ⟨c, e3, e4⟩ := Option.map_eq_some_iff.mp e2
    rw [pyF_mono h d b e1, pyFs_mono h ds c e3]
    exact congrArg some e4
end
theorem pyKv_mono {g g' : Nat → Option PyData} (h : ∀ i a, g i = some a → g' i = some a) : ∀ (ds : List (Key × DV)) (as : List (PyData × PyData)), pyKv g ds = some as → pyKv g' ds = some as
  | [], a, e => by simpa only [pyKv] using e
  | (k, d) :: ds, a, e => by
    simp only [pyKv] at e ⊢
    obtain ⟨b, e1, e2⟩ := Option.bind_eq_some_iff.mp e
    obtain ⟨c, e3, e4⟩ := Option.map_eq_some_iff.mp e2
    rw [pyF_mono h d b e1, pyKv_mono h ds c e3]
    exact congrArg some e4
/-- what is read stays, if the objects that are read stay -/
theorem pyG_on {S : Nat → Prop} {D D' : DHp} (h : ∀ i o, S i → D[i]? = some o → D'[i]? = some o) (hs : ∀ i, S i) : ∀ (n i : Nat) (a : PyData), pyG n D i = some a → pyG n D' i = some a
  | 0, i, a, e => by simp [pyG] at e
  | n + 1, i, a, e => by
    have ih := pyG_on h hs n
    cases q : D[i]? with
    | none => simp [pyG, q] at e
    | some o =>
      have q' := h i o (hs i) q
      cases o with
      | lst ds =>
        simp only [pyG, q] at e
        simp only [pyG, q']
        obtain ⟨b, e1, e2⟩ := Option.map_eq_some_iff.mp e
        rw [pyFs_mono ih ds b e1]
        exact congrArg some e2
      | dk ds =>
        simp only [pyG, q] at e
        simp only [pyG, q']
        obtain ⟨b, e1, e2⟩ := Option.map_eq_some_iff.mp e
        rw [pyKv_mono ih ds b e1]
        exact congrArg some e2
      | dt ds => simp [pyG, q] at e
      | ins C ds => simp [pyG, q] at e
theorem py_ext {D D' : DHp} {n : Nat} {x : DV} {a : PyData} (h : ∀ (i : Nat) (o : DO), D[i]? = some o → D'[i]? = some o) (e : py n D x = some a) : py n D' x = some a :=
  pyF_mono (fun i a q => pyG_on (D := D) (S := fun _ => True) (fun i o _ hh => h i o hh) (fun _ => trivial) n i a q) x a e
theorem Ty.app {D E : DHp} {x : DV} (h : Ty D x) : Ty (D ++ E) x := by
  obtain ⟨n, a, e⟩ := h
  exact ⟨n, a, py_ext (fun i o q => get_app q) e⟩
theorem enum_l {D : DHp} {a i : Nat} {ds : List DV} {f : DIt} (hf : f = fun i D => match D[a]? with
    | some (.lst ds) => some ds[i]?
    | _ => none) (h : D[a]? = some (.lst ds)) : itEnum f i D = some (ds[i]?.map fun d => .tup [.int i, d]) := by
  subst hf
  unfold itEnum
  simp only [h]
  rfl
theorem l_due (hd : fn "_law_darts" = some sp_darts) (hi2 : fn "_law_is_int" = some sp_is_int) : ∀ ds D R Ex, sp_err ds D R Ex → semSs ⟨fn, gl, fun c p _ D => Ex c p D⟩ c_l_due { nx := fun _ D' => FgtV D R .non D', rt := FgtV D R } (startD n_l_due ds) D := by
  rintro ds D R Ex ⟨n, ts, x, rfl, ⟨n0, n1, t1, ok⟩, hx, hs, k⟩
  have sl : sizeLine = 16777216 := rfl
  simp only [c_l_due, n_l_due, T6.nm, webV, startD, List.map_cons, List.map_nil, List.length_cons, List.length_nil, List.cons_append, List.nil_append, Nat.reduceAdd, Nat.reduceSub, List.replicate, semSs, semS, semE, semEs, semB, semT, semTs, semO, semC, semI, semKv, wipeD, List.getElem?_cons_zero, List.getElem?_cons_succ, Option.some.injEq, exists_eq_left', List.set_cons_zero, List.set_cons_succ, co_ne, co_eq, co_in, co_nin, DV.tup.injEq, DV.int.injEq, DV.ref.injEq, DV.bl.injEq, ITs.len, List.cons.injEq, and_assoc, exists_and_left, true_and, and_true]
  refine isi_tup hx ?_
  refine ⟨_, rfl, ?_⟩
  cases hb : isTupD x with
  | false =>
    rw [errV_no hb] at k
    simp only [Bool.not_false, if_true]
    exact ⟨by decide, .inl k⟩
  | true =>
    obtain ⟨es, rfl⟩ := tup_of hb
    simp only [Bool.not_true, Bool.false_eq_true, if_false]
    refine b_lenT (ix_t rfl (eq_int (neg := true) ?_))
    refine ⟨_, rfl, ?_⟩
    by_cases hl : es.length = n
    · have e1 : ((es.length : Int) = (n : Int)) := by omega
      simp only [e1, decide_true, Bool.not_true, if_true, Bool.false_eq_true, if_false]
      have ek : errV n ts (.tup es) = badAt ts es n 0 := by unfold errV; simp only [hl, if_true]
      rw [ek] at k
      refine ⟨_, hd, n, ts, rfl, ⟨n0, n1, t1, ok⟩, ?_⟩
      refine ⟨_, lst_at (dartsH_0 _ _ _), ?_⟩
      generalize hM : (fun j : Nat => dAt ts (j : Int) ts.length) = M
      generalize hB : D ++ dartsH D.length n M = B
      have wfR : ∀ {d : DV} {E : DHp}, wfV D.length d = true → R d D → FgtV D R d (B ++ E) := fun {d E} w h => by
        rw [← hB, List.append_assoc]; exact cut_D w h
      have hB0 : B[D.length]? = some (.lst (refsV D.length n)) := by rw [← hB]; exact dartsH_0 _ _ _
      have hBj : ∀ j, j < n → B[D.length + 1 + j]? = some (.lst ((M j).map .int)) := fun j h => by rw [← hB]; exact dartsH_at _ _ h
      have tyB : ∀ {E : DHp} (i : Nat) (h : i < es.length), Ty (B ++ E) es[i] := fun {E} i h => by
        rw [← hB, List.append_assoc]; exact (hx.item _ (List.getElem_mem h)).app
      refine for_rule (fun i δ D' => ∃ E y z w, δ = [some (webV n ts), some (.tup es), y, z, w, none] ∧ D' = B ++ E ∧ badAt ts es n 0 = badAt ts es (n - i) i) n ⟨[], none, none, none, rfl, by rw [List.append_nil], rfl⟩ ?_ ?_
      · rintro i δ D' N hi ⟨E, y, z, w, rfl, rfl, eb⟩ hN
        have hi' : i < es.length := by omega
        have rf : (refsV D.length n)[i]? = some (.ref (D.length + 1 + i)) := by
          unfold refsV
          rw [List.getElem?_map, List.getElem?_range hi]; rfl
        refine ⟨_, (enum_l rfl (get_app hB0)).trans (by rw [rf]; rfl), ?_⟩
        simp only [webV, T6.nm, startD, List.map_cons, List.map_nil, List.length_cons, List.length_nil, List.cons_append, List.nil_append, Nat.reduceAdd, Nat.reduceSub, List.replicate, semSs, semS, semE, semEs, semB, semT, semTs, semO, semC, semI, semKv, wipeD, List.getElem?_cons_zero, List.getElem?_cons_succ, Option.some.injEq, exists_eq_left', List.set_cons_zero, List.set_cons_succ, co_ne, co_eq, co_in, co_nin, DV.tup.injEq, DV.int.injEq, DV.ref.injEq, DV.bl.injEq, ITs.len, List.cons.injEq, and_assoc, exists_and_left, true_and, and_true]
        refine ix_t (atI_nat (by omega) (by rw [Int.toNat_natCast]; exact List.getElem?_eq_getElem hi')) ?_
        obtain ⟨m, hm⟩ : ∃ m, n - i = m + 1 := ⟨n - i - 1, by omega⟩
        have gd : es.getD i .non = es[i] := by rw [List.getD_eq_getElem?_getD, List.getElem?_eq_getElem hi']; rfl
        rw [hm] at eb
        simp only [badAt, gd] at eb
        have bad : turnOk (M i) es[i] = false → R (.tup [.int i, .str "turn"]) D := fun h => by
          rw [← hM] at h
          simp only [h, Bool.false_eq_true, if_false] at eb
          rw [eb] at k; exact k
        have good : turnOk (M i) es[i] = true → badAt ts es n 0 = badAt ts es (n - (i + 1)) (i + 1) := fun h => by
          rw [← hM] at h
          simp only [h, if_true] at eb
          rw [eb, show n - (i + 1) = m by omega]
        have ty := tyB (E := E) i hi'
        have tyA : ∀ E' : DHp, Ty (B ++ E') es[i] := fun E' => tyB i hi'
        have nx : ∀ (E' : DHp) (w' : Option DV), turnOk (M i) es[i] = true → N [some (webV n ts), some (.tup es), some (.int i), some (.ref (D.length + 1 + i)), w', none] (B ++ E') := fun E' w' h => hN _ _ (.inl ⟨E', _, _, _, rfl, rfl, good h⟩)
        have mj := hBj i hi
        refine isi_tup ty ?_
        refine ⟨_, rfl, ?_⟩
        cases hv : isTupD es[i] with
        | false =>
          simp only [Bool.not_false, if_true]
          exact ⟨by decide, wfR (by simp only [wfV, wfVs, Bool.and_self]) (bad (turnOk_no hv))⟩
        | true =>
          obtain ⟨vs, ev⟩ := tup_of hv
          simp only [Bool.not_true, Bool.false_eq_true, if_false]
          rw [ev] at bad good tyA nx ⊢
          refine ⟨_, rfl, ?_⟩
          refine lc_rule (fun j D' => ∃ os : List Int, D' = B ++ E ++ [.lst (os.map .int)] ∧ os.length ≤ j ∧ (os = [] ↔ ∀ k (h : k < vs.length), k < j → isIntD vs[k] = true)) vs.length ⟨[], rfl, Nat.le_refl _, by simp⟩ ?_ ?_
          · rintro j D' N' hj ⟨os, rfl, ol, oz⟩ hN'
            refine ⟨vs[j], by rw [List.getElem?_eq_getElem hj], ?_⟩
            simp only [startD, List.map_cons, List.map_nil, List.length_cons, List.length_nil, List.cons_append, List.nil_append, Nat.reduceAdd, Nat.reduceSub, List.replicate, semSs, semS, semE, semEs, semB, semT, semTs, semO, semC, semI, semKv, wipeD, List.getElem?_cons_zero, List.getElem?_cons_succ, Option.some.injEq, exists_eq_left', List.set_cons_zero, List.set_cons_succ, co_ne, co_eq, co_in, co_nin, DV.tup.injEq, DV.int.injEq, DV.ref.injEq, DV.bl.injEq, ITs.len, List.cons.injEq, and_assoc, exists_and_left, true_and, and_true]
            have tj : Ty (B ++ E ++ [DO.lst (os.map .int)]) vs[j] := by
              rw [List.append_assoc]; exact (tyA _).item _ (List.getElem_mem hj)
            refine ⟨_, hi2, vs[j], rfl, tj, ?_⟩
            refine ⟨_, rfl, ?_⟩
            cases hz : isIntD vs[j] with
            | true =>
              simp only [Bool.not_true, Bool.false_eq_true, if_false]
              refine hN' _ (.inl ⟨os, rfl, by omega, oz.trans ⟨fun h k hk hlt => ?_, fun h k hk hlt => h k hk (by omega)⟩⟩)
              by_cases c : k = j
              · subst c; exact hz
              · exact h k hk (by omega)
            | false =>
              simp only [Bool.not_false, if_true]
              refine ⟨os.map .int, get_one rfl, by rw [List.length_map]; have := hs _ rfl vs (by rw [← ev]; exact List.getElem_mem hi'); omega, hN' _ (.inl ⟨os ++ [1], by rw [set_one rfl, List.map_append]; rfl, by rw [List.length_append]; simp; omega, ⟨fun h => by simp at h, fun h => ?_⟩⟩)⟩
              have := h j hj (by omega)
              rw [hz] at this; cases this
          · rintro D' ⟨os, rfl, ol, oz⟩
            refine ⟨by rw [List.getElem?_eq_none (Nat.le_refl _)], ?_⟩
            refine ⟨Nat.zero_le _, ?_⟩
            refine eq_lists (neg := true) (xs := os) (ys := []) (get_app (get_one rfl)) (show (B ++ E ++ [DO.lst (os.map .int)] ++ [DO.lst []])[(B ++ E ++ [DO.lst (os.map .int)]).length]? = some (DO.lst (([] : List Int).map .int)) from get_new) ?_
            refine ⟨_, rfl, ?_⟩
            have e3 : B ++ E ++ [DO.lst (os.map .int)] ++ [DO.lst []] = B ++ (E ++ [DO.lst (os.map .int)] ++ [DO.lst []]) := by simp
            rw [e3]
            generalize E ++ [DO.lst (os.map .int)] ++ [DO.lst []] = E1
            have tv : R (.tup [.int i, .str "turn"]) D → ∀ E', FgtV D R (.tup [.int i, .str "turn"]) (B ++ E') := fun h E' => wfR (by simp only [wfV, wfVs, Bool.and_self]) h
            by_cases ho : os = []
            · have all := oz.mp ho
              subst ho
              simp only [decide_true, Bool.not_true, if_true, Bool.false_eq_true, if_false]
              obtain ⟨ns, e⟩ := toInts_all (es := vs) fun d hd => by
                obtain ⟨j, hj, rfl⟩ := List.getElem_of_mem hd
                exact all j hj hj
              have ek2 : turnOk (M i) (.tup vs) = (decide (isort ns = M i) && decide (ns.take 1 = (M i).take 1)) := by
                unfold turnOk
                simp only [e]
              have ee := toInts_eq e
              subst ee
              rw [ek2] at bad nx
              refine b_srtT ?_
              refine eq_lists (neg := true) (xs := isort ns) (ys := M i) get_new (get_app (get_app mj)) ?_
              refine ⟨_, rfl, ?_⟩
              by_cases h1 : isort ns = M i
              · simp only [h1, decide_true, Bool.not_true, if_true, Bool.false_eq_true, if_false]
                refine sl_t (b_lstT (sl_l (get_app (get_app (get_app mj))) ?_))
                rw [cut_1, cut_1, ← List.map_take, ← List.map_take]
                refine eq_lists (neg := true) (xs := ns.take 1) (ys := (M i).take 1) (get_app get_new) get_new ?_
                refine ⟨_, rfl, ?_⟩
                by_cases h2 : ns.take 1 = (M i).take 1
                · simp only [h2, decide_true, Bool.not_true, if_true, Bool.false_eq_true, if_false]
                  have := nx (E1 ++ [DO.lst ((M i).map .int)] ++ [DO.lst (((M i).take 1).map .int)] ++ [DO.lst (((M i).take 1).map .int)]) (some (.tup (ns.map .int))) (by simp [h1, h2])
                  simpa only [List.append_assoc, webV] using this
                · simp only [h2, decide_false, Bool.not_false, if_true]
                  refine ⟨by decide, ?_⟩
                  have := tv (bad (by simp [h1, h2])) (E1 ++ [DO.lst ((M i).map .int)] ++ [DO.lst ((ns.take 1).map .int)] ++ [DO.lst (((M i).take 1).map .int)])
                  simpa only [List.append_assoc] using this
              · simp only [h1, decide_false, Bool.not_false, if_true]
                refine ⟨by decide, ?_⟩
                have := tv (bad (by simp [h1])) (E1 ++ [DO.lst ((isort ns).map .int)])
                simpa only [List.append_assoc] using this
            · simp only [ho, decide_false, Bool.not_false, if_true]
              have nb : ∃ j, ∃ h : j < vs.length, isIntD vs[j] = false := by
                refine Classical.byContradiction fun c => ho (oz.mpr fun k hk _ => ?_)
                cases hz : isIntD vs[k] with
                | true => rfl
                | false => exact absurd ⟨k, hk, hz⟩ c
              obtain ⟨j, hj, hz⟩ := nb
              exact ⟨by decide, tv (bad (turnOk_bad (List.getElem_mem hj) hz)) E1⟩
      · rintro δ D' ⟨E, y, z, w, rfl, rfl, eb⟩
        refine ⟨(enum_l rfl (get_app hB0)).trans (by simp [refsV]), ?_⟩
        rw [eb, Nat.sub_self] at k
        exact wfR (by simp only [wfV]) k
    · have e1 : ¬ ((es.length : Int) = (n : Int)) := by omega
      simp only [e1, decide_false, Bool.not_false, if_true]
      have ek : errV n ts (.tup es) = .tup [.non, .str "laying"] := by unfold errV; simp only [hl, if_false]
      rw [ek] at k
      exact ⟨by decide, .inl k⟩
end K36
set_option Elab.async false
set_option linter.all false
set_option maxRecDepth 100000
set_option maxHeartbeats 4000000
namespace K36
open PySem PySem.Spec PyProof.Rows L2 Dl
variable {fn : Str → Option DSp} {gl : Str → Option DV}
/-! ### values that can be shown -/
def Vl (k : Nat) (D : DHp) (B d : Nat) (v : DV) : Prop := ∃ a, Rd k D v a ∧ sz a ≤ B ∧ a.showable = true ∧ a.depth ≤ d
theorem Vl.mono {k : Nat} {D : DHp} {B B' d d' : Nat} {v : DV} (h : Vl k D B d v) (hb : B ≤ B') (hd : d ≤ d') : Vl k D B' d' v :=
  let ⟨a, h1, h2, h3, h4⟩ := h
  ⟨a, h1, by omega, h3, by omega⟩
theorem Vl.on {k : Nat} {D D1 : DHp} {B d : Nat} {v : DV} (h : Vl k D B d v) (q : Keep k D D1) : Vl k D1 B d v :=
  let ⟨a, h1, h2⟩ := h
  ⟨a, h1.on q, h2⟩
theorem Vl.up {j k : Nat} {D : DHp} {B d : Nat} {v : DV} (h : Vl k D B d v) (q : j ≤ k) : Vl j D B d v :=
  let ⟨a, h1, h2⟩ := h
  ⟨a, h1.up q, h2⟩
theorem Vl.all {k : Nat} {D : DHp} {B d : Nat} : ∀ {es : List DV}, (∀ e ∈ es, Vl k D B d e) → ∃ as, Rds k D es as ∧ szs as ≤ es.length * (B + 2) ∧ PyData.showableAll as = true ∧ PyData.depthAll as ≤ d
  | [], _ => ⟨[], Rds.nil, by simp [szs], by simp [PyData.showableAll], by simp [PyData.depthAll]⟩
  | e :: es, h => by
    obtain ⟨a, h1, h2, h3, h4⟩ := h e List.mem_cons_self
    obtain ⟨as, g1, g2, g3, g4⟩ := Vl.all (es := es) fun x hx => h x (List.mem_cons_of_mem _ hx)
    refine ⟨a :: as, Rds.cons h1 g1, ?_, by simp only [PyData.showableAll, h3, g3, Bool.and_self], by simp only [PyData.depthAll]; omega⟩
    simp only [szs, List.length_cons, Nat.add_mul, Nat.one_mul]
    omega
theorem Vl.tup {k : Nat} {D : DHp} {B d : Nat} {es : List DV} (h : ∀ e ∈ es, Vl k D B d e) : Vl k D (3 + es.length * (B + 2)) (d + 1) (.tup es) := by
  obtain ⟨as, g1, g2, g3, g4⟩ := Vl.all h
  exact ⟨.tuple as, Rd.tup g1, by simp only [sz]; omega, by simp only [PyData.showable]; exact g3, by simp only [PyData.depth]; omega⟩
theorem Vl.int {k : Nat} {D : DHp} {i : Int} {b : Nat} (h : i.natAbs < 2 ^ b) (hb : 0 < b) (hb2 : b ≤ 1000) : Vl k D (b + 2) 0 (.int i) := by
  have hl : i.natAbs.log2 < b := by
    by_cases z : i.natAbs = 0
    · rw [z]; exact hb
    · exact (Nat.log2_lt z).mpr h
  exact ⟨.int i, Rd.int i, by simp only [sz]; omega, by simp only [PyData.showable, decide_eq_true_eq]; omega, by simp only [PyData.depth]; omega⟩
theorem Vl.lit {k : Nat} {D : DHp} (x : DV) (a : PyData) (h : Rd k D x a) (B : Nat) (h2 : sz a ≤ B) (h3 : a.showable = true) (h4 : a.depth ≤ 0) : Vl k D B 0 x := ⟨a, h, h2, h3, h4⟩
/-- a turn of small ints -/
def TurnOk (ns : List Int) : Prop := ns.length ≤ 120 ∧ ∀ x ∈ ns, 0 ≤ x ∧ x < 128
def turnV (ns : List Int) : DV := .tup (ns.map .int)
def laidV (ls : List (List Int)) : DV := .tup (ls.map turnV)
def LaidOk (n : Nat) (ls : List (List Int)) : Prop := ls.length = n ∧ ∀ ns ∈ ls, TurnOk ns
theorem small_int {k : Nat} {D : DHp} {x : Int} (h : 0 ≤ x ∧ x < 128) : Vl k D 40 0 (.int x) :=
  (Vl.int (b := 8) (by omega) (by decide) (by decide)).mono (by decide) (Nat.le_refl _)
theorem turn_items {k : Nat} {D : DHp} {ns : List Int} (h : TurnOk ns) : ∀ e ∈ ns.map DV.int, Vl k D 40 0 e := fun e he => by
  obtain ⟨x, hx, rfl⟩ := List.mem_map.mp he
  exact small_int (h.2 x hx)
theorem turn_vl {k : Nat} {D : DHp} {ns : List Int} (h : TurnOk ns) : Vl k D 6000 1 (turnV ns) :=
  (Vl.tup (turn_items h)).mono (by rw [List.length_map]; have := h.1; omega) (Nat.le_refl _)
theorem laid_vl {k n : Nat} {D : DHp} {ls : List (List Int)} (h : LaidOk n ls) (hn : n ≤ 60) : Vl k D 400000 2 (laidV ls) := by
  have := Vl.tup (k := k) (D := D) (B := 6000) (d := 1) (es := ls.map turnV) fun e he => by
    obtain ⟨x, hx, rfl⟩ := List.mem_map.mp he
    exact turn_vl (h.2 x hx)
  exact this.mono (by rw [List.length_map, h.1]; omega) (Nat.le_refl _)
theorem Vl.ty {k : Nat} {D : DHp} {B d : Nat} {v : DV} (h : Vl k D B d v) : Ty D v :=
  let ⟨a, h1, _⟩ := h
  ⟨2, a, h1 D Keep.refl⟩
theorem piece_bd {ts : List (Int × Int)} {s : Int} {i : Nat} : ∀ x ∈ piece ts s i, 0 ≤ x ∧ x < 2 * (ts.length : Int) := by
  intro x hx
  unfold piece at hx
  split at hx
  · rename_i t e
    have := (List.getElem?_eq_some_iff.mp e).1
    rw [List.mem_append] at hx
    rcases hx with hx | hx
    · split at hx
      · rw [List.mem_singleton] at hx; omega
      · cases hx
    · split at hx
      · rw [List.mem_singleton] at hx; omega
      · cases hx
  · cases hx
theorem dAt_ok {ts : List (Int × Int)} (ht : ts.length ≤ 60) (s : Int) : TurnOk (dAt ts s ts.length) := by
  refine ⟨by have := dAt_len ts s ts.length; omega, fun x hx => ?_⟩
  unfold dAt at hx
  obtain ⟨i, _, h⟩ := List.mem_flatMap.mp hx
  have := piece_bd x h
  omega
def sp_laid : DSp := fun ds D R _ => ∃ p a b n ts, ds = [.ref p, webV n ts] ∧ Jar p a b D ∧ WebOk n ts ∧ ∀ ls D', LaidOk n ls → Frm p a D D' → Jar p a b D' → R (laidV ls) D'
theorem wf_laid (k : Nat) : ∀ ls : List (List Int), wfVs k (ls.map turnV) = true
  | [] => by simp only [List.map_nil, wfVs]
  | l :: ls => by simp only [List.map_cons, wfVs, wfV, turnV, wf_ints, wf_laid k ls, Bool.and_self]
theorem map_cut (ns : List Int) (lo hi : Option Int) : cutL (ns.map DV.int) lo hi = (cutL ns lo hi).map DV.int := by
  unfold cutL
  rw [List.length_map, List.map_take, List.map_drop]
theorem cut_mem {α : Type} {xs : List α} {lo hi : Option Int} {x : α} (h : x ∈ cutL xs lo hi) : x ∈ xs := by
  unfold cutL at h
  exact List.mem_of_mem_drop (List.mem_of_mem_take h)
theorem keep_frm {p a : Nat} {D D1 E : DHp} {i : Nat} {o : DO} (f : Frm p a D D1) (h1 : i ≠ p) (h2 : i ≠ a) (h : D[i]? = some o) : (D1 ++ E)[i]? = some o := get_app ((f.2 i h1 h2).trans h)
theorem cut_r {α : Type} (xs : List α) : cutL xs (some 1) none = xs.drop 1 := by
  unfold cutL HT.sIx
  cases xs with
  | nil => rfl
  | cons x xs => simp
theorem l_laid (hd : fn "_law_darts" = some sp_darts) (hs : fn "_law_shuffled" = some sp_shuffled) : ∀ ds D R Ex, sp_laid ds D R Ex → semSs ⟨fn, gl, fun c p _ D => Ex c p D⟩ c_l_laid { nx := fun _ D' => FgtV D R .non D', rt := FgtV D R } (startD n_l_laid ds) D := by
  rintro ds D R Ex ⟨p, a, b, n, ts, rfl, J, W, k⟩
  have sl : sizeLine = 16777216 := rfl
  obtain ⟨lp, la, lb⟩ := J.lt
  simp only [c_l_laid, n_l_laid, startD, List.map_cons, List.map_nil, List.length_cons, List.length_nil, List.cons_append, List.nil_append, Nat.reduceAdd, Nat.reduceSub, List.replicate, semSs, semS, semE, semEs, semB, semT, semTs, semO, semC, semI, semKv, wipeD, List.getElem?_cons_zero, List.getElem?_cons_succ, Option.some.injEq, exists_eq_left', List.set_cons_zero, List.set_cons_succ, co_ne, co_eq, co_in, co_nin, DV.tup.injEq, DV.int.injEq, DV.ref.injEq, DV.bl.injEq, ITs.len, List.cons.injEq, and_assoc, exists_and_left, true_and, and_true]
  refine ⟨_, hd, n, ts, rfl, W, ?_⟩
  refine ⟨_, lst_at (dartsH_0 _ _ _), ?_⟩
  have n60 := W.2.1
  have t60 := W.2.2.1
  generalize hM : (fun j : Nat => dAt ts (j : Int) ts.length) = M
  have okM : ∀ j, TurnOk (M j) := fun j => by rw [← hM]; exact dAt_ok t60 _
  have lenB : ∀ D1 : DHp, D1.length = D.length → (D1 ++ dartsH D.length n M).length = D.length + 1 + n := fun D1 h => by
    simp [dartsH, cellsH, h]; omega
  refine lc_rule (fun i D' => ∃ D1 ls E, D' = D1 ++ dartsH D.length n M ++ (.lst (ls.map turnV) :: E) ∧ Frm p a D D1 ∧ Jar p a b D1 ∧ ls.length = i ∧ ∀ ns ∈ ls, TurnOk ns) n ⟨D, [], [], by rw [List.map_nil], Frm.refl, J, rfl, fun ns h => by cases h⟩ ?_ ?_
  · rintro i D' N hi ⟨D1, ls, E, rfl, fr, J1, hl, ok⟩ hN
    have eL := fr.1
    have d0 : (D1 ++ dartsH D.length n M)[D.length]? = some (.lst (refsV D.length n)) := by rw [← eL]; exact dartsH_0 _ _ _
    have dj : ∀ j, j < n → (D1 ++ dartsH D.length n M)[D.length + 1 + j]? = some (.lst ((M j).map .int)) := fun j h => by rw [← eL]; exact dartsH_at _ _ h
    have rf : (refsV D.length n)[i]? = some (.ref (D.length + 1 + i)) := by
      unfold refsV
      rw [List.getElem?_map, List.getElem?_range hi]; rfl
    refine ⟨.ref (D.length + 1 + i), ?_, ?_⟩
    · simp only [get_app (E := DO.lst (ls.map turnV) :: E) d0]
      show some (refsV D.length n)[i]? = _
      rw [rf]
    simp only [if_true, startD, List.map_cons, List.map_nil, List.length_cons, List.length_nil, List.cons_append, List.nil_append, Nat.reduceAdd, Nat.reduceSub, List.replicate, semSs, semS, semE, semEs, semB, semT, semTs, semO, semC, semI, semKv, wipeD, List.getElem?_cons_zero, List.getElem?_cons_succ, Option.some.injEq, exists_eq_left', List.set_cons_zero, List.set_cons_succ, co_ne, co_eq, co_in, co_nin, DV.tup.injEq, DV.int.injEq, DV.ref.injEq, DV.bl.injEq, ITs.len, List.cons.injEq, and_assoc, exists_and_left, true_and, and_true]
    refine sl_l (get_app (dj i hi)) ?_
    refine ⟨_, hs, sl_l (get_app (get_app (dj i hi))) ?_⟩
    rw [map_cut, map_cut]
    have c1 := cut_len (M i) none (some 1)
    have c2 := cut_len (M i) (some 1) none
    have ml := (okM i).1
    generalize hX : D1 ++ dartsH D.length n M ++ (DO.lst (ls.map turnV) :: E) ++ [DO.lst ((cutL (M i) none (some 1)).map .int)] ++ [DO.lst ((cutL (M i) (some 1) none).map .int)] = X
    have hX2 : X = D1 ++ (dartsH D.length n M ++ (DO.lst (ls.map turnV) :: E) ++ [DO.lst ((cutL (M i) none (some 1)).map .int)] ++ [DO.lst ((cutL (M i) (some 1) none).map .int)]) := by rw [← hX]; simp only [List.append_assoc]
    have lX1 : (D1 ++ dartsH D.length n M ++ (DO.lst (ls.map turnV) :: E) ++ [DO.lst ((cutL (M i) none (some 1)).map .int)])[(D1 ++ dartsH D.length n M ++ (DO.lst (ls.map turnV) :: E)).length]? = some (.lst ((cutL (M i) none (some 1)).map .int)) := get_new
    have lX2 : X[(D1 ++ dartsH D.length n M ++ (DO.lst (ls.map turnV) :: E) ++ [DO.lst ((cutL (M i) none (some 1)).map .int)]).length]? = some (.lst ((cutL (M i) (some 1) none).map .int)) := by rw [← hX]; exact get_new
    have lX0 : X[(D1 ++ dartsH D.length n M ++ (DO.lst (ls.map turnV) :: E)).length]? = some (.lst ((cutL (M i) none (some 1)).map .int)) := by rw [← hX]; exact get_app lX1
    have JX : Jar p a b X := by rw [hX2]; exact J1.app
    have la1 := J1.lt
    refine ⟨p, a, b, _, _, rfl, JX, lX2, ?_, ?_, fun ys D2 pm f2 J2 => ?_⟩
    · simp only [List.length_append]; omega
    · rw [List.length_map]; omega
    rw [hX2] at f2
    obtain ⟨D3, rfl, f3, J3⟩ := Frm.split la1.1 la1.2.1 la1.2.2 f2 J2
    have eL3 : D3.length = D1.length := f3.1
    have lX : X.length = D3.length + (dartsH D.length n M ++ (DO.lst (ls.map turnV) :: E) ++ [DO.lst ((cutL (M i) none (some 1)).map .int)] ++ [DO.lst ((cutL (M i) (some 1) none).map .int)]).length := by rw [hX2, List.length_append, eL3]
    obtain ⟨zs, hz⟩ : ∃ zs, toInts ys = some zs := toInts_all fun d hd => by
      have := pm.mem_iff.mp hd
      obtain ⟨x, _, rfl⟩ := List.mem_map.mp this
      rfl
    have ez := toInts_eq hz
    subst ez
    have zl : zs.length = (cutL (M i) (some 1) none).length := by have := pm.length_eq; simpa using this
    have zb : ∀ x ∈ zs, 0 ≤ x ∧ x < 128 := fun x hx => by
      have := pm.mem_iff.mp (List.mem_map_of_mem (f := DV.int) hx)
      obtain ⟨y, hy, e⟩ := List.mem_map.mp this
      cases e
      exact (okM i).2 _ (cut_mem hy)
    generalize hT : dartsH D.length n M ++ (DO.lst (ls.map turnV) :: E) ++ [DO.lst ((cutL (M i) none (some 1)).map .int)] ++ [DO.lst ((cutL (M i) (some 1) none).map .int)] = T at *
    have g1 : (D3 ++ T ++ [DO.lst [], DO.lst (zs.map .int)])[(D1 ++ dartsH D.length n M ++ (DO.lst (ls.map turnV) :: E)).length]? = some (.lst ((cutL (M i) none (some 1)).map .int)) := by
      refine get_app ?_
      rw [← hT]
      have : D3 ++ (dartsH D.length n M ++ (DO.lst (ls.map turnV) :: E) ++ [DO.lst ((cutL (M i) none (some 1)).map .int)] ++ [DO.lst ((cutL (M i) (some 1) none).map .int)]) = (D3 ++ dartsH D.length n M ++ (DO.lst (ls.map turnV) :: E) ++ [DO.lst ((cutL (M i) none (some 1)).map .int)]) ++ [DO.lst ((cutL (M i) (some 1) none).map .int)] := by simp only [List.append_assoc]
      rw [this]
      refine get_app ?_
      refine get_one ?_
      simp only [List.length_append, eL3]
    have g2 : (D3 ++ T ++ [DO.lst [], DO.lst (zs.map .int)])[X.length + 1]? = some (.lst (zs.map .int)) := by
      rw [lX, ← List.length_append]
      exact get_two.2
    refine l_add g1 g2 (by rw [List.length_map, List.length_map, zl]; omega) ?_
    refine b_tupL get_new ?_
    refine ⟨ls.map turnV, ?_, by rw [List.length_map]; omega, hN _ (.inl ⟨D3, ls ++ [cutL (M i) none (some 1) ++ zs], E ++ [DO.lst ((cutL (M i) none (some 1)).map .int)] ++ [DO.lst ((cutL (M i) (some 1) none).map .int)] ++ [DO.lst [], DO.lst (zs.map .int)] ++ [DO.lst ((cutL (M i) none (some 1)).map .int ++ zs.map .int)], ?_, fr.trans f3, J3, by rw [List.length_append, hl]; rfl, fun ns hns => ?_⟩)⟩
    · have e : D3 ++ T ++ [DO.lst [], DO.lst (zs.map .int)] ++ [DO.lst ((cutL (M i) none (some 1)).map .int ++ zs.map .int)] = (D3 ++ dartsH D.length n M) ++ (DO.lst (ls.map turnV) :: (E ++ [DO.lst ((cutL (M i) none (some 1)).map .int)] ++ [DO.lst ((cutL (M i) (some 1) none).map .int)] ++ [DO.lst [], DO.lst (zs.map .int)] ++ [DO.lst ((cutL (M i) none (some 1)).map .int ++ zs.map .int)])) := by
        rw [← hT]; simp only [List.append_assoc, List.cons_append, List.nil_append]
      rw [e, lenB D rfl, List.getElem?_append_right (by rw [lenB D3 (eL3.trans eL)]; exact Nat.le_refl _), lenB D3 (eL3.trans eL), Nat.sub_self]; rfl
    · have e : D3 ++ T ++ [DO.lst [], DO.lst (zs.map .int)] ++ [DO.lst ((cutL (M i) none (some 1)).map .int ++ zs.map .int)] = (D3 ++ dartsH D.length n M) ++ (DO.lst (ls.map turnV) :: (E ++ [DO.lst ((cutL (M i) none (some 1)).map .int)] ++ [DO.lst ((cutL (M i) (some 1) none).map .int)] ++ [DO.lst [], DO.lst (zs.map .int)] ++ [DO.lst ((cutL (M i) none (some 1)).map .int ++ zs.map .int)])) := by
        rw [← hT]; simp only [List.append_assoc, List.cons_append, List.nil_append]
      rw [e, lenB D rfl, List.set_append_right _ _ (by rw [lenB D3 (eL3.trans eL)]; exact Nat.le_refl _), lenB D3 (eL3.trans eL), Nat.sub_self, List.map_append]
      simp only [List.set_cons_zero, List.map_cons, List.map_nil, turnV, List.map_append]
    · rcases List.mem_append.mp hns with h | h
      · exact ok ns h
      · rw [List.mem_singleton.mp h]
        refine ⟨?_, fun x hx => ?_⟩
        · rw [List.length_append, zl, cut_1, cut_r, List.length_take, List.length_drop]; omega
        · rcases List.mem_append.mp hx with hx | hx
          · exact (okM i).2 x (cut_mem hx)
          · exact zb x hx
  · rintro D' ⟨D1, ls, E, rfl, fr, J1, hl, ok⟩
    have eL := fr.1
    have d0 : (D1 ++ dartsH D.length n M)[D.length]? = some (.lst (refsV D.length n)) := by rw [← eL]; exact dartsH_0 _ _ _
    refine ⟨?_, ?_⟩
    · simp only [get_app (E := DO.lst (ls.map turnV) :: E) d0]
      show some (refsV D.length n)[n]? = _
      simp [refsV]
    refine b_tupL (xs := ls.map turnV) ?_ ?_
    · rw [lenB D rfl, List.getElem?_append_right (by rw [lenB D1 eL]; exact Nat.le_refl _), lenB D1 eL, Nat.sub_self]; rfl
    · rw [List.append_assoc]
      exact cut_frm J fr J1 (by simp only [wfV, wf_laid]) (k ls D1 ⟨hl, ok⟩ fr J1)
end K36
set_option Elab.async false
set_option linter.all false
set_option maxRecDepth 100000
set_option maxHeartbeats 4000000
namespace K36
open PySem PySem.Spec PyProof.Rows L2 Dl
variable {fn : Str → Option DSp} {gl : Str → Option DV}
/-- what stands in place of a turn -/
def Od (k : Nat) (D : DHp) (v : DV) : Prop := Vl k D 130000 5 v ∧ ∀ vs, v = .tup vs → vs.length ≤ 1000
def Ods (k : Nat) (D : DHp) (xs : List DV) : Prop := ∀ v ∈ xs, Od k D v
theorem Od.on {k : Nat} {D D1 : DHp} {v : DV} (h : Od k D v) (q : Keep k D D1) : Od k D1 v := ⟨h.1.on q, h.2⟩
theorem Ods.on {k : Nat} {D D1 : DHp} {v : List DV} (h : Ods k D v) (q : Keep k D D1) : Ods k D1 v := fun x hx => (h x hx).on q
theorem Ods.nil {k : Nat} {D : DHp} : Ods k D [] := fun v h => by cases h
theorem Ods.cons {k : Nat} {D : DHp} {v : DV} {vs : List DV} (h : Od k D v) (t : Ods k D vs) : Ods k D (v :: vs) := fun x hx => by
  rcases List.mem_cons.mp hx with rfl | hx
  · exact h
  · exact t x hx
theorem Ods.app {k : Nat} {D : DHp} {xs ys : List DV} (h : Ods k D xs) (t : Ods k D ys) : Ods k D (xs ++ ys) := fun x hx => by
  rcases List.mem_append.mp hx with hx | hx
  · exact h x hx
  · exact t x hx
/-- a tuple of few things -/
theorem Od.tup {k : Nat} {D : DHp} {es : List DV} (h : ∀ e ∈ es, Vl k D 300 1 e) (hl : es.length ≤ 400) : Od k D (.tup es) :=
  ⟨(Vl.tup h).mono (by omega) (by decide), fun vs e => by cases e; omega⟩
theorem Od.of {k : Nat} {D : DHp} {v : DV} (h : Vl k D 300 1 v) (n : isTupD v = false) : Od k D v :=
  ⟨h.mono (by decide) (by decide), fun vs e => by subst e; cases n⟩
theorem Od.lst {k l : Nat} {D : DHp} {ns : List Int} (h : TurnOk ns) (hk : k ≤ l) (e : D[l]? = some (.lst (ns.map .int))) : Od k D (.ref l) := by
  refine ⟨⟨.list (ns.map .int), Rd.lst hk e (Pus.ints ns), ?_, ?_, ?_⟩, fun vs e => by cases e⟩
  · obtain ⟨as, g1, g2, g3, g4⟩ := Vl.all (k := k) (D := D) (turn_items h)
    have ea : as = ns.map .int := by
      have := g1 D Keep.refl
      rw [pyFs_ints] at this; cases this; rfl
    subst ea
    rw [List.length_map] at g2
    have := h.1
    simp only [sz]; omega
  · obtain ⟨as, g1, g2, g3, g4⟩ := Vl.all (k := k) (D := D) (turn_items h)
    have ea : as = ns.map .int := by
      have := g1 D Keep.refl
      rw [pyFs_ints] at this; cases this; rfl
    subst ea
    simpa only [PyData.showable] using g3
  · simp only [PyData.depth, depth_ints]; decide
theorem sm_join : ∀ ts : List Str, (∀ t ∈ ts, ∀ c ∈ t.cps.toList, c < 16 ^ 8) → ∀ c ∈ (Str.join ", " ts).cps.toList, c < 16 ^ 8
  | [], _ => fun c hc => by cases hc
  | [x], h => h x List.mem_cons_self
  | x :: y :: r, h => fun c hc => by
    have ih := sm_join (y :: r) fun t ht => h t (List.mem_cons_of_mem _ ht)
    have hc : c ∈ ((x.cps ++ (Str.ofString ", ").cps) ++ (Str.join ", " (y :: r)).cps).toList := hc
    rw [Array.toList_append, Array.toList_append, List.mem_append, List.mem_append] at hc
    rcases hc with (hc | hc) | hc
    · exact h x List.mem_cons_self c hc
    · exact ofS_small _ c hc
    · exact ih c hc
theorem sm_ints : ∀ ns : List Int, ∀ t ∈ PyData.shownAll (ns.map .int), ∀ c ∈ t.cps.toList, c < 16 ^ 8
  | [] => fun t h => by simp [PyData.shownAll] at h
  | n :: ns => fun t h => by
    simp only [List.map_cons, PyData.shownAll, PyData.shown] at h
    rcases List.mem_cons.mp h with rfl | h
    · exact ofS_small _
    · exact sm_ints ns t h
theorem sm_tuple (ns : List Int) : ∀ c ∈ (PyData.shown (.tuple (ns.map .int))).cps.toList, c < 16 ^ 8 := by
  intro c hc
  simp only [PyData.shown] at hc
  unfold tupleText at hc
  have hc : c ∈ (((Str.ofString "(").cps ++ (Str.join ", " (PyData.shownAll (ns.map .int))).cps) ++ (Str.ofString (if (PyData.shownAll (ns.map .int)).length == 1 then ",)" else ")")).cps).toList := hc
  rw [Array.toList_append, Array.toList_append, List.mem_append, List.mem_append] at hc
  rcases hc with (hc | hc) | hc
  · exact ofS_small _ c hc
  · exact sm_join _ (sm_ints ns) c hc
  · exact ofS_small _ c hc
theorem turn_data {ns : List Int} (h : TurnOk ns) : sz (.tuple (ns.map .int)) ≤ 6000 ∧ (PyData.tuple (ns.map .int)).showable = true ∧ (PyData.tuple (ns.map .int)).depth ≤ 1 := by
  obtain ⟨a, h1, h2, h3, h4⟩ := turn_vl (k := 0) (D := []) h
  have := h1 [] Keep.refl
  unfold turnV py at this
  simp only [pyF, pyFs_ints, Option.map_some] at this
  cases this
  exact ⟨h2, h3, h4⟩
theorem Od.str {k : Nat} {D : DHp} {ns : List Int} (h : TurnOk ns) : Od k D (.str (PyData.shown (.tuple (ns.map .int)))) := by
  refine ⟨⟨.str _, Rd.str _, ?_, by simp only [PyData.showable], by simp only [PyData.depth]; decide⟩, fun vs e => by cases e⟩
  have h1 := PySem.StrLaws.reprText_len _ (sm_tuple ns)
  have h2 := shown_le (.tuple (ns.map .int))
  have h3 := (turn_data h).1
  simp only [sz]
  omega
theorem b_strT {ns : List Int} {D : DHp} {R : DR} (h : TurnOk ns) (r : R (.str (PyData.shown (.tuple (ns.map .int)))) D) : biSem .str [.tup (ns.map .int)] D R := by
  obtain ⟨h1, h2, h3⟩ := turn_data h
  have sl : sizeLine = 16777216 := rfl
  have h4 := shown_le (.tuple (ns.map .int))
  exact ⟨2, _, by simp only [py, pyF, pyFs_ints, Option.map_some], h2, by omega, by omega, r⟩
def sp_odd : DSp := fun ds D R _ => ∃ p a b ns m, ds = [.ref p, turnV ns, .int m] ∧ Jar p a b D ∧ TurnOk ns ∧ 0 ≤ m ∧ m ≤ 120 ∧
  ∀ l vs D1 E, Frm p a D D1 → Jar p a b D1 → D.length ≤ l → (D1 ++ E)[l]? = some (.lst vs) → 0 < vs.length → vs.length ≤ 100 → Ods D.length (D1 ++ E) vs → R (.ref l) (D1 ++ E)
theorem xor_bd {x : Int} (h : 0 ≤ x ∧ x < 128) : 0 ≤ Builtin.bitXor x 1 ∧ Builtin.bitXor x 1 < 128 := by
  have : ∀ n : Fin 128, 0 ≤ Builtin.bitXor ((n.val : Nat) : Int) 1 ∧ Builtin.bitXor ((n.val : Nat) : Int) 1 < 128 := by decide +kernel
  have e : x = ((x.toNat : Nat) : Int) := by omega
  rw [e]
  exact this ⟨x.toNat, by omega⟩
theorem cut_ok {ns : List Int} (h : TurnOk ns) (lo hi : Option Int) : TurnOk (cutL ns lo hi) :=
  ⟨Nat.le_trans (cut_len ns lo hi) h.1, fun x hx => h.2 x (cut_mem hx)⟩
theorem small1 {k : Nat} {D : DHp} {ns : List Int} (h : TurnOk ns) : ∀ e ∈ ns.map DV.int, Vl k D 300 1 e := fun e he => (turn_items h e he).mono (by decide) (by decide)
theorem mem_app {P : DV → Prop} {xs ys : List DV} (h : ∀ e ∈ xs, P e) (t : ∀ e ∈ ys, P e) : ∀ e ∈ xs ++ ys, P e := fun e he => by
  rcases List.mem_append.mp he with he | he
  · exact h e he
  · exact t e he
theorem mem_one {P : DV → Prop} {x : DV} (h : P x) : ∀ e ∈ [x], P e := fun e he => by rw [List.mem_singleton.mp he]; exact h
theorem rv_t {k : Nat} {ds : List DV} {D : DHp} {R : DR} (r : R (.tup (ds.drop k).reverse) D) : rvD k (.tup ds) D R := r
theorem Od.rint {k : Nat} {D : DHp} {l : Nat} {ds : List DV} (hk : k ≤ l) (e : D[l]? = some (.lst [])) : Od k D (.ref l) :=
  ⟨⟨.list [], Rd.lst hk e (Pus.ints []), by decide, by decide, by decide⟩, fun vs e => by cases e⟩
theorem Od.rdk {k : Nat} {D : DHp} {l : Nat} (hk : k ≤ l) (e : D[l]? = some (.dk [])) : Od k D (.ref l) :=
  ⟨⟨.dict [], Rd.dk0 hk e, by decide, by decide, by decide⟩, fun vs e => by cases e⟩
theorem Od.turn {k : Nat} {D : DHp} {ns : List Int} (h : TurnOk ns) : Od k D (.tup (ns.map .int)) := Od.tup (small1 h) (by rw [List.length_map]; have := h.1; omega)
theorem l_odd (hd : fn "_law_draw" = some sp_draw) (ho : fn "_law_one" = some sp_one) : ∀ ds D R Ex, sp_odd ds D R Ex → semSs ⟨fn, gl, fun c p _ D => Ex c p D⟩ c_l_odd_turns { nx := fun _ D' => FgtV D R .non D', rt := FgtV D R } (startD n_l_odd_turns ds) D := by
  rintro ds D R Ex ⟨p, a, b, ns, m, rfl, J, tk, m0, m1, k⟩
  have sl : sizeLine = 16777216 := rfl
  obtain ⟨lp, la, lb⟩ := J.lt
  simp only [c_l_odd_turns, n_l_odd_turns, turnV, startD, List.map_cons, List.map_nil, List.length_cons, List.length_nil, List.cons_append, List.nil_append, Nat.reduceAdd, Nat.reduceSub, List.replicate, semSs, semS, semE, semEs, semB, semT, semTs, semO, semC, semI, semKv, wipeD, List.getElem?_cons_zero, List.getElem?_cons_succ, Option.some.injEq, exists_eq_left', List.set_cons_zero, List.set_cons_succ, co_ne, co_eq, co_in, co_nin, DV.tup.injEq, DV.int.injEq, DV.ref.injEq, DV.bl.injEq, ITs.len, List.cons.injEq, and_assoc, exists_and_left, true_and, and_true]
  have nl := tk.1
  refine ⟨_, hd, b_lenT (i_add ⟨p, a, b, _, rfl, J, by omega, by rw [List.length_map]; omega, fun kk D1 k0 k1 f1 J1 => ?_⟩)⟩
  have e1 : D1.length = D.length := f1.1
  obtain ⟨lp1, la1, lb1⟩ := J1.lt
  refine ⟨_, ho, i_add ⟨by decide, ⟨by decide, i_pow (by decide) (by decide) (by decide) (i_pow (by decide) (by decide) (by decide) (i_sub ⟨_, hd, i_add ⟨p, a, b, _, rfl, J1.app, by omega, by omega, fun w D2 w0 w1 f2 J2 => ?_⟩⟩))⟩⟩⟩
  obtain ⟨D3, rfl, f3, J3⟩ := Frm.split lp1 la1 lb1 f2 J2
  obtain ⟨lp3, la3, lb3⟩ := J3.lt
  have e3 : D3.length = D.length := f3.1.trans e1
  refine ⟨by decide, p, a, b, _, _, rfl, J3.app.app, get_new, ?_, by simp, by simp, fun x D4 hx f4 J4 => ?_⟩
  · simp only [List.length_append]; omega
  rw [List.append_assoc] at f4
  obtain ⟨D5, rfl, f5, J5⟩ := Frm.split lp3 la3 lb3 f4 J4
  have e5 : D5.length = D.length := f5.1.trans e3
  have fr : Frm p a D D5 := (f1.trans f3).trans f5
  have g0 : (D5 ++ [DO.lst [.int 0]])[D1.length]? = some (.lst [.int 0]) := get_one (e5.trans e1.symm)
  have vx : Vl D.length (D5 ++ [DO.lst [.int 0]]) 300 1 x := by
    have i1 : ∀ z : Int, z.natAbs < 2 ^ 200 → Vl D.length (D5 ++ [DO.lst [.int 0]]) 300 1 (.int z) := fun z hz => (Vl.int hz (by decide) (by decide)).mono (by decide) (by decide)
    simp only [List.mem_cons, List.not_mem_nil, or_false] at hx
    rcases hx with rfl | rfl | rfl | rfl | rfl | rfl | rfl | rfl | rfl | rfl
    · exact i1 _ (by decide)
    · exact i1 _ (by omega)
    · exact i1 _ (by omega)
    · exact (Vl.lit _ _ Rd.non 4 (by decide) (by decide) (by decide)).mono (by decide) (by decide)
    · exact (Vl.lit _ _ (Rd.str _) 30 (by simp only [sz]; decide +kernel) (by decide) (by decide)).mono (by decide) (by decide)
    · exact (Vl.tup (es := []) (B := 4) (d := 0) fun e he => by cases he).mono (by decide) (by decide)
    · exact ⟨.list [.int 0], Rd.lst (by omega) g0 (Pus.ints [0]), by decide, by decide, by decide⟩
    · exact i1 _ (by decide)
    · exact i1 _ (by decide)
    · exact i1 _ (by omega)
  rw [← List.append_assoc]
  generalize hX0 : D5 ++ [DO.lst [.int 0]] ++ [_] = X0
  have vx0 : Vl D.length X0 300 1 x := by rw [← hX0]; exact vx.on Keep.app
  have pX0 : ∃ E, X0 = D5 ++ E := ⟨_, by rw [← hX0, List.append_assoc]⟩
  have lX0 : D.length ≤ X0.length := by obtain ⟨E, rfl⟩ := pX0; rw [List.length_append]; omega
  clear hX0
  refine b_lstT ?_
  generalize hX1 : X0 ++ [_] = X1
  have q1 : X1[X0.length]? = some (.lst (ns.map .int)) := by rw [← hX1]; exact get_new
  have K1 : Keep D.length X0 X1 := by rw [← hX1]; exact Keep.app
  have pX1 : ∃ E, X1 = D5 ++ E := by obtain ⟨E, rfl⟩ := pX0; exact ⟨_, by rw [← hX1, List.append_assoc]⟩
  clear hX1
  refine sl_t (sl_t (t_add ?_ (sl_t (t_add ?_ (sl_t (rv_t ?_))))))
  · simp only [map_cut, List.length_map]; have := cut_len ns (some 1) none; have := cut_len ns none (some 1); omega
  · simp only [map_cut, List.length_map]; have := cut_len ns none (some 1); omega
  refine ⟨kk, rfl, sl_t ⟨by decide, t_add ?_ (i_add ⟨_, rfl, sl_t (t_add ?_ ⟨by decide, ?_⟩)⟩)⟩⟩
  · simp only [map_cut, List.length_map, List.length_singleton]; have := cut_len ns none (some kk); omega
  · simp only [map_cut, List.length_map, List.length_singleton, List.length_append]; have := cut_len ns none (some kk); have := cut_len ns (some (kk + 1)) none; omega
  have cm : ∀ lo hi, ∀ e ∈ cutL (ns.map DV.int) lo hi, ∀ {H : DHp}, Vl D.length H 300 1 e := fun lo hi e he H => small1 tk e (cut_mem he)
  have cl : ∀ lo hi, (cutL (ns.map DV.int) lo hi).length ≤ 120 := fun lo hi => by have := cut_len (ns.map DV.int) lo hi; rw [List.length_map] at this; omega
  have nm : (ns.map DV.int).length ≤ 120 := by rw [List.length_map]; omega
  generalize hX2 : X1 ++ [_] = X2
  have K2 : Keep D.length X1 X2 := by rw [← hX2]; exact Keep.app
  have vx2 : ∀ {H : DHp}, Keep D.length X2 H → Vl D.length H 300 1 x := fun h => vx0.on ((K1.trans K2).trans h)
  have o1 : ∃ fs, X2[X1.length]? = some (.lst fs) ∧ Ods D.length X2 fs ∧ 0 < fs.length ∧ fs.length ≤ 6 := by
    subst hX2
    refine ⟨_, get_new, Ods.cons (Od.lst tk lX0 (get_app q1)) (Ods.cons (Od.tup (mem_app (fun e h => cm _ _ e h) fun e h => cm _ _ e h) ?_) (Ods.cons (Od.tup (mem_app (small1 tk) fun e h => cm _ _ e h) ?_) (Ods.cons (Od.tup (fun e h => cm _ _ e h) ?_)
      (Ods.cons (Od.tup (fun e h => small1 tk e (List.mem_of_mem_drop (List.mem_reverse.mp h))) ?_) (Ods.cons (Od.tup (mem_app (mem_app (fun e h => cm _ _ e h) (mem_one (vx2 Keep.refl))) fun e h => cm _ _ e h) ?_) Ods.nil))))), by simp, by simp⟩
    · rw [List.length_append]; have := cl (some 1) none; have := cl none (some 1); omega
    · rw [List.length_append]; have := cl none (some 1); omega
    · have := cl none (some (-1)); omega
    · rw [List.length_reverse, List.length_drop]; omega
    · rw [List.length_append, List.length_append, List.length_singleton]; have := cl none (some kk); have := cl (some (kk + 1)) none; omega
  obtain ⟨fs1, q2, o1, p1, l1⟩ := o1
  have lX1 : D.length ≤ X1.length := by obtain ⟨E, rfl⟩ := pX1; rw [List.length_append]; omega
  have pX2 : ∃ E, X2 = D5 ++ E := by obtain ⟨E, rfl⟩ := pX1; exact ⟨_, by rw [← hX2, List.append_assoc]⟩
  clear hX2
  refine ⟨_, rfl, ?_⟩
  refine lc_rule (fun i D' => ∃ os : List DV, D' = X2 ++ [.lst os] ∧ os.length = i ∧ ∀ e ∈ os, ∀ {H : DHp}, Vl D.length H 40 0 e) (ns.map DV.int).length ⟨[], rfl, rfl, fun e h => by cases h⟩ ?_ ?_
  · rintro i D' N hi ⟨os, rfl, hl, ok⟩ hN
    have hi' : i < ns.length := by simpa using hi
    refine ⟨_, by rw [List.getElem?_eq_getElem hi], ?_⟩
    rw [List.getElem_map]
    have bd := tk.2 _ (List.getElem_mem hi')
    simp only [if_true, startD, List.map_cons, List.map_nil, List.length_cons, List.length_nil, List.cons_append, List.nil_append, Nat.reduceAdd, Nat.reduceSub, List.replicate, semSs, semS, semE, semEs, semB, semT, semTs, semO, semC, semI, semKv, wipeD, List.getElem?_cons_zero, List.getElem?_cons_succ, Option.some.injEq, exists_eq_left', List.set_cons_zero, List.set_cons_succ, co_ne, co_eq, co_in, co_nin, DV.tup.injEq, DV.int.injEq, DV.ref.injEq, DV.bl.injEq, ITs.len, List.cons.injEq, and_assoc, exists_and_left, true_and, and_true]
    refine ⟨by decide, ⟨rfl, rfl, ?_⟩⟩
    refine ⟨_, rfl, ?_⟩
    have fin : ∀ e : DV, (∀ {H : DHp}, Vl D.length H 40 0 e) → ∃ acc, (X2 ++ [DO.lst os])[X2.length]? = some (.lst acc) ∧ acc.length < sizeLine ∧ N ((X2 ++ [DO.lst os]).set X2.length (.lst (acc ++ [e]))) := fun e he =>
      ⟨os, get_new, by omega, hN _ (.inl ⟨os ++ [e], by rw [set_one rfl], by rw [List.length_append, hl]; rfl, fun y hy => by
        rcases List.mem_append.mp hy with hy | hy
        · exact ok y hy
        · rw [List.mem_singleton.mp hy]; exact he⟩)⟩
    simp only [Bool.false_eq_true, if_false]
    split
    · exact Dl.eq_int (neg := false) (fin _ ⟨.bool _, Rd.bl _, by simp only [sz]; decide, by simp only [PyData.showable], by simp only [PyData.depth]; decide⟩)
    · exact fin _ (small_int bd)
  rintro D' ⟨os, rfl, hl, ok⟩
  refine ⟨by rw [List.getElem?_eq_none (Nat.le_refl _)], ?_⟩
  simp only [startD, List.map_cons, List.map_nil, List.length_cons, List.length_nil, List.cons_append, List.nil_append, Nat.reduceAdd, Nat.reduceSub, List.replicate, semSs, semS, semE, semEs, semB, semT, semTs, semO, semC, semI, semKv, wipeD, List.getElem?_cons_zero, List.getElem?_cons_succ, Option.some.injEq, exists_eq_left', List.set_cons_zero, List.set_cons_succ, co_ne, co_eq, co_in, co_nin, DV.tup.injEq, DV.int.injEq, DV.ref.injEq, DV.bl.injEq, ITs.len, List.cons.injEq, and_assoc, exists_and_left, true_and, and_true]
  refine b_tupL get_new ⟨by decide, t_add ?_ ⟨by decide, by decide, ?_⟩⟩
  · rw [List.length_singleton]; omega
  generalize hX3 : X2 ++ [_] = X3
  have K3 : Keep D.length X2 X3 := by rw [← hX3]; exact Keep.app
  have q3 : X3[X1.length]? = some (.lst fs1) := by rw [← hX3]; exact get_app q2
  have pX3 : ∃ E, X3 = D5 ++ E := by obtain ⟨E, rfl⟩ := pX2; exact ⟨_, by rw [← hX3, List.append_assoc]⟩
  clear hX3 hx f4 J4 f2 J2
  have ln : ∀ X : DHp, (∃ E, X = D5 ++ E) → D.length ≤ X.length := fun X ⟨E, h⟩ => by rw [h, List.length_append]; omega
  have pn : ∀ (X : DHp) (o : DO), (∃ E, X = D5 ++ E) → ∃ E, X ++ [o] = D5 ++ E := fun X o ⟨E, h⟩ => ⟨E ++ [o], by rw [h, List.append_assoc]⟩
  have lo : os.length ≤ 120 := by rw [hl]; exact nm
  generalize hX4 : X3 ++ [_] = X4
  have K4 : Keep D.length X3 X4 := by rw [← hX4]; exact Keep.app
  have o2 : ∃ fs, X4[X3.length]? = some (.lst fs) ∧ Ods D.length X4 fs ∧ fs.length ≤ 3 := by
    subst hX4
    refine ⟨_, get_new, Ods.cons (Od.tup (fun e he => (ok e he).mono (by decide) (by decide)) (by omega)) (Ods.cons (Od.tup (mem_app (small1 tk) (mem_one (vx2 (K3.trans K4)))) ?_) (Ods.cons ⟨(Vl.tup (mem_one (turn_vl tk))).mono (by simp) (by decide), fun vs e => by cases e; simp⟩ Ods.nil)), by simp⟩
    rw [List.length_append, List.length_singleton]; omega
  obtain ⟨fs2, q4, o2, l2⟩ := o2
  have q4' : X4[X1.length]? = some (.lst fs1) := by rw [← hX4]; exact get_app q3
  have pX4 : ∃ E, X4 = D5 ++ E := by rw [← hX4]; exact pn _ _ pX3
  clear hX4
  refine l_add q4' q4 (by omega) ?_
  generalize hX5 : X4 ++ [_] = X5
  have K5 : Keep D.length X4 X5 := by rw [← hX5]; exact Keep.app
  have q5 : X5[X4.length]? = some (.lst (fs1 ++ fs2)) := by rw [← hX5]; exact get_new
  have pX5 : ∃ E, X5 = D5 ++ E := by rw [← hX5]; exact pn _ _ pX4
  clear hX5
  have o5 : Ods D.length X5 (fs1 ++ fs2) := ((o1.on (K3.trans (K4.trans K5)))).app (o2.on K5)
  have c3 : ∀ (u v : List DV), u.length ≤ 240 → v.length ≤ 120 → u.length + v.length ≤ sizeLine := fun u v h1 h2 => by omega
  refine sl_t (sl_t (t_add (c3 _ _ (by have := cl none (some 1); omega) (cl _ _)) (sl_t (t_add (c3 _ _ ?_ (cl _ _)) (b_srtT ?_)))))
  · rw [List.length_append]; have := cl none (some 1); have := cl (some kk) none; omega
  generalize hX6 : X5 ++ [_] = X6
  have K6 : Keep D.length X5 X6 := by rw [← hX6]; exact Keep.app
  have q6 : X6[X4.length]? = some (.lst (fs1 ++ fs2)) := by rw [← hX6]; exact get_app q5
  have pX6 : ∃ E, X6 = D5 ++ E := by rw [← hX6]; exact pn _ _ pX5
  refine b_tupL (by rw [← hX6]; exact get_new) ?_
  clear hX6
  have ti : TurnOk (isort ns) := ⟨by rw [(isort_perm ns).length_eq]; exact nl, fun y hy => tk.2 y ((isort_perm ns).mem_iff.mp hy)⟩
  refine ⟨_, rfl, ?_⟩
  refine lc_rule (fun i D' => ∃ us : List Int, D' = X6 ++ [.lst (us.map .int)] ∧ us.length = i ∧ ∀ e ∈ us, 0 ≤ e ∧ e < 128) (ns.map DV.int).length ⟨[], rfl, rfl, fun e h => by cases h⟩ ?_ ?_
  · rintro i D' N hi ⟨us, rfl, ul, uk⟩ hN
    have hi' : i < ns.length := by simpa using hi
    refine ⟨_, by rw [List.getElem?_eq_getElem hi], ?_⟩
    rw [List.getElem_map]
    have bd := tk.2 _ (List.getElem_mem hi')
    simp only [if_true, startD, List.map_cons, List.map_nil, List.length_cons, List.length_nil, List.cons_append, List.nil_append, Nat.reduceAdd, Nat.reduceSub, List.replicate, semSs, semS, semE, semEs, semB, semT, semTs, semO, semC, semI, semKv, wipeD, List.getElem?_cons_zero, List.getElem?_cons_succ, Option.some.injEq, exists_eq_left', List.set_cons_zero, List.set_cons_succ, co_ne, co_eq, co_in, co_nin, DV.tup.injEq, DV.int.injEq, DV.ref.injEq, DV.bl.injEq, ITs.len, List.cons.injEq, and_assoc, exists_and_left, true_and, and_true]
    refine i_xor ⟨us.map .int, get_new, by rw [List.length_map]; omega, hN _ (.inl ⟨us ++ [Builtin.bitXor ns[i] 1], by rw [set_one rfl, List.map_append]; rfl, by rw [List.length_append, ul]; rfl, fun y hy => ?_⟩)⟩
    rcases List.mem_append.mp hy with hy | hy
    · exact uk y hy
    · rw [List.mem_singleton.mp hy]; exact xor_bd bd
  rintro D' ⟨us, rfl, ul, uk⟩
  have tu : TurnOk us := ⟨by rw [ul]; exact nm, uk⟩
  refine ⟨by rw [List.getElem?_eq_none (Nat.le_refl _)], ?_⟩
  refine b_tupL get_new ⟨by decide, ?_⟩
  generalize hX7 : X6 ++ [_] = X7
  have K7 : Keep D.length X6 X7 := by rw [← hX7]; exact Keep.app
  have q7 : X7[X4.length]? = some (.lst (fs1 ++ fs2)) := by rw [← hX7]; exact get_app q6
  have pX7 : ∃ E, X7 = D5 ++ E := by rw [← hX7]; exact pn _ _ pX6
  clear hX7
  generalize hX8 : X7 ++ [_] = X8
  have K8 : Keep D.length X7 X8 := by rw [← hX8]; exact Keep.app
  have q8 : X8[X4.length]? = some (.lst (fs1 ++ fs2)) := by rw [← hX8]; exact get_app q7
  have r8 : X8[X7.length]? = some (.dk []) := by rw [← hX8]; exact get_new
  have pX8 : ∃ E, X8 = D5 ++ E := by rw [← hX8]; exact pn _ _ pX7
  clear hX8
  generalize hX9 : X8 ++ [_] = X9
  have K9 : Keep D.length X8 X9 := by rw [← hX9]; exact Keep.app
  have q9 : X9[X4.length]? = some (.lst (fs1 ++ fs2)) := by rw [← hX9]; exact get_app q8
  have pX9 : ∃ E, X9 = D5 ++ E := by rw [← hX9]; exact pn _ _ pX8
  have o3 : ∃ fs, X9[X8.length]? = some (.lst fs) ∧ Ods D.length X9 fs ∧ fs.length ≤ 4 := by
    subst hX9
    refine ⟨_, get_new, Ods.cons (Od.tup (mem_app (mem_app (fun e h => cm _ _ e h) fun e h => cm _ _ e h) fun e h => cm _ _ e h) ?_) (Ods.cons (Od.turn ti) (Ods.cons (Od.turn tu) (Ods.cons (Od.rdk (ln _ pX7) (get_app r8)) Ods.nil))), by simp⟩
    rw [List.length_append, List.length_append]; have := cl none (some 1); have := cl (some kk) none; have := cl (some 1) (some kk); omega
  obtain ⟨fs3, r9, o3, l3⟩ := o3
  clear hX9
  refine l_add q9 r9 (by rw [List.length_append]; omega) ?_
  generalize hX10 : X9 ++ [_] = X10
  have K10 : Keep D.length X9 X10 := by rw [← hX10]; exact Keep.app
  have q10 : X10[X9.length]? = some (.lst (fs1 ++ fs2 ++ fs3)) := by rw [← hX10]; exact get_new
  have pX10 : ∃ E, X10 = D5 ++ E := by rw [← hX10]; exact pn _ _ pX9
  clear hX10
  have o10 : Ods D.length X10 (fs1 ++ fs2 ++ fs3) := (o5.on (K6.trans (K7.trans (K8.trans (K9.trans K10))))).app (o3.on K10)
  refine sl_t (i_add ⟨_, rfl, sl_t (t_add (c3 _ _ (by have := cl none (some kk); omega) (cl _ _)) ⟨by decide, t_add ?_ (sl_t (rv_t (t_add ?_ ⟨by decide, b_strT tk ⟨by decide, ?_⟩⟩)))⟩)⟩)
  · rw [List.length_singleton]; omega
  · rw [List.length_reverse, List.length_drop]; have := cl none (some 1); omega
  generalize hX11 : X10 ++ [_] = X11
  have K11 : Keep D.length X10 X11 := by rw [← hX11]; exact Keep.app
  have q11 : X11[X9.length]? = some (.lst (fs1 ++ fs2 ++ fs3)) := by rw [← hX11]; exact get_app q10
  have r11 : X11[X10.length]? = some (.lst []) := by rw [← hX11]; exact get_new
  have pX11 : ∃ E, X11 = D5 ++ E := by rw [← hX11]; exact pn _ _ pX10
  clear hX11
  generalize hX12 : X11 ++ [_] = X12
  have K12 : Keep D.length X11 X12 := by rw [← hX12]; exact Keep.app
  have q12 : X12[X9.length]? = some (.lst (fs1 ++ fs2 ++ fs3)) := by rw [← hX12]; exact get_app q11
  have pX12 : ∃ E, X12 = D5 ++ E := by rw [← hX12]; exact pn _ _ pX11
  have KA : Keep D.length X2 X12 := K3.trans (K4.trans (K5.trans (K6.trans (K7.trans (K8.trans (K9.trans (K10.trans (K11.trans K12))))))))
  have o4 : ∃ fs, X12[X11.length]? = some (.lst fs) ∧ Ods D.length X12 fs ∧ fs.length ≤ 8 := by
    subst hX12
    have ob : ∀ {HH : DHp} (y : DV) (a : PyData), Rd D.length HH y a → sz a ≤ 300 → a.showable = true → a.depth ≤ 1 → isTupD y = false → Od D.length HH y := fun {HH} y a h1 h2 h3 h4 h5 => Od.of ⟨a, h1, h2, h3, h4⟩ h5
    refine ⟨_, get_new, Ods.cons (ob _ _ Rd.non (by decide) (by decide) (by decide) rfl) (Ods.cons (ob _ _ (Rd.int 0) (by decide) (by decide) (by decide) rfl) (Ods.cons (ob _ _ (Rd.bl false) (by decide) (by decide) (by decide) rfl)
      (Ods.cons (Od.tup (mem_app (fun e h => cm _ _ e h) fun e h => cm _ _ e h) ?_) (Ods.cons (Od.tup (mem_app (mem_one (vx2 KA)) (small1 tk)) ?_) (Ods.cons (Od.tup (mem_app (fun e h => cm _ _ e h) fun e h => small1 tk e (List.mem_of_mem_drop (List.mem_reverse.mp h))) ?_)
        (Ods.cons (Od.rint (ds := []) (ln _ pX10) (get_app r11)) (Ods.cons (Od.str tk) Ods.nil))))))), by simp⟩
    · rw [List.length_append]; have := cl none (some kk); have := cl (some (kk + 1)) none; omega
    · rw [List.length_append, List.length_singleton]; omega
    · rw [List.length_append, List.length_reverse, List.length_drop]; have := cl none (some 1); omega
  obtain ⟨fs4, r12, o4, l4⟩ := o4
  clear hX12
  refine l_add q12 r12 (by rw [List.length_append, List.length_append]; omega) ?_
  obtain ⟨E, rfl⟩ := pX12
  rw [List.append_assoc]
  refine .inl (k _ (fs1 ++ fs2 ++ fs3 ++ fs4) D5 _ fr J5 (ln _ ⟨E, rfl⟩) (by rw [← List.append_assoc]; exact get_new) (by simp only [List.length_append]; omega) (by simp only [List.length_append]; omega) ?_)
  rw [← List.append_assoc]
  exact (o10.on (K11.trans (K12.trans Keep.app))).app (o4.on Keep.app)
end K36
set_option Elab.async false
set_option linter.all false
set_option maxRecDepth 100000
set_option maxHeartbeats 4000000
namespace K36
open PySem PySem.Spec PyProof.Rows L2 Dl
variable {fn : Str → Option DSp} {gl : Str → Option DV}
/-- what is tried for a laying -/
def Th (k : Nat) (D : DHp) (x : DV) : Prop := Vl k D 8200000 8 x ∧ Sm x
def Ths (k : Nat) (D : DHp) (xs : List DV) : Prop := ∀ v ∈ xs, Th k D v
theorem Th.on {k : Nat} {D D1 : DHp} {v : DV} (h : Th k D v) (q : Keep k D D1) : Th k D1 v := ⟨h.1.on q, h.2⟩
theorem Th.up {j k : Nat} {D : DHp} {v : DV} (h : Th k D v) (q : j ≤ k) : Th j D v := ⟨h.1.up q, h.2⟩
theorem Ths.on {k : Nat} {D D1 : DHp} {v : List DV} (h : Ths k D v) (q : Keep k D D1) : Ths k D1 v := fun x hx => (h x hx).on q
theorem Ths.nil {k : Nat} {D : DHp} : Ths k D [] := fun v h => by cases h
theorem Ths.cons {k : Nat} {D : DHp} {v : DV} {vs : List DV} (h : Th k D v) (t : Ths k D vs) : Ths k D (v :: vs) := fun x hx => by
  rcases List.mem_cons.mp hx with rfl | hx
  · exact h
  · exact t x hx
theorem Ths.app {k : Nat} {D : DHp} {xs ys : List DV} (h : Ths k D xs) (t : Ths k D ys) : Ths k D (xs ++ ys) := fun x hx => by
  rcases List.mem_append.mp hx with hx | hx
  · exact h x hx
  · exact t x hx
theorem Th.tup {k : Nat} {D : DHp} {es : List DV} (h : ∀ e ∈ es, Od k D e) (hl : es.length ≤ 62) : Th k D (.tup es) :=
  ⟨(Vl.tup fun e he => (h e he).1).mono (by omega) (by decide), fun fs e vs hv => by cases e; have := (h _ hv).2 vs rfl; omega⟩
theorem Th.flat {k : Nat} {D : DHp} {x : DV} {a : PyData} (h : Rd k D x a) (h2 : sz a ≤ 8200000) (h3 : a.showable = true) (h4 : a.depth ≤ 8) (h5 : isTupD x = false) : Th k D x :=
  ⟨⟨a, h, h2, h3, h4⟩, fun fs e => by subst e; cases h5⟩
theorem keep_split {L : Nat} {D1 D2 E : DHp} (h1 : D1.length = L) (h2 : D2.length = L) : Keep L (D1 ++ E) (D2 ++ E) := fun i o hi e => by
  rw [List.getElem?_append_right (by omega)] at e ⊢
  rw [h2, ← h1]; exact e
theorem cut_lo {α : Type} (xs : List α) {k : Int} (h : 0 ≤ k) : cutL xs none (some k) = xs.take k.toNat := by
  unfold cutL HT.sIx
  simp only [if_neg (show ¬ k < 0 by omega), Nat.sub_zero, List.drop_zero]
  by_cases c : k.toNat ≤ xs.length
  · rw [Nat.min_eq_left c]
  · rw [Nat.min_eq_right (by omega), List.take_length, List.take_of_length_le (by omega)]
theorem cut_hi {α : Type} (xs : List α) {k : Int} (h : 0 ≤ k) : cutL xs (some k) none = xs.drop k.toNat := by
  unfold cutL HT.sIx
  simp only [if_neg (show ¬ k < 0 by omega)]
  by_cases c : k.toNat ≤ xs.length
  · rw [Nat.min_eq_left c, List.take_of_length_le (by rw [List.length_drop]; omega)]
  · rw [Nat.min_eq_right (by omega), Nat.sub_self, List.take_zero, List.drop_of_length_le (by omega)]
def laidP (ls : List (List Int)) : PyData := .tuple (ls.map fun ns => .tuple (ns.map .int))
theorem laid_pu (ls : List (List Int)) : Pu (laidV ls) (laidP ls) := Pu.tup (Pus.map (fun ns => Pu.tup (Pus.ints ns)) ls)
theorem laid_data {n : Nat} {ls : List (List Int)} (h : LaidOk n ls) (hn : n ≤ 60) : sz (laidP ls) ≤ 400000 ∧ (laidP ls).showable = true ∧ (laidP ls).depth ≤ 2 := by
  obtain ⟨a, h1, h2, h3, h4⟩ := laid_vl (k := 0) (D := []) h hn
  have e1 := h1 [] Keep.refl
  have e2 := laid_pu ls (pyG 2 [])
  unfold py at e1
  rw [e2] at e1; cases e1
  exact ⟨h2, h3, h4⟩
def Mate (x : DV) : Prop := ∀ {k : Nat} {D : DHp}, Th k D x
def sp_like : DSp := fun ds D R _ => ∃ p a b n ts ls mate, ds = [.ref p, webV n ts, laidV ls, mate] ∧ Jar p a b D ∧ WebOk n ts ∧ LaidOk n ls ∧ (∀ {k : Nat} {D : DHp}, Th k D mate) ∧
  ∀ x D1 E, Frm p a D D1 → Jar p a b D1 → Th D.length (D1 ++ E) x → R x (D1 ++ E)
theorem l_like (hd : fn "_law_draw" = some sp_draw) (ho : fn "_law_one" = some sp_one) (hq : fn "_law_odd_turns" = some sp_odd) : ∀ ds D R Ex, sp_like ds D R Ex → semSs ⟨fn, gl, fun c p _ D => Ex c p D⟩ c_l_like { nx := fun _ D' => FgtV D R .non D', rt := FgtV D R } (startD n_l_like ds) D := by
  rintro ds D R Ex ⟨p, a, b, n, ts, ls, mate, rfl, J, W, L, mt, k⟩
  have sl : sizeLine = 16777216 := rfl
  obtain ⟨lp, la, lb⟩ := J.lt
  have n0 := W.1
  have n60 := W.2.1
  have t60 := W.2.2.1
  have ll := L.1
  simp only [c_l_like, n_l_like, laidV, webV, startD, List.map_cons, List.map_nil, List.length_cons, List.length_nil, List.cons_append, List.nil_append, Nat.reduceAdd, Nat.reduceSub, List.replicate, semSs, semS, semE, semEs, semB, semT, semTs, semO, semC, semI, semKv, wipeD, List.getElem?_cons_zero, List.getElem?_cons_succ, Option.some.injEq, exists_eq_left', List.set_cons_zero, List.set_cons_succ, co_ne, co_eq, co_in, co_nin, DV.tup.injEq, DV.int.injEq, DV.ref.injEq, DV.bl.injEq, ITs.len, List.cons.injEq, and_assoc, exists_and_left, true_and, and_true]
  have lm : (ls.map turnV).length = n := by rw [List.length_map, ll]
  have ti : ∀ {k : Nat} {H : DHp}, ∀ e ∈ ls.map turnV, Od k H e := fun {k H} e he => by
    obtain ⟨ns, hns, rfl⟩ := List.mem_map.mp he
    exact Od.turn (L.2 ns hns)
  refine ⟨_, hd, b_lenT (i_add ⟨p, a, b, _, rfl, J, by omega, by omega, fun at0 D1 k0 k1 f1 J1 => ?_⟩)⟩
  have e1 : D1.length = D.length := f1.1
  refine ⟨_, hd, p, a, b, 5, rfl, J1, by decide, by decide, fun g D2 g0 g1 f2 J2 => ?_⟩
  have e2 : D2.length = D.length := f2.1.trans e1
  have fr2 := f1.trans f2
  refine Dl.eq_int (neg := false) ?_
  refine ⟨_, rfl, ?_⟩
  by_cases hg : g = 0
  · simp only [hg, decide_true, if_true, Bool.false_eq_true, if_false]
    obtain ⟨ld1, ld2, ld3⟩ := laid_data L n60
    have pn : ∀ (X : DHp) (o : DO), (∃ E, X = D2 ++ E) → ∃ E, X ++ [o] = D2 ++ E := fun X o ⟨E, h⟩ => ⟨E ++ [o], by rw [h, List.append_assoc]⟩
    have lnX : ∀ X : DHp, (∃ E, X = D2 ++ E) → D.length ≤ X.length := fun X ⟨E, h⟩ => by rw [h, List.length_append]; omega
    have cl : ∀ lo hi, (cutL (ls.map turnV) lo hi).length ≤ 60 := fun lo hi => by have := cut_len (ls.map turnV) lo hi; omega
    have ca : (cutL (ls.map turnV) none (some at0)).length = at0.toNat := by rw [cut_lo _ k0, List.length_take]; omega
    have cb : (cutL (ls.map turnV) (some (at0 + 1)) none).length ≤ n - at0.toNat := by rw [cut_hi _ (by omega), List.length_drop]; omega
    have cc : (cutL (ls.map turnV) (some at0) none).length = n - at0.toNat := by rw [cut_hi _ k0, List.length_drop]; omega
    have ct : ∀ lo hi, ∀ e ∈ cutL (ls.map turnV) lo hi, ∀ {H : DHp}, Od D.length H e := fun lo hi e he H => ti e (cut_mem he)
    have em : ∀ {H : DHp}, Od D.length H (.tup []) := fun {H} => Od.tup (fun e he => by cases he) (by decide)
    refine b_lstT ?_
    generalize hX1 : D2 ++ [_] = X1
    have q1 : X1[D2.length]? = some (.lst (ls.map turnV)) := by rw [← hX1]; exact get_new
    have pX1 : ∃ E, X1 = D2 ++ E := ⟨_, hX1.symm⟩
    clear hX1
    refine ⟨by decide, by decide, t_add (by rw [lm]; simp; omega) (sl_t ⟨at0, rfl, sl_t (i_add ⟨_, rfl, sl_t (t_add (by have := cl none (some at0); have := cl (some (at0 + 1)) none; omega) (rv_t ⟨by decide, by decide, ?_⟩))⟩)⟩)⟩
    generalize hX2 : X1 ++ [_] = X2
    have o1 : ∃ fs, X2[X1.length]? = some (.lst fs) ∧ Ths D.length X2 fs ∧ fs.length ≤ 8 ∧ 0 < fs.length := by
      subst hX2
      refine ⟨_, get_new, Ths.cons ?_ (Ths.cons (Th.tup (mem_app ti (mem_one em)) (by rw [List.length_append, lm]; simp; omega)) (Ths.cons (Th.tup (fun e h => ct _ _ e h) (by have := cl none (some (-1)); omega)) (Ths.cons (Th.tup (mem_app (fun e h => ct _ _ e h) fun e h => ct _ _ e h) (by rw [List.length_append, ca]; omega))
        (Ths.cons (Th.tup (fun e h => ti e (List.mem_of_mem_drop (List.mem_reverse.mp h))) (by rw [List.length_reverse, List.length_drop]; omega)) (Ths.cons ⟨(Vl.tup (mem_one (laid_vl L n60))).mono (by simp) (by decide), fun fs e vs hv => ?_⟩ (Ths.cons (Th.flat (Rd.bl true) (by decide) (by decide) (by decide) rfl) (Ths.cons (Th.flat (Rd.str _) (by simp only [sz]; decide +kernel) (by decide) (by decide) rfl) Ths.nil))))))), by simp, by simp⟩
      · refine Th.flat (Rd.lst (by omega) (get_app q1) (Pus.map (fun ns => Pu.tup (Pus.ints ns)) ls)) ?_ ?_ ?_ rfl
        · unfold laidP at ld1; simp only [sz] at ld1 ⊢; omega
        · unfold laidP at ld2; simpa only [PyData.showable] using ld2
        · unfold laidP at ld3; simp only [PyData.depth] at ld3 ⊢; omega
      · cases e
        rw [List.mem_singleton] at hv
        cases hv
        rw [lm]; omega
    obtain ⟨fs1, q2, o1, l1, l1'⟩ := o1
    have pX2 : ∃ E, X2 = D2 ++ E := by rw [← hX2]; exact pn _ _ pX1
    clear hX2
    refine sl_t (sl_t (t_add (by have := cl none (some 1); have := cl (some 1) none; omega) ⟨by decide, by decide, ?_⟩))
    generalize hX3 : X2 ++ [_] = X3
    have K3 : Keep D.length X2 X3 := by rw [← hX3]; exact Keep.app
    have q3 : X3[X1.length]? = some (.lst fs1) := by rw [← hX3]; exact get_app q2
    have r3 : X3[X2.length]? = some (.dk []) := by rw [← hX3]; exact get_new
    have pX3 : ∃ E, X3 = D2 ++ E := by rw [← hX3]; exact pn _ _ pX2
    clear hX3
    generalize hX4 : X3 ++ [_] = X4
    have K4 : Keep D.length X3 X4 := by rw [← hX4]; exact Keep.app
    have q4 : X4[X1.length]? = some (.lst fs1) := by rw [← hX4]; exact get_app q3
    have r4 : X4[X3.length]? = some (.lst []) := by rw [← hX4]; exact get_new
    have r3' : X4[X2.length]? = some (.dk []) := by rw [← hX4]; exact get_app r3
    have pX4 : ∃ E, X4 = D2 ++ E := by rw [← hX4]; exact pn _ _ pX3
    clear hX4
    refine ⟨.inl 0, rfl, get_new, by decide, at0, rfl, ?_⟩
    rw [set_one rfl, show List.foldl (fun acc (kv : Key × DV) => putD acc kv.1 kv.2) [] [(.inl 0, .tup (ls.map turnV))] = [(.inl 0, .tup (ls.map turnV))] from rfl]
    generalize hX5 : X4 ++ [_] = X5
    have K5 : Keep D.length X4 X5 := by rw [← hX5]; exact Keep.app
    have q5 : X5[X1.length]? = some (.lst fs1) := by rw [← hX5]; exact get_app q4
    have r5 : X5[X4.length]? = some (.dk [(.inl 0, .tup (ls.map turnV))]) := by rw [← hX5]; exact get_new
    have r4' : X5[X3.length]? = some (.lst []) := by rw [← hX5]; exact get_app r4
    have r3'' : X5[X2.length]? = some (.dk []) := by rw [← hX5]; exact get_app r3'
    have pX5 : ∃ E, X5 = D2 ++ E := by rw [← hX5]; exact pn _ _ pX4
    clear hX5
    have c1a : (cutL (ls.map turnV) (some 1) none).length ≤ n - 1 := by rw [cut_r, List.length_drop]; omega
    have c1b : (cutL (ls.map turnV) none (some 1)).length ≤ 1 := by rw [cut_1]; exact List.length_take_le _ _
    refine sl_t ⟨by decide, by decide, t_add (by rw [List.length_singleton]; omega) ⟨at0, rfl, sl_t (t_add (by rw [List.length_append, List.length_singleton]; omega) (t_add (by omega) ⟨by decide, ?_⟩))⟩⟩
    generalize hX6 : X5 ++ [_] = X6
    have K6 : Keep D.length X5 X6 := by rw [← hX6]; exact Keep.app
    have q6 : X6[X1.length]? = some (.lst fs1) := by rw [← hX6]; exact get_app q5
    have o2 : ∃ fs, X6[X5.length]? = some (.lst fs) ∧ Ths D.length X6 fs ∧ fs.length ≤ 9 := by
      subst hX6
      refine ⟨_, get_new, Ths.cons (Th.tup (mem_app (fun e h => ct _ _ e h) fun e h => ct _ _ e h) (by rw [List.length_append]; omega)) (Ths.cons (Th.flat Rd.non (by decide) (by decide) (by decide) rfl) (Ths.cons (Th.flat (Rd.dk0 (lnX _ pX2) (get_app r3'')) (by decide) (by decide) (by decide) rfl) (Ths.cons (Th.tup (fun e he => by cases he) (by decide))
        (Ths.cons (Th.flat (Rd.lst (lnX _ pX3) (get_app r4') (Pus.ints [])) (by decide) (by decide) (by decide) rfl) (Ths.cons (Th.flat (Rd.dk1 (lnX _ pX4) (get_app r5) (laid_pu ls)) ?_ ?_ ?_ rfl) (Ths.cons mt (Ths.cons (Th.tup (mem_app (mem_app (fun e h => ct _ _ e h) (mem_one em)) fun e h => ct _ _ e h) (by rw [List.length_append, List.length_append, List.length_singleton, ca, cc]; omega))
          (Ths.cons ⟨(Vl.tup (B := 6000) (d := 1) fun e he => ?_).mono ?_ (by decide), fun fs e vs hv => ?_⟩ Ths.nil)))))))), by simp⟩
      · simp only [sz, szk, keyP]
        have : Nat.log2 (Int.natAbs 0) = 0 := by decide
        omega
      · simp only [PyData.showable, PyData.showableKv, keyP, ld2]; decide
      · simp only [PyData.depth, PyData.depthKv, keyP]; omega
      · have he' : e ∈ ls.map turnV := by rcases List.mem_append.mp he with h | h <;> exact h
        obtain ⟨ns, hns, rfl⟩ := List.mem_map.mp he'
        exact turn_vl (L.2 ns hns)
      · rw [List.length_append, lm]; omega
      · cases e
        have he' : DV.tup vs ∈ ls.map turnV := by rcases List.mem_append.mp hv with h | h <;> exact h
        have := (ti (k := 0) (H := []) _ he').2 vs rfl
        omega
    obtain ⟨fs2, r6, o2, l2⟩ := o2
    have pX6 : ∃ E, X6 = D2 ++ E := by rw [← hX6]; exact pn _ _ pX5
    clear hX6
    refine l_add q6 r6 (by omega) ?_
    have o6 : Ths D.length X6 (fs1 ++ fs2) := (o1.on (K3.trans (K4.trans (K5.trans K6)))).app o2
    have l6 := lnX _ pX6
    obtain ⟨E, rfl⟩ := pX6
    obtain ⟨lp2, la2, lb2⟩ := J2.lt
    refine ⟨_, ho, p, a, b, _, _, rfl, J2.app.app, get_new, by omega, by rw [List.length_append]; omega, by rw [List.length_append]; omega, fun v D' hv f' J' => ?_⟩
    rw [List.append_assoc] at f'
    obtain ⟨D3, rfl, f3, J3⟩ := Frm.split lp2 la2 lb2 f' J'
    refine .inl (k v D3 _ (fr2.trans f3) J3 (((o6 v hv).on (Keep.app (E := [DO.lst (fs1 ++ fs2)]))).on ?_))
    rw [List.append_assoc]
    exact keep_split e2 (f3.1.trans e2)
  · simp only [hg, decide_false, Bool.false_eq_true, if_false]
    obtain ⟨lp2, la2, lb2⟩ := J2.lt
    refine ⟨_, ho, by decide, p, a, b, _, _, rfl, J2.app, get_new, by omega, by simp, by simp, fun x D3 hx f3 J3 => ?_⟩
    obtain ⟨D4, rfl, f4, J4⟩ := Frm.split lp2 la2 lb2 f3 J3
    have e4 : D4.length = D.length := f4.1.trans e2
    obtain ⟨j, rfl, j0, j1⟩ : ∃ j : Int, x = .int j ∧ 0 ≤ j ∧ j ≤ 2 := by
      simp only [List.mem_cons, List.not_mem_nil, or_false] at hx
      rcases hx with rfl | rfl | rfl
      · exact ⟨1, rfl, by decide, by decide⟩
      · exact ⟨1, rfl, by decide, by decide⟩
      · exact ⟨2, rfl, by decide, by decide⟩
    refine ⟨j, rfl, by omega, by omega, ?_⟩
    refine for_rule (fun i δ D' => ∃ at1 od tn fs H1 E, δ = [some (.ref p), some (webV n ts), some (laidV ls), some mate, at1, od, some (.tup fs), tn] ∧ D' = H1 ++ E ∧ Frm p a D H1 ∧ Jar p a b H1 ∧ fs.length = n ∧ ∀ e ∈ fs, Od D.length (H1 ++ E) e) j.toNat
      ⟨_, none, none, ls.map turnV, D4, _, rfl, rfl, fr2.trans f4, J4, lm, ti⟩ ?_ ?_
    · rintro i δ D' N hi ⟨at1, od, tn, fs, H1, E, rfl, rfl, fr, J5, fl, fo⟩ hN
      have eH1 : H1.length = D.length := fr.1
      obtain ⟨lp5, la5, lb5⟩ := J5.lt
      refine ⟨_, rng_at hi, ?_⟩
      simp only [webV, laidV, startD, List.map_cons, List.map_nil, List.length_cons, List.length_nil, List.cons_append, List.nil_append, Nat.reduceAdd, Nat.reduceSub, List.replicate, semSs, semS, semE, semEs, semB, semT, semTs, semO, semC, semI, semKv, wipeD, List.getElem?_cons_zero, List.getElem?_cons_succ, Option.some.injEq, exists_eq_left', List.set_cons_zero, List.set_cons_succ, co_ne, co_eq, co_in, co_nin, DV.tup.injEq, DV.int.injEq, DV.ref.injEq, DV.bl.injEq, ITs.len, List.cons.injEq, and_assoc, exists_and_left, true_and, and_true]
      refine ⟨_, hd, b_lenT ⟨p, a, b, _, rfl, J5.app, by omega, by omega, fun av D5 a0 a1 f5 J6 => ?_⟩⟩
      obtain ⟨H2, rfl, f6, J7⟩ := Frm.split lp5 la5 lb5 f5 J6
      have eH2 : H2.length = D.length := f6.1.trans eH1
      obtain ⟨lp7, la7, lb7⟩ := J7.lt
      have hav : av.toNat < ls.length := by rw [lm] at a1; omega
      have hav' : (ls.map turnV)[av.toNat]? = some (turnV ls[av.toNat]) := by rw [List.getElem?_map, List.getElem?_eq_getElem hav]; rfl
      refine ⟨_, hq, ix_t (atI_nat a0 hav') (ix_t rfl (b_lenT (i_mulL (by decide) ⟨p, a, b, ls[av.toNat], _, rfl, J7.app, L.2 _ (List.getElem_mem hav), by omega, by rw [List.length_map]; omega, fun l vs D6 E2 f8 J8 hl hvs v0 v1 ov => ?_⟩)))⟩
      obtain ⟨H3, rfl, f9, J9⟩ := Frm.split lp7 la7 lb7 f8 J8
      have eH3 : H3.length = D.length := f9.1.trans eH2
      obtain ⟨lp9, la9, lb9⟩ := J9.lt
      refine ⟨av, rfl, sl_t ?_⟩
      refine ⟨_, ho, p, a, b, l, vs, rfl, J9.app.app, hvs, ?_, v0, by omega, fun v D7 hv f10 J10 => ?_⟩
      · rw [List.length_append] at hl; omega
      rw [List.append_assoc] at f10
      obtain ⟨H4, rfl, f11, J11⟩ := Frm.split lp9 la9 lb9 f10 J10
      have eH4 : H4.length = D.length := f11.1.trans eH3
      have av2 : av.toNat < fs.length := by omega
      have K1 : Keep D.length (H1 ++ E) (H4 ++ (E ++ E2)) := (keep_split eH1 eH4).trans (by rw [← List.append_assoc]; exact Keep.app)
      have K2 : Keep D.length (H3 ++ E ++ E2) (H4 ++ (E ++ E2)) := by rw [List.append_assoc]; exact keep_split eH3 eH4
      refine ⟨by decide, t_add ?_ (i_add ⟨_, rfl, sl_t (t_add ?_ ?_)⟩)⟩
      · rw [cut_lo _ a0, List.length_take, List.length_singleton]; omega
      · rw [cut_lo _ a0, cut_hi _ (by omega), List.length_append, List.length_take, List.length_drop, List.length_singleton]; omega
      refine hN _ _ (.inl ⟨_, _, _, _, H4, E ++ E2, rfl, rfl, ((fr.trans f6).trans f9).trans f11, J11, ?_, ?_⟩)
      · rw [cut_lo _ a0, cut_hi _ (by omega), List.length_append, List.length_append, List.length_take, List.length_drop, List.length_singleton]; omega
      · refine mem_app (mem_app (fun e he => (fo e (cut_mem he)).on K1) (mem_one ?_)) fun e he => (fo e (cut_mem he)).on K1
        have := (ov v hv)
        exact ⟨(this.1.up (by rw [List.length_append]; omega)).on K2, this.2⟩
    · rintro δ D' ⟨at1, od, tn, fs, H1, E, rfl, rfl, fr, J5, fl, fo⟩
      refine ⟨rng_end, ?_⟩
      simp only [startD, List.map_cons, List.map_nil, List.length_cons, List.length_nil, List.cons_append, List.nil_append, Nat.reduceAdd, Nat.reduceSub, List.replicate, semSs, semS, semE, semEs, semB, semT, semTs, semO, semC, semI, semKv, wipeD, List.getElem?_cons_zero, List.getElem?_cons_succ, Option.some.injEq, exists_eq_left', List.set_cons_zero, List.set_cons_succ, co_ne, co_eq, co_in, co_nin, DV.tup.injEq, DV.int.injEq, DV.ref.injEq, DV.bl.injEq, ITs.len, List.cons.injEq, and_assoc, exists_and_left, true_and, and_true]
      exact .inl (k _ H1 E fr J5 (Th.tup fo (by omega)))
end K36
set_option Elab.async false
set_option linter.all false
set_option maxRecDepth 100000
set_option maxHeartbeats 4000000
namespace K36
open PySem PySem.Spec PyProof.Rows L2 Dl
variable {fn : Str → Option DSp} {gl : Str → Option DV}
def cInner : ISs :=
  (.cons (.asg (.nm 6) (.call "_law_laid" (.cons (.var 1) (.cons (.var 5) .nil)))) <|
    .cons (.for_ (.nm 7) (.of (.bin .add (.lst (.cons (.var 6) (.cons (.var 3) .nil))) (.lc [("_law_step", 11)] (.nm 11) (.range1 (.int 6)) .no (.call "_law_like" (.cons (.var 1) (.cons (.var 5) (.cons (.var 6) (.cons (.var 3) .nil))))))))
      (.cons (.expr (.mt .lappend (.var 2) (.cons (.lst (.cons (.var 5) (.cons (.var 7) (.cons (.bi .repr (.cons (.var 7) .nil)) (.cons (.bi .repr (.cons (.call "_law_due" (.cons (.var 5) (.cons (.var 7) .nil))) .nil)) .nil))))) .nil))) <|
      .nil)) <|
    .cons (.asg (.nm 3) (.var 6)) <|
    .nil)
def cEnd : ISs :=
  (.cons (.for_ (.un (.cons (.nm 5) (.cons (.nm 7) (.cons (.nm 8) (.cons (.nm 9) .nil))))) (.of (.bin .add (.var 2) (.rv 0 (.var 2))))
    (.cons (.ife (.val (.cmp .ne (.bi .repr (.cons (.lst (.cons (.call "laying_error" (.cons (.var 5) (.cons (.var 7) .nil))) (.cons (.callk "laying_error" .nil ["value", "web"] (.cons (.var 7) (.cons (.var 5) .nil)) [1, 0]) .nil))) .nil)) (.bin .add (.bin .add (.bin .add (.bin .add (.str "[") (.var 9)) (.str ", ")) (.var 9)) (.str "]"))))
      (.cons (.ret (.bl false)) <|
      .nil)
      .nil) <|
    .cons (.ife (.val (.cmp .ne (.bi .repr (.cons (.var 7) .nil)) (.var 8)))
      (.cons (.ret (.bl false)) <|
      .nil)
      .nil) <|
    .nil)) <|
  .cons (.asg (.tp (.cons (.nm 5) (.cons (.nm 6) .nil))) (.tup (.cons (.tup (.cons (.int 3) (.cons (.tup (.cons (.tup (.cons (.int 0) (.cons (.int 1) .nil))) (.cons (.tup (.cons (.int 1) (.cons (.int 1) .nil))) .nil))) .nil))) (.cons (.tup (.cons (.tup (.cons (.int 0) .nil)) (.cons (.tup (.cons (.int 1) (.cons (.int 3) (.cons (.int 2) .nil)))) (.cons (.tup .nil) .nil)))) .nil)))) <|
  .cons (.asg (.nm 10) (.lst (.cons (.call "laying_error" (.cons (.var 5) (.cons (.var 6) .nil))) (.cons (.call "laying_error" (.cons (.var 5) (.cons (.tup (.cons (.tup (.cons (.int 0) .nil)) (.cons (.tup (.cons (.int 2) (.cons (.int 3) (.cons (.int 1) .nil)))) (.cons (.tup .nil) .nil)))) .nil))) (.cons (.call "laying_error" (.cons (.var 5) (.cons (.slc (.var 6) .no (.some (.int 2))) .nil))) .nil))))) <|
  .cons (.ret (.cmp .eq (.bi .repr (.cons (.lst (.cons (.var 10) (.cons (.glo "MAX_FAR") .nil))) .nil)) (.bi .repr (.cons (.lst (.cons (.lst (.cons .non (.cons (.tup (.cons (.int 1) (.cons (.str "turn") .nil))) (.cons (.tup (.cons .non (.cons (.str "laying") .nil))) .nil)))) (.cons (.int 60) .nil))) .nil)))) <|
  .nil)
theorem c_law_eq : c_law = (.cons (.asg (.nm 1) (.call "_law_jar" (.cons (.var 0) .nil))) <|
  .cons (.asg (.tp (.cons (.nm 2) (.cons (.nm 3) .nil))) (.tup (.cons (.lst .nil) (.cons (.tup (.cons (.tup .nil) .nil)) .nil)))) <|
  .cons (.for_ (.nm 4) (.range1 (.int 6))
    (.cons (.asg (.nm 5) (.call "_law_net" (.cons (.var 1) (.cons (.bin .add (.int 1) (.call "_law_draw" (.cons (.var 1) (.cons (.int 6) .nil)))) (.cons (.call "_law_draw" (.cons (.var 1) (.cons (.int 10) .nil))) .nil))))) <|
    .cons (.ife (.val (.cmp .eq (.var 4) (.int 5)))
      (.cons (.asg (.nm 5) (.call "_law_net" (.cons (.var 1) (.cons (.call "_law_one" (.cons (.var 1) (.cons (.lst (.cons (.int 1) (.cons (.int 2) (.cons (.int 60) .nil)))) .nil))) (.cons (.call "_law_one" (.cons (.var 1) (.cons (.lst (.cons (.int 0) (.cons (.int 60) .nil))) .nil))) .nil))))) <|
      .nil)
      .nil) <| cInner)) <| cEnd) := rfl
/-! ### what due tells, as data -/
def badP (ts : List (Int × Int)) (es : List DV) : Nat → Nat → PyData
  | 0, _ => .none
  | m + 1, i => if turnOk (dAt ts i ts.length) (es.getD i .non) = true then badP ts es m (i + 1) else .tuple [.int i, .str "turn"]
def errP (n : Nat) (ts : List (Int × Int)) (x : DV) : PyData := match x with
  | .tup es => if es.length = n then badP ts es n 0 else .tuple [.none, .str "laying"]
  | _ => .tuple [.none, .str "laying"]
theorem bad_pu (ts : List (Int × Int)) (es : List DV) : ∀ m i, Pu (badAt ts es m i) (badP ts es m i)
  | 0, i => fun g => by simp only [badAt, badP, pyF]
  | m + 1, i => by
    simp only [badAt, badP]
    split
    · exact bad_pu ts es m (i + 1)
    · exact fun g => by simp only [pyF, pyFs, Option.bind_some, Option.map_some]
theorem lay_pu : Pu (.tup [.non, .str "laying"]) (.tuple [.none, .str "laying"]) := fun g => by simp only [pyF, pyFs, Option.bind_some, Option.map_some]
theorem err_pu (n : Nat) (ts : List (Int × Int)) (x : DV) : Pu (errV n ts x) (errP n ts x) := by
  cases x with
  | tup es =>
    simp only [errV, errP]
    by_cases h : es.length = n
    · rw [if_pos h, if_pos h]; exact bad_pu ts _ _ _
    · rw [if_neg h, if_neg h]; exact lay_pu
  | _ => exact lay_pu
/-- small data -/
def Tiny (a : PyData) : Prop := sz a ≤ 300 ∧ a.showable = true ∧ a.depth ≤ 1
theorem lay_tiny : Tiny (.tuple [.none, .str "laying"]) := ⟨by simp only [sz, szs]; decide +kernel, by decide, by decide⟩
theorem bad_tiny (ts : List (Int × Int)) (es : List DV) : ∀ m i, m + i ≤ 60 → Tiny (badP ts es m i)
  | 0, i, _ => ⟨by simp only [badP, sz]; decide, by simp only [badP, PyData.showable], by simp only [badP, PyData.depth]; decide⟩
  | m + 1, i, h => by
    simp only [badP]
    split
    · exact bad_tiny ts es m (i + 1) (by omega)
    · have hl : (i : Int).natAbs.log2 < 8 := by
        by_cases z : (i : Int).natAbs = 0
        · rw [z]; decide
        · exact (Nat.log2_lt z).mpr (by omega)
      refine ⟨?_, ?_, by simp only [PyData.depth, PyData.depthAll]; decide⟩
      · simp only [sz, szs]
        have : (reprText "turn").length ≤ 20 := by decide +kernel
        omega
      · simp only [PyData.showable, PyData.showableAll, Bool.and_true, decide_eq_true_eq]; omega
theorem err_tiny {n : Nat} (hn : n ≤ 60) (ts : List (Int × Int)) (x : DV) : Tiny (errP n ts x) := by
  unfold errP
  split
  · split
    · exact bad_tiny ts _ _ _ (by omega)
    · exact lay_tiny
  · exact lay_tiny
/-! ### what is known -/
def Ent (k : Nat) (D : DHp) (r : Nat) : Prop := ∃ n ts x A, k ≤ r ∧ D[r]? = some (.lst [webV n ts, x, .str A.shown, .str (errP n ts x).shown]) ∧ WebOk n ts ∧ Sm x ∧ Rd k D x A ∧ sz A ≤ 8200000 ∧ A.showable = true ∧ A.depth ≤ 8
theorem Ent.on {k r : Nat} {D D1 : DHp} (h : Ent k D r) (q : Keep k D D1) : Ent k D1 r :=
  let ⟨n, ts, x, A, h1, h2, h3, h4, h5, h6⟩ := h
  ⟨n, ts, x, A, h1, q r _ h1 h2, h3, h4, h5.on q, h6⟩
structure St (p a b kn k : Nat) (D : DHp) (es : List Nat) : Prop where
  jar : Jar p a b D
  pk : p < k
  ak : a < k
  bk : b < k
  kk : kn < k
  na : kn ≠ a
  nb : kn ≠ b
  ln : k ≤ D.length
  at_ : D[kn]? = some (.lst (es.map .ref))
  ent : ∀ r ∈ es, Ent k D r
section
variable {p a b kn k : Nat} {D D' E : DHp} {es : List Nat}
theorem St.np (s : St p a b kn k D es) : kn ≠ p := s.jar.ne s.at_
theorem St.keep (s : St p a b kn k D es) (f : Frm p a D D') : Keep k D D' := fun i o hi e => by
  have := s.pk
  have := s.ak
  rw [f.2 i (by omega) (by omega)]; exact e
theorem St.frm (s : St p a b kn k D es) (f : Frm p a D D') (J : Jar p a b D') : St p a b kn k D' es :=
  ⟨J, s.pk, s.ak, s.bk, s.kk, s.na, s.nb, by rw [f.1]; exact s.ln, (f.2 kn s.np s.na).trans s.at_, fun r hr => (s.ent r hr).on (s.keep f)⟩
theorem St.app (s : St p a b kn k D es) : St p a b kn k (D ++ E) es :=
  ⟨s.jar.app, s.pk, s.ak, s.bk, s.kk, s.na, s.nb, by rw [List.length_append]; have := s.ln; omega, get_app s.at_, fun r hr => (s.ent r hr).on Keep.app⟩
theorem St.put (s : St p a b kn k D es) {r : Nat} (h : Ent k D r) : St p a b kn k (D.set kn (.lst (es.map .ref ++ [.ref r]))) (es ++ [r]) ∧ Keep k D (D.set kn (.lst (es.map .ref ++ [.ref r]))) := by
  have K : Keep k D (D.set kn (.lst (es.map .ref ++ [.ref r]))) := fun i o hi e => by
    have := s.kk
    rw [get_setN (by omega)]; exact e
  refine ⟨⟨?_, s.pk, s.ak, s.bk, s.kk, s.na, s.nb, by rw [List.length_set]; exact s.ln, by rw [List.map_append]; exact get_set s.at_, fun t ht => ?_⟩, K⟩
  · obtain ⟨dp, cl, bl, tn, n1, n2, n3, h1, h2, h3, rr⟩ := s.jar
    exact ⟨dp, cl, bl, tn, n1, n2, n3, (get_setN s.np).trans h1, (get_setN s.na).trans h2, (get_setN s.nb).trans h3, rr⟩
  · rcases List.mem_append.mp ht with ht | ht
    · exact (s.ent t ht).on K
    · rw [List.mem_singleton.mp ht]; exact h.on K
end
structure Mv (p a b kn k : Nat) (B D : DHp) : Prop where
  jar : Jar p a b D
  keep : Keep k B D
  kn : D[kn]? = B[kn]?
  ln : B.length ≤ D.length
theorem St.move {p a b kn k : Nat} {B D : DHp} {es : List Nat} (s : St p a b kn k B es) (m : Mv p a b kn k B D) : St p a b kn k D es :=
  ⟨m.jar, s.pk, s.ak, s.bk, s.kk, s.na, s.nb, by have := s.ln; have := m.ln; omega, m.kn.trans s.at_, fun r hr => (s.ent r hr).on m.keep⟩
theorem Jar.hi {p a b l : Nat} {D : DHp} {o : DO} (J : Jar p a b D) (h1 : l ≠ p) (h2 : l ≠ a) (h3 : l ≠ b) : Jar p a b (D.set l o) := by
  obtain ⟨dp, cl, bl, tn, n1, n2, n3, g1, g2, g3, rr⟩ := J
  exact ⟨dp, cl, bl, tn, n1, n2, n3, (get_setN h1).trans g1, (get_setN h2).trans g2, (get_setN h3).trans g3, rr⟩
theorem b_repr {k : Nat} {D : DHp} {x : DV} {A : PyData} {R : DR} (h : Rd k D x A) (h1 : sz A ≤ 8200000) (h2 : A.showable = true) (h3 : A.depth ≤ 8) (r : R (.str A.shown) D) : biSem .repr [x] D R := by
  have sl : sizeLine = 16777216 := rfl
  have := shown_le A
  exact ⟨2, A, h D Keep.refl, h2, by omega, by omega, r⟩
theorem l_inner {F : DEnds} {p a b kn k n : Nat} {D : DHp} {es : List Nat} {ts : List (Int × Int)} {mate sc : DV} {ex : Value → Option Nat → DSt → DHp → Prop} {x4 x6 x7 x8 x9 x10 x11 : Option DV}
    (hl : fn "_law_laid" = some sp_laid) (hk : fn "_law_like" = some sp_like) (hd : fn "_law_due" = some sp_err) (W : WebOk n ts) (mt : ∀ {k : Nat} {D : DHp}, Th k D mate) (s : St p a b kn k D es) (el : es.length ≤ 1000)
    (hN : ∀ x7 x11 D' es' ls, LaidOk n ls → St p a b kn k D' es' → es'.length ≤ es.length + 8 → F.nx [some sc, some (.ref p), some (.ref kn), some (laidV ls), x4, some (webV n ts), some (laidV ls), x7, x8, x9, x10, x11] D') :
    semSs ⟨fn, gl, ex⟩ cInner F [some sc, some (.ref p), some (.ref kn), some mate, x4, some (webV n ts), x6, x7, x8, x9, x10, x11] D := by
  have sl : sizeLine = 16777216 := rfl
  have n60 := W.2.1
  simp only [cInner, startD, List.map_cons, List.map_nil, List.length_cons, List.length_nil, List.cons_append, List.nil_append, Nat.reduceAdd, Nat.reduceSub, List.replicate, semSs, semS, semE, semEs, semB, semT, semTs, semO, semC, semI, semKv, wipeD, List.getElem?_cons_zero, List.getElem?_cons_succ, Option.some.injEq, exists_eq_left', List.set_cons_zero, List.set_cons_succ, co_ne, co_eq, co_in, co_nin, DV.tup.injEq, DV.int.injEq, DV.ref.injEq, DV.bl.injEq, ITs.len, List.cons.injEq, and_assoc, exists_and_left, true_and, and_true]
  refine ⟨_, hl, p, a, b, n, ts, rfl, s.jar, W, fun ls D1 L f1 J1 => ?_⟩
  have s1 := s.frm f1 J1
  have laT : ∀ {k : Nat} {D : DHp}, Th k D (laidV ls) := fun {k D} => Th.tup (fun e he => by
    obtain ⟨ns, hns, rfl⟩ := List.mem_map.mp he
    exact Od.turn (L.2 ns hns)) (by rw [List.length_map, L.1]; omega)
  simp only [startD, List.map_cons, List.map_nil, List.length_cons, List.length_nil, List.cons_append, List.nil_append, Nat.reduceAdd, Nat.reduceSub, List.replicate, semSs, semS, semE, semEs, semB, semT, semTs, semO, semC, semI, semKv, wipeD, List.getElem?_cons_zero, List.getElem?_cons_succ, Option.some.injEq, exists_eq_left', List.set_cons_zero, List.set_cons_succ, co_ne, co_eq, co_in, co_nin, DV.tup.injEq, DV.int.injEq, DV.ref.injEq, DV.bl.injEq, ITs.len, List.cons.injEq, and_assoc, exists_and_left, true_and, and_true]
  refine ⟨by decide, by decide, by decide, ?_⟩
  have pk := s.pk
  have ak := s.ak
  have bk := s.bk
  have kk := s.kk
  have ln1 := s1.ln
  generalize hB : D1 ++ [DO.lst [laidV ls, mate]] = B
  have sB : St p a b kn k B es := by rw [← hB]; exact s1.app
  have lB : B.length = D1.length + 1 := by rw [← hB]; simp
  have mB : B[D1.length]? = some (.lst [laidV ls, mate]) := by rw [← hB]; exact get_new
  refine lc_rule (fun i D' => ∃ vs, Mv p a b kn k B D' ∧ B.length < D'.length ∧ D'[B.length]? = some (.lst vs) ∧ vs.length = i ∧ ∀ v ∈ vs, Th (B.length + 1) D' v) 6 ⟨[], ⟨sB.jar.app, Keep.app, ?_, by rw [List.length_append]; omega⟩, by rw [List.length_append]; simp, get_new, rfl, fun v h => by cases h⟩ ?_ ?_
  · rw [List.getElem?_append_left (by omega)]
  · rintro i D' N hi ⟨vs, m, lt, ql, vl, vt⟩ hN
    refine ⟨_, rng_at (n := 6) hi, ?_⟩
    simp only [if_true, Ev.nox, startD, List.map_cons, List.map_nil, List.length_cons, List.length_nil, List.cons_append, List.nil_append, Nat.reduceAdd, Nat.reduceSub, List.replicate, semSs, semS, semE, semEs, semB, semT, semTs, semO, semC, semI, semKv, wipeD, List.getElem?_cons_zero, List.getElem?_cons_succ, Option.some.injEq, exists_eq_left', List.set_cons_zero, List.set_cons_succ, co_ne, co_eq, co_in, co_nin, DV.tup.injEq, DV.int.injEq, DV.ref.injEq, DV.bl.injEq, ITs.len, List.cons.injEq, and_assoc, exists_and_left, true_and, and_true]
    refine ⟨_, hk, p, a, b, n, ts, ls, mate, rfl, m.jar, W, L, mt, fun x D2 E f2 J2 th => ?_⟩
    have K2 : Keep k D' (D2 ++ E) := fun j o hj e => get_app ((f2.2 j (by omega) (by omega)).trans e)
    have ql2 : (D2 ++ E)[B.length]? = some (.lst vs) := K2 _ _ (by omega) ql
    refine ⟨vs, ql2, by omega, hN _ (.inl ⟨vs ++ [x], ⟨J2.app.hi (by omega) (by omega) (by omega), fun j o hj e => ?_, ?_, ?_⟩, ?_, get_set ql2, by rw [List.length_append, vl]; rfl, fun v hv => ?_⟩)⟩
    · have := get_lt e
      rw [get_setN (by omega)]
      exact K2 _ _ hj (m.keep _ _ hj e)
    · rw [get_setN (by omega), List.getElem?_append_left (by rw [f2.1]; have := get_lt ql; omega), f2.2 kn sB.np sB.na, m.kn]
    · rw [List.length_set, List.length_append, f2.1]; omega
    · rw [List.length_set, List.length_append, f2.1]; omega
    · have K3 : Keep (B.length + 1) (D2 ++ E) ((D2 ++ E).set B.length (.lst (vs ++ [x]))) := fun j o hj e => by rw [get_setN (by omega)]; exact e
      have K4 : Keep (B.length + 1) D' (D2 ++ E) := fun j o hj e => K2 j o (by omega) e
      rcases List.mem_append.mp hv with hv | hv
      · exact ((vt v hv).on K4).on K3
      · rw [List.mem_singleton.mp hv]
        exact (th.up (by omega)).on K3
  rintro D2 ⟨vs, m, lt, ql, vl, vt⟩
  refine ⟨rng_end (n := 6), ?_⟩
  have s2 := sB.move m
  refine l_add (m.keep _ _ (by omega) mB) ql (by simp; omega) ?_
  refine ⟨_, lst_at get_new, ?_⟩
  have ta : ∀ v ∈ [laidV ls, mate] ++ vs, Th k (D2 ++ [DO.lst ([laidV ls, mate] ++ vs)]) v := fun v hv => by
    rcases List.mem_append.mp hv with hv | hv
    · simp only [List.mem_cons, List.not_mem_nil, or_false] at hv
      rcases hv with rfl | rfl
      · exact laT
      · exact mt
    · exact ((vt v hv).up (by omega)).on Keep.app
  have l8 : ([laidV ls, mate] ++ vs).length = 8 := by simp [vl]
  have q0 : (D2 ++ [DO.lst ([laidV ls, mate] ++ vs)])[D2.length]? = some (.lst ([laidV ls, mate] ++ vs)) := get_new
  have l2 := s2.ln
  generalize [laidV ls, mate] ++ vs = al at ta l8 q0 ⊢
  refine for_rule (fun i δ D' => ∃ y es', δ = [some sc, some (.ref p), some (.ref kn), some mate, x4, some (webV n ts), some (laidV ls), y, x8, x9, x10, x11] ∧ St p a b kn k D' es' ∧ es'.length = es.length + i ∧ D'[D2.length]? = some (.lst al) ∧ ∀ v ∈ al, Th k D' v) al.length ⟨_, es, rfl, s2.app, rfl, q0, ta⟩ ?_ ?_
  · rintro i δ D' N hi ⟨y, es', rfl, s', el', qa, ta'⟩ hN
    refine ⟨al[i], by simp only [qa]; rw [List.getElem?_eq_getElem hi], ?_⟩
    simp only [startD, List.map_cons, List.map_nil, List.length_cons, List.length_nil, List.cons_append, List.nil_append, Nat.reduceAdd, Nat.reduceSub, List.replicate, semSs, semS, semE, semEs, semB, semT, semTs, semO, semC, semI, semKv, wipeD, List.getElem?_cons_zero, List.getElem?_cons_succ, Option.some.injEq, exists_eq_left', List.set_cons_zero, List.set_cons_succ, co_ne, co_eq, co_in, co_nin, DV.tup.injEq, DV.int.injEq, DV.ref.injEq, DV.bl.injEq, ITs.len, List.cons.injEq, and_assoc, exists_and_left, true_and, and_true]
    have tv := ta' _ (List.getElem_mem hi)
    obtain ⟨⟨A, r1, r2, r3, r4⟩, sm⟩ := tv
    obtain ⟨t1, t2, t3⟩ := err_tiny n60 ts al[i]
    refine ⟨⟨kn, _, rfl, s'.at_⟩, b_repr r1 r2 r3 r4 ⟨_, hd, n, ts, _, rfl, W, ⟨2, A, r1 D' Keep.refl⟩, sm, b_repr (k := k) (err_pu n ts al[i]).rd (by omega) t2 (by omega) ⟨by decide, _, get_app s'.at_, by rw [List.length_map]; omega, ?_⟩⟩⟩
    have en : Ent k (D' ++ [DO.lst [webV n ts, al[i], .str A.shown, .str (errP n ts al[i]).shown]]) D'.length := ⟨n, ts, al[i], A, s'.ln, get_new, W, sm, r1.on Keep.app, r2, r3, r4⟩
    obtain ⟨s3, K3⟩ := s'.app.put en
    exact hN _ _ (.inl ⟨_, _, rfl, s3, by rw [List.length_append, el']; rfl, K3 _ _ l2 (get_app qa), fun v hv => ((ta' v hv).on Keep.app).on K3⟩)
  · rintro δ D' ⟨y, es', rfl, s', el', qa, ta'⟩
    refine ⟨by simp only [qa]; rw [List.getElem?_eq_none (Nat.le_refl _)], ?_⟩
    simp only [startD, List.map_cons, List.map_nil, List.length_cons, List.length_nil, List.cons_append, List.nil_append, Nat.reduceAdd, Nat.reduceSub, List.replicate, semSs, semS, semE, semEs, semB, semT, semTs, semO, semC, semI, semKv, wipeD, List.getElem?_cons_zero, List.getElem?_cons_succ, Option.some.injEq, exists_eq_left', List.set_cons_zero, List.set_cons_succ, co_ne, co_eq, co_in, co_nin, DV.tup.injEq, DV.int.injEq, DV.ref.injEq, DV.bl.injEq, ITs.len, List.cons.injEq, and_assoc, exists_and_left, true_and, and_true]
    exact hN _ _ _ es' ls L s' (by omega)
end K36
set_option Elab.async false
set_option linter.all false
set_option maxRecDepth 100000
set_option maxHeartbeats 4000000
namespace K36
open PySem PySem.Spec PyProof.Rows L2 Dl
variable {fn : Str → Option DSp} {gl : Str → Option DV}
theorem two_text (s : Str) : listText [s, s] = ((("[" ++ s : Str) ++ (", " : Str)) ++ s) ++ ("]" : Str) := by
  show (((("[" : Str) ++ (Str.ofString "") ++ s) ++ (Str.ofString ", ") ++ s) ++ ("]" : Str) : Str) = _
  rw [show Str.ofString "" = Str.empty from rfl, Str.append_empty]
/-! ### the shown example -/
def exT : List (Int × Int) := [(0, 1), (1, 1)]
def exA : DV := .tup [.tup [.int 0], .tup [.int 1, .int 3, .int 2], .tup []]
def exB : DV := .tup [.tup [.int 0], .tup [.int 2, .int 3, .int 1], .tup []]
def exC : DV := .tup [.tup [.int 0], .tup [.int 1, .int 3, .int 2]]
theorem exOk : WebOk 3 exT := ⟨by decide, by decide, by decide, by decide⟩
theorem is_eq {a b : List Int} (h : a.Perm b) (o : b.Pairwise (· ≤ ·)) : isort a = b := PySem.W.ksm_same ((isort_perm a).trans h) (isort_ord a) o
theorem iT0 : turnOk (dAt exT (0 : Nat) exT.length) (.tup [.int 0]) = true := by
  have h : isort [0] = [0] := is_eq (by decide) (by decide)
  show (decide (isort [0] = dAt exT 0 2) && decide (List.take 1 [0] = (dAt exT 0 2).take 1)) = true
  rw [h]; decide
theorem iT1 : turnOk (dAt exT (1 : Nat) exT.length) (.tup [.int 1, .int 3, .int 2]) = true := by
  have h : isort [1, 3, 2] = [1, 2, 3] := is_eq (by decide) (by decide)
  show (decide (isort [1, 3, 2] = dAt exT 1 2) && decide (List.take 1 [1, 3, 2] = (dAt exT 1 2).take 1)) = true
  rw [h]; decide
theorem iT2 : turnOk (dAt exT (2 : Nat) exT.length) (.tup []) = true := by
  have h : isort [] = [] := is_eq (by decide) (by decide)
  show (decide (isort [] = dAt exT 2 2) && decide (List.take 1 [] = (dAt exT 2 2).take 1)) = true
  rw [h]; decide
theorem iT3 : turnOk (dAt exT (1 : Nat) exT.length) (.tup [.int 2, .int 3, .int 1]) = false := by
  show (decide (isort [2, 3, 1] = dAt exT 1 2) && decide (List.take 1 [2, 3, 1] = (dAt exT 1 2).take 1)) = false
  rw [show decide (List.take 1 [(2 : Int), 3, 1] = (dAt exT 1 2).take 1) = false by decide, Bool.and_false]
theorem evA : errV 3 exT exA = .non := by
  show (if turnOk (dAt exT (0 : Nat) exT.length) (.tup [.int 0]) = true then (if turnOk (dAt exT (1 : Nat) exT.length) (.tup [.int 1, .int 3, .int 2]) = true then (if turnOk (dAt exT (2 : Nat) exT.length) (.tup []) = true then DV.non else .tup [.int ((2 : Nat) : Int), .str "turn"]) else .tup [.int ((1 : Nat) : Int), .str "turn"]) else .tup [.int ((0 : Nat) : Int), .str "turn"]) = _
  rw [if_pos iT0, if_pos iT1, if_pos iT2]
theorem evB : errV 3 exT exB = .tup [.int 1, .str "turn"] := by
  show (if turnOk (dAt exT (0 : Nat) exT.length) (.tup [.int 0]) = true then (if turnOk (dAt exT (1 : Nat) exT.length) (.tup [.int 2, .int 3, .int 1]) = true then (if turnOk (dAt exT (2 : Nat) exT.length) (.tup []) = true then DV.non else .tup [.int ((2 : Nat) : Int), .str "turn"]) else .tup [.int ((1 : Nat) : Int), .str "turn"]) else .tup [.int ((0 : Nat) : Int), .str "turn"]) = _
  rw [if_pos iT0, if_neg (by rw [iT3]; decide)]; rfl
theorem evC : errV 3 exT exC = .tup [.non, .str "laying"] := rfl
theorem exTy {D : DHp} {x : DV} {a : PyData} (h : Pu x a) : Ty D x := ⟨2, a, h _⟩
theorem puA : Pu exA (.tuple [.tuple [.int 0], .tuple [.int 1, .int 3, .int 2], .tuple []]) := fun g => by simp only [exA, pyF, pyFs, Option.bind_some, Option.map_some]
theorem puB : Pu exB (.tuple [.tuple [.int 0], .tuple [.int 2, .int 3, .int 1], .tuple []]) := fun g => by simp only [exB, pyF, pyFs, Option.bind_some, Option.map_some]
theorem puC : Pu exC (.tuple [.tuple [.int 0], .tuple [.int 1, .int 3, .int 2]]) := fun g => by simp only [exC, pyF, pyFs, Option.bind_some, Option.map_some]
theorem smA : Sm exA := fun es he vs hv => by
  injection he with he; subst he
  simp only [List.mem_cons, DV.tup.injEq, List.not_mem_nil, or_false] at hv
  rcases hv with rfl | rfl | rfl <;> decide
theorem smB : Sm exB := fun es he vs hv => by
  injection he with he; subst he
  simp only [List.mem_cons, DV.tup.injEq, List.not_mem_nil, or_false] at hv
  rcases hv with rfl | rfl | rfl <;> decide
theorem smC : Sm exC := fun es he vs hv => by
  injection he with he; subst he
  simp only [List.mem_cons, DV.tup.injEq, List.not_mem_nil, or_false] at hv
  rcases hv with rfl | rfl <;> decide
def exP : PyData := .list [.list [.none, .tuple [.int 1, .str "turn"], .tuple [.none, .str "laying"]], .int 60]
theorem ex_rd {D : DHp} {l m : Nat} (h1 : D[l]? = some (.lst [.ref m, .int 60])) (h2 : D[m]? = some (.lst [.non, .tup [.int 1, .str "turn"], .tup [.non, .str "laying"]])) : Rd 0 D (.ref l) exP := fun D' q => by
  have e1 := q _ _ (Nat.zero_le _) h1
  have e2 := q _ _ (Nat.zero_le _) h2
  show pyG 2 D' l = _
  rw [pyG_lst e1]
  simp only [pyFs, pyF, pyG_lst e2, Option.bind_some, Option.map_some, exP]
theorem ex_sz : sz exP ≤ 8200000 := by simp only [exP, sz, szs]; decide +kernel
theorem l_end {p a b kn k : Nat} {D : DHp} {es : List Nat} {F : DEnds} {x0 x3 x4 x5 x6 x7 x8 x9 x10 x11 : Option DV}
    (he : fn "laying_error" = some sp_err) (hm : gl "MAX_FAR" = some (.int 60)) (s : St p a b kn k D es) (el : es.length ≤ 1000)
    (rt0 : ∀ D', F.rt (.bl true) D') :
    semSs ⟨fn, gl, ex⟩ cEnd F [x0, some (.ref p), some (.ref kn), x3, x4, x5, x6, x7, x8, x9, x10, x11] D := by
  have sl : sizeLine = 16777216 := rfl
  simp only [cEnd, startD, List.map_cons, List.map_nil, List.length_cons, List.length_nil, List.cons_append, List.nil_append, Nat.reduceAdd, Nat.reduceSub, List.replicate, semSs, semS, semE, semEs, semB, semT, semTs, semO, semC, semI, semKv, wipeD, List.getElem?_cons_zero, List.getElem?_cons_succ, Option.some.injEq, exists_eq_left', List.set_cons_zero, List.set_cons_succ, co_ne, co_eq, co_in, co_nin, DV.tup.injEq, DV.int.injEq, DV.ref.injEq, DV.bl.injEq, ITs.len, List.cons.injEq, and_assoc, exists_and_left, true_and, and_true]
  refine ⟨_, s.at_, ?_⟩
  have s1 : St p a b kn k (D ++ [DO.lst (List.drop 0 (es.map DV.ref)).reverse]) es := s.app
  refine l_add s1.at_ get_new (by simp; omega) ?_
  refine ⟨_, lst_at get_new, ?_⟩
  generalize hX : D ++ [DO.lst (List.drop 0 (es.map DV.ref)).reverse] = X at s1 ⊢
  generalize hrs : es.map DV.ref ++ (List.drop 0 (es.map DV.ref)).reverse = rs
  have hr : ∀ v ∈ rs, ∃ r ∈ es, v = .ref r := fun v hv => by
    rw [← hrs] at hv
    rcases List.mem_append.mp hv with h | h
    · obtain ⟨r, h1, h2⟩ := List.mem_map.mp h; exact ⟨r, h1, h2.symm⟩
    · rw [List.drop_zero, List.mem_reverse] at h
      obtain ⟨r, h1, h2⟩ := List.mem_map.mp h; exact ⟨r, h1, h2.symm⟩
  have s2 : St p a b kn k (X ++ [DO.lst rs]) es := s1.app
  have q0 : (X ++ [DO.lst rs])[X.length]? = some (.lst rs) := get_new
  have lX := s1.ln
  refine for_rule (fun i δ D' => ∃ y5 y7 y8 y9, δ = [x0, some (.ref p), some (.ref kn), x3, x4, y5, x6, y7, y8, y9, x10, x11] ∧ St p a b kn k D' es ∧ D'[X.length]? = some (.lst rs)) rs.length ⟨_, _, _, _, rfl, s2, q0⟩ ?_ ?_
  · rintro i δ D' N hi ⟨y5, y7, y8, y9, rfl, s', qa⟩ hN
    refine ⟨rs[i], by simp only [qa]; rw [List.getElem?_eq_getElem hi], ?_⟩
    obtain ⟨r, hr1, hr2⟩ := hr _ (List.getElem_mem hi)
    rw [hr2]
    obtain ⟨n, ts, x, A, h1, h2, W, sm, r1, r2, r3, r4⟩ := s'.ent r hr1
    obtain ⟨t1, t2, t3⟩ := err_tiny W.2.1 ts x
    have sl1 := shown_le (errP n ts x)
    refine ⟨r, rfl, _, h2, ?_⟩
    simp only [startD, List.map_cons, List.map_nil, List.length_cons, List.length_nil, List.cons_append, List.nil_append, Nat.reduceAdd, Nat.reduceSub, List.replicate, semSs, semS, semE, semEs, semB, semT, semTs, semO, semC, semI, semKv, wipeD, List.getElem?_cons_zero, List.getElem?_cons_succ, Option.some.injEq, exists_eq_left', List.set_cons_zero, List.set_cons_succ, co_ne, co_eq, co_in, co_nin, DV.tup.injEq, DV.int.injEq, DV.ref.injEq, DV.bl.injEq, ITs.len, List.cons.injEq, and_assoc, exists_and_left, true_and, and_true]
    refine ⟨_, he, n, ts, x, rfl, W, ⟨2, A, r1 D' Keep.refl⟩, sm, ?_⟩
    refine ⟨_, he, rfl, _, rfl, ?_⟩
    refine ⟨n, ts, x, rfl, W, ⟨2, A, r1 D' Keep.refl⟩, sm, ?_⟩
    refine ⟨by decide, ?_⟩
    have pe := err_pu n ts x
    generalize errV n ts x = ev at pe ⊢
    generalize errP n ts x = P at pe t1 t2 t3 sl1 ⊢
    have rl : Rd k (D' ++ [DO.lst [ev, ev]]) (.ref D'.length) (.list [P, P]) := Rd.lst s'.ln get_new fun g => by simp only [pyFs, pe g, Option.bind_some, Option.map_some]
    refine b_repr rl (by simp only [sz, szs]; omega) (by simp only [PyData.showable, PyData.showableAll, t2, Bool.and_self]) (by simp only [PyData.depth, PyData.depthAll]; omega) ?_
    have c1 : (Str.ofString "[").length = 1 := rfl
    have c2 : (Str.ofString ", ").length = 2 := rfl
    have c3 : (Str.ofString "]").length = 1 := rfl
    refine s_add (by omega) (s_add (by rw [strLen_append]; omega) (s_add (by rw [strLen_append, strLen_append]; omega) (s_add (by rw [strLen_append, strLen_append, strLen_append]; omega) (eq_str (neg := true) ?_))))
    refine ⟨_, rfl, ?_⟩
    rw [show (PyData.list [P, P]).shown = _ from two_text P.shown]
    simp only [decide_true, Bool.not_true, if_true, Bool.false_eq_true, if_false]
    refine b_repr (r1.on Keep.app) r2 r3 r4 (eq_str (neg := true) ?_)
    refine ⟨_, rfl, ?_⟩
    simp only [decide_true, Bool.not_true, if_true, Bool.false_eq_true, if_false]
    exact hN _ _ (.inl ⟨_, _, _, _, rfl, s'.app, get_app qa⟩)
  · rintro δ D' ⟨y5, y7, y8, y9, rfl, s', qa⟩
    refine ⟨by simp only [qa]; rw [List.getElem?_eq_none (Nat.le_refl _)], ?_⟩
    simp only [startD, List.map_cons, List.map_nil, List.length_cons, List.length_nil, List.cons_append, List.nil_append, Nat.reduceAdd, Nat.reduceSub, List.replicate, semSs, semS, semE, semEs, semB, semT, semTs, semO, semC, semI, semKv, wipeD, List.getElem?_cons_zero, List.getElem?_cons_succ, Option.some.injEq, exists_eq_left', List.set_cons_zero, List.set_cons_succ, co_ne, co_eq, co_in, co_nin, DV.tup.injEq, DV.int.injEq, DV.ref.injEq, DV.bl.injEq, ITs.len, List.cons.injEq, and_assoc, exists_and_left, true_and, and_true]
    have d2 : (2 : Nat) ≤ sizeLine := by decide
    have d1 : (1 : Nat) ≤ sizeLine := by decide
    have d3 : (3 : Nat) ≤ sizeLine := by decide
    have d0 : (0 : Nat) ≤ sizeLine := by decide
    refine ⟨d2, d2, d2, d2, d1, d3, d0, d3, d2, _, he, 3, exT, exA, rfl, exOk, exTy puA, smA, ?_⟩
    refine ⟨_, he, d1, d3, d0, d3, 3, exT, exB, rfl, exOk, exTy puB, smB, ?_⟩
    refine ⟨_, he, ?_⟩
    refine sl_t ?_
    refine ⟨3, exT, exC, rfl, exOk, exTy puC, smC, ?_⟩
    refine ⟨d3, _, hm, d2, ?_⟩
    rw [evA, evB, evC]
    refine b_repr (ex_rd get_new (get_app get_new)) ex_sz (by decide) (by decide) ?_
    refine ⟨d2, d2, d3, d2, ?_⟩
    refine b_repr (ex_rd get_new (get_app get_new)) ex_sz (by decide) (by decide) (eq_str (neg := false) ?_)
    simp only [decide_true, Bool.false_eq_true, if_false]
    exact rt0 _
end K36
set_option Elab.async false
set_option linter.all false
set_option maxRecDepth 100000
set_option maxHeartbeats 4000000
namespace K36
open PySem PySem.Spec PyProof.Rows L2 Dl
variable {fn : Str → Option DSp} {gl : Str → Option DV}
def sp_law : DSp := fun ds D R _ => ∃ ns : List Int, ds = [.frl ns] ∧ ns.length ≤ 63 ∧ D = [] ∧ ∀ D', R (.bl true) D'
theorem laid_th {n : Nat} {ls : List (List Int)} (L : LaidOk n ls) (hn : n ≤ 60) {k : Nat} {D : DHp} : Th k D (laidV ls) := Th.tup (fun e he => by
  obtain ⟨ns, hns, rfl⟩ := List.mem_map.mp he
  exact Od.turn (L.2 ns hns)) (by rw [List.length_map, L.1]; omega)
theorem l_law (h1 : fn "_law_jar" = some sp_jar) (h2 : fn "_law_draw" = some sp_draw) (h3 : fn "_law_one" = some sp_one) (h4 : fn "_law_net" = some sp_net) (h5 : fn "_law_laid" = some sp_laid) (h6 : fn "_law_like" = some sp_like) (h7 : fn "_law_due" = some sp_err) (h8 : fn "laying_error" = some sp_err) (hm : gl "MAX_FAR" = some (.int 60)) : ∀ ds D R Ex, sp_law ds D R Ex → semSs ⟨fn, gl, fun c p _ D => Ex c p D⟩ c_law { nx := fun _ D' => FgtV D R .non D', rt := FgtV D R } (startD n_law ds) D := by
  rintro ds D R Ex ⟨ns, rfl, hn, rfl, kk⟩
  have sl : sizeLine = 16777216 := rfl
  rw [c_law_eq]
  simp only [n_law, startD, List.map_cons, List.map_nil, List.length_cons, List.length_nil, List.cons_append, List.nil_append, Nat.reduceAdd, Nat.reduceSub, List.replicate, semSs, semS, semE, semEs, semB, semT, semTs, semO, semC, semI, semKv, wipeD, List.getElem?_cons_zero, List.getElem?_cons_succ, Option.some.injEq, exists_eq_left', List.set_cons_zero, List.set_cons_succ, co_ne, co_eq, co_in, co_nin, DV.tup.injEq, DV.int.injEq, DV.ref.injEq, DV.bl.injEq, ITs.len, List.cons.injEq, and_assoc, exists_and_left, true_and, and_true]
  refine ⟨_, h1, ns, rfl, hn, rfl, fun p a b D1 J => ?_⟩
  obtain ⟨lp, la, lb⟩ := J.lt
  have d0 : (0 : Nat) ≤ sizeLine := by decide
  refine ⟨d0, d0, by decide, by decide, by decide, by decide, ?_⟩
  obtain ⟨dp, cl, bl, tn, ne1, ne2, ne3, rest⟩ := id J
  have s0 : St p a b D1.length (D1.length + 1) (D1 ++ [DO.lst []]) [] := ⟨J.app, by omega, by omega, by omega, by omega, by omega, by omega, by rw [List.length_append]; exact Nat.le_refl _, get_new, fun r h => by cases h⟩
  have m0 : ∀ {k : Nat} {D : DHp}, Th k D (.tup [.tup []]) := fun {k D} => Th.tup (fun e he => by
    rw [List.mem_singleton.mp he]
    exact Od.turn (ns := []) ⟨by decide, fun y h => by cases h⟩) (by decide)
  refine for_rule (fun i δ D' => ∃ mate es x4 x5 x6 x7 x8 x9 x10 x11, δ = [some (.frl ns), some (.ref p), some (.ref D1.length), some mate, x4, x5, x6, x7, x8, x9, x10, x11] ∧ (∀ {k : Nat} {D : DHp}, Th k D mate) ∧ St p a b D1.length (D1.length + 1) D' es ∧ es.length ≤ 8 * i) 6 ⟨_, [], _, _, _, _, _, _, _, _, rfl, m0, s0, by decide⟩ ?_ ?_
  · rintro i δ D' N hi ⟨mate, es, x4, x5, x6, x7, x8, x9, x10, x11, rfl, mt, s, el⟩ hN
    refine ⟨_, rng_at (n := 6) hi, ?_⟩
    simp only [startD, List.map_cons, List.map_nil, List.length_cons, List.length_nil, List.cons_append, List.nil_append, Nat.reduceAdd, Nat.reduceSub, List.replicate, semSs, semS, semE, semEs, semB, semT, semTs, semO, semC, semI, semKv, wipeD, List.getElem?_cons_zero, List.getElem?_cons_succ, Option.some.injEq, exists_eq_left', List.set_cons_zero, List.set_cons_succ, co_ne, co_eq, co_in, co_nin, DV.tup.injEq, DV.int.injEq, DV.ref.injEq, DV.bl.injEq, ITs.len, List.cons.injEq, and_assoc, exists_and_left, true_and, and_true]
    refine ⟨_, h4, _, h2, p, a, b, 6, rfl, s.jar, by decide, by decide, fun v D2 v0 v1 f2 J2 => ?_⟩
    refine i_add ?_
    refine ⟨_, h2, p, a, b, 10, rfl, J2, by decide, by decide, fun w D3 w0 w1 f3 J3 => ?_⟩
    obtain ⟨n, rfl⟩ := Int.eq_ofNat_of_zero_le v0
    obtain ⟨m, rfl⟩ := Int.eq_ofNat_of_zero_le w0
    have s3 := (s.frm f2 J2).frm f3 J3
    refine ⟨p, a, b, 1 + n, m, by simp, J3, by omega, by omega, by omega, fun ts D4 W tl f4 J4 => ?_⟩
    have s4 := s3.frm f4 J4
    refine eq_int (neg := false) ?_
    refine ⟨_, rfl, ?_⟩
    have fin : ∀ {n : Nat} {ts : List (Int × Int)} {D : DHp}, WebOk n ts → St p a b D1.length (D1.length + 1) D es → semSs ⟨fn, gl, fun c p _ D => Ex c p D⟩ cInner { nx := N, rt := FgtV [] R, ct := N, bk := semSs ⟨fn, gl, fun c p _ D => Ex c p D⟩ cEnd { nx := fun x D' => FgtV [] R DV.non D', rt := FgtV [] R } } [some (.frl ns), some (.ref p), some (.ref D1.length), some mate, some (.int i), some (webV n ts), x6, x7, x8, x9, x10, x11] D := fun {n ts D} W s => by
      refine l_inner h5 h6 h7 W mt s (by omega) (fun x7 x11 D' es' ls L s' el' => ?_)
      exact hN _ _ (.inl ⟨_, es', _, _, _, _, _, _, _, _, rfl, laid_th L W.2.1, s', by omega⟩)
    by_cases h5i : ((i : Int) = 5)
    · have d3 : (3 : Nat) ≤ sizeLine := by decide
      have d2 : (2 : Nat) ≤ sizeLine := by decide
      simp only [h5i, decide_true, Bool.false_eq_true, if_false, if_true] at *
      obtain ⟨l4p, l4a, l4b⟩ := J4.lt
      refine ⟨_, h4, _, h3, d3, p, a, b, D4.length, _, rfl, J4.app, get_new, by omega, by decide, by decide, fun v5 D5 v5m f5 J5 => ?_⟩
      have s5 := (St.app (E := [DO.lst [DV.int 1, DV.int 2, DV.int 60]]) s4).frm f5 J5
      obtain ⟨l5p, l5a, l5b⟩ := J5.lt
      refine ⟨_, h3, d2, p, a, b, D5.length, _, rfl, J5.app, get_new, by omega, by decide, by decide, fun v6 D6 v6m f6 J6 => ?_⟩
      have s6 := (St.app (E := [DO.lst [DV.int 0, DV.int 60]]) s5).frm f6 J6
      obtain ⟨n5, e5, c5, k5⟩ : ∃ n5 : Nat, v5 = .int n5 ∧ 0 < n5 ∧ n5 ≤ 60 := by
        simp only [List.mem_cons, List.not_mem_nil, or_false] at v5m
        rcases v5m with rfl | rfl | rfl
        · exact ⟨1, rfl, by decide, by decide⟩
        · exact ⟨2, rfl, by decide, by decide⟩
        · exact ⟨60, rfl, by decide, by decide⟩
      obtain ⟨n6, e6, c6⟩ : ∃ n6 : Nat, v6 = .int n6 ∧ n6 ≤ 60 := by
        simp only [List.mem_cons, List.not_mem_nil, or_false] at v6m
        rcases v6m with rfl | rfl
        · exact ⟨0, rfl, by decide⟩
        · exact ⟨60, rfl, by decide⟩
      subst e5; subst e6
      refine ⟨p, a, b, n5, n6, rfl, J6, c5, k5, c6, fun ts7 D7 W7 tl7 f7 J7 => ?_⟩
      exact fin W7 (s6.frm f7 J7)
    · simp only [h5i, decide_false, Bool.false_eq_true, if_false]
      exact fin W s4
  · rintro δ D' ⟨mate, es, x4, x5, x6, x7, x8, x9, x10, x11, rfl, mt, s, el⟩
    exact ⟨rng_end (n := 6), l_end h8 hm s (by omega) (fun D' => .inl (kk D'))⟩
end K36
set_option Elab.async false
set_option linter.all false
set_option maxRecDepth 100000
set_option maxHeartbeats 0
namespace K36
open PySem PySem.Spec PyProof.Rows L2 Dl
abbrev FnP (K : PySem.W.Frag) (x : Str) (st : Stmt) (f : Addr) (fd : FuncData) : Prop := FunD K x x (defArgs st) (defBody st) (defScope st) [] [] f fd
def d_darts_at : He.DefD := ⟨("darts_at", none), "darts_at", "darts_at", defArgs (top 2), defBody (top 2), defScope (top 2), [], []⟩
def d_is_turn : He.DefD := ⟨("is_turn", none), "is_turn", "is_turn", defArgs (top 4), defBody (top 4), defScope (top 4), [], []⟩
def d_laying_error : He.DefD := ⟨("laying_error", none), "laying_error", "laying_error", defArgs (top 5), defBody (top 5), defScope (top 5), [], []⟩
def d_l_jar : He.DefD := ⟨("_law_jar", none), "_law_jar", "_law_jar", defArgs (top 7), defBody (top 7), defScope (top 7), [], []⟩
def d_l_draw : He.DefD := ⟨("_law_draw", none), "_law_draw", "_law_draw", defArgs (top 8), defBody (top 8), defScope (top 8), [], []⟩
def d_l_one : He.DefD := ⟨("_law_one", none), "_law_one", "_law_one", defArgs (top 9), defBody (top 9), defScope (top 9), [], []⟩
def d_l_shuffled : He.DefD := ⟨("_law_shuffled", none), "_law_shuffled", "_law_shuffled", defArgs (top 10), defBody (top 10), defScope (top 10), [], []⟩
def d_l_net : He.DefD := ⟨("_law_net", none), "_law_net", "_law_net", defArgs (top 11), defBody (top 11), defScope (top 11), [], []⟩
def d_l_darts : He.DefD := ⟨("_law_darts", none), "_law_darts", "_law_darts", defArgs (top 12), defBody (top 12), defScope (top 12), [], []⟩
def d_l_laid : He.DefD := ⟨("_law_laid", none), "_law_laid", "_law_laid", defArgs (top 13), defBody (top 13), defScope (top 13), [], []⟩
def d_l_is_int : He.DefD := ⟨("_law_is_int", none), "_law_is_int", "_law_is_int", defArgs (top 14), defBody (top 14), defScope (top 14), [], []⟩
def d_l_due : He.DefD := ⟨("_law_due", none), "_law_due", "_law_due", defArgs (top 15), defBody (top 15), defScope (top 15), [], []⟩
def d_l_odd_turns : He.DefD := ⟨("_law_odd_turns", none), "_law_odd_turns", "_law_odd_turns", defArgs (top 16), defBody (top 16), defScope (top 16), [], []⟩
def d_l_like : He.DefD := ⟨("_law_like", none), "_law_like", "_law_like", defArgs (top 17), defBody (top 17), defScope (top 17), [], []⟩
def d_law : He.DefD := ⟨("law", none), "law", "law", defArgs (top 18), defBody (top 18), defScope (top 18), [], []⟩
def fns : List He.DefD := [d_darts_at, d_is_turn, d_laying_error, d_l_jar, d_l_draw, d_l_one, d_l_shuffled, d_l_net, d_l_darts, d_l_laid, d_l_is_int, d_l_due, d_l_odd_turns, d_l_like, d_law]
def fas : List He.Fa := [.glo "darts_at", .glo "is_turn", .glo "laying_error", .glo "_law_jar", .glo "_law_draw", .glo "_law_one", .glo "_law_shuffled", .glo "_law_net", .glo "_law_darts", .glo "_law_laid", .glo "_law_is_int", .glo "_law_due", .glo "_law_odd_turns", .glo "_law_like", .glo "law", .free "bool", .free "enumerate", .free "int", .free "isinstance", .free "len", .free "list", .free "max", .free "min", .free "range", .free "repr", .free "sorted", .free "str", .free "tuple", .int "MAX_FAR" 60]
abbrev RR : PySem.W.OpenRow := PySem.W.OpenLaw.row PySem.Challenge.rw_flatbonds_k36_what_is_a_laying
abbrev hk : PySem.W.Hook := He.hookD 4 fas fns
def ob (s : PySem.W.SharedT) : He.AlD := He.obsDG 4 fas fns (HandSHeadRun.getT s)
theorem ob_eq (s : PySem.W.SharedT) : ob s = hk.obs s.abs := He.obsDG_eq (HandSHeadRun.getT_eq s)
def loose : List Str := ["darts_at", "is_turn", "laying_error", "_law_jar", "_law_draw", "_law_one", "_law_shuffled", "_law_net", "_law_darts", "_law_laid", "_law_is_int", "_law_due", "_law_odd_turns", "_law_like", "MAX_FAR"]
theorem run (w : World) : HandSHeadRun.RunEq RR (PySem.W.view RR.prog [18]) hk ob 600 loose w := by
  intro os
  kernel_rfl
def gls : Str → Option DV := fun x => if x = "MAX_FAR" then some (.int 60) else none
theorem bk_err {K : PySem.W.Frag} {f : Addr} {fd : FuncData} (F : FunD K "laying_error" "laying_error" (defArgs (top 5)) (defBody (top 5)) (defScope (top 5)) [] [] f fd) : BindK fd p_laying_error (0, ["value", "web"], [1, 0]) := ⟨fun s us ws hu hw => by
  obtain ⟨oc, od, dV, kV, doc, pm, an, cdv, ct, osl, rfl, lk, hcd, hD, hK⟩ := F.ex
  rcases hD with ⟨_, rfl⟩ | ⟨e, _⟩
  · match us, ws, hu, hw with
    | [], [v, u], _, _ => exact ⟨[u, v], rfl, .of_eq rfl⟩
  · exact absurd rfl e⟩
theorem facts {P : Program} {w : World} {K : PySem.W.Frag} {h : Heap} {mg : Str → Option Value} {f : Addr} (X : K.In h) (G : h.Ns mainGlobals mg) (hfa : mg ("law" : Str) = some (.ref f)) (c : He.SaysD fas fns K) :
    ∃ fd : FuncData, (∀ (s : Shared) (u : Value), BindsTo s fd ⟨[u], []⟩ [("_law_script", u)]) ∧ ∀ base : Heap, K.In base → base.Ns mainGlobals mg → SysOk base → FnG P w K mg base 15 f fd ["_law_script"] (liftSp K sp_law) := by
  obtain ⟨f0, F0⟩ := c.def_ 0 (d := d_darts_at) rfl
  have g0 : mg "darts_at" = some _ := He.glo_ok X G (c.fact 0 (f := .glo "darts_at") rfl)
  have b0 := FunD.bindsA (ps := p_darts_at) F0 fun _ _ _ _ _ _ us hl => match us, hl with | [_, _], _ => rfl
  obtain ⟨f1, F1⟩ := c.def_ 1 (d := d_is_turn) rfl
  have g1 : mg "is_turn" = some _ := He.glo_ok X G (c.fact 1 (f := .glo "is_turn") rfl)
  have b1 := FunD.bindsA (ps := p_is_turn) F1 fun _ _ _ _ _ _ us hl => match us, hl with | [_, _, _], _ => rfl
  obtain ⟨f2, F2⟩ := c.def_ 2 (d := d_laying_error) rfl
  have g2 : mg "laying_error" = some _ := He.glo_ok X G (c.fact 2 (f := .glo "laying_error") rfl)
  have b2 := FunD.bindsA (ps := p_laying_error) F2 fun _ _ _ _ _ _ us hl => match us, hl with | [_, _], _ => rfl
  obtain ⟨f3, F3⟩ := c.def_ 3 (d := d_l_jar) rfl
  have g3 : mg "_law_jar" = some _ := He.glo_ok X G (c.fact 3 (f := .glo "_law_jar") rfl)
  have b3 := FunD.bindsA (ps := p_l_jar) F3 fun _ _ _ _ _ _ us hl => match us, hl with | [_], _ => rfl
  obtain ⟨f4, F4⟩ := c.def_ 4 (d := d_l_draw) rfl
  have g4 : mg "_law_draw" = some _ := He.glo_ok X G (c.fact 4 (f := .glo "_law_draw") rfl)
  have b4 := FunD.bindsA (ps := p_l_draw) F4 fun _ _ _ _ _ _ us hl => match us, hl with | [_, _], _ => rfl
  obtain ⟨f5, F5⟩ := c.def_ 5 (d := d_l_one) rfl
  have g5 : mg "_law_one" = some _ := He.glo_ok X G (c.fact 5 (f := .glo "_law_one") rfl)
  have b5 := FunD.bindsA (ps := p_l_one) F5 fun _ _ _ _ _ _ us hl => match us, hl with | [_, _], _ => rfl
  obtain ⟨f6, F6⟩ := c.def_ 6 (d := d_l_shuffled) rfl
  have g6 : mg "_law_shuffled" = some _ := He.glo_ok X G (c.fact 6 (f := .glo "_law_shuffled") rfl)
  have b6 := FunD.bindsA (ps := p_l_shuffled) F6 fun _ _ _ _ _ _ us hl => match us, hl with | [_, _], _ => rfl
  obtain ⟨f7, F7⟩ := c.def_ 7 (d := d_l_net) rfl
  have g7 : mg "_law_net" = some _ := He.glo_ok X G (c.fact 7 (f := .glo "_law_net") rfl)
  have b7 := FunD.bindsA (ps := p_l_net) F7 fun _ _ _ _ _ _ us hl => match us, hl with | [_, _, _], _ => rfl
  obtain ⟨f8, F8⟩ := c.def_ 8 (d := d_l_darts) rfl
  have g8 : mg "_law_darts" = some _ := He.glo_ok X G (c.fact 8 (f := .glo "_law_darts") rfl)
  have b8 := FunD.bindsA (ps := p_l_darts) F8 fun _ _ _ _ _ _ us hl => match us, hl with | [_], _ => rfl
  obtain ⟨f9, F9⟩ := c.def_ 9 (d := d_l_laid) rfl
  have g9 : mg "_law_laid" = some _ := He.glo_ok X G (c.fact 9 (f := .glo "_law_laid") rfl)
  have b9 := FunD.bindsA (ps := p_l_laid) F9 fun _ _ _ _ _ _ us hl => match us, hl with | [_, _], _ => rfl
  obtain ⟨f10, F10⟩ := c.def_ 10 (d := d_l_is_int) rfl
  have g10 : mg "_law_is_int" = some _ := He.glo_ok X G (c.fact 10 (f := .glo "_law_is_int") rfl)
  have b10 := FunD.bindsA (ps := p_l_is_int) F10 fun _ _ _ _ _ _ us hl => match us, hl with | [_], _ => rfl
  obtain ⟨f11, F11⟩ := c.def_ 11 (d := d_l_due) rfl
  have g11 : mg "_law_due" = some _ := He.glo_ok X G (c.fact 11 (f := .glo "_law_due") rfl)
  have b11 := FunD.bindsA (ps := p_l_due) F11 fun _ _ _ _ _ _ us hl => match us, hl with | [_, _], _ => rfl
  obtain ⟨f12, F12⟩ := c.def_ 12 (d := d_l_odd_turns) rfl
  have g12 : mg "_law_odd_turns" = some _ := He.glo_ok X G (c.fact 12 (f := .glo "_law_odd_turns") rfl)
  have b12 := FunD.bindsA (ps := p_l_odd_turns) F12 fun _ _ _ _ _ _ us hl => match us, hl with | [_, _, _], _ => rfl
  obtain ⟨f13, F13⟩ := c.def_ 13 (d := d_l_like) rfl
  have g13 : mg "_law_like" = some _ := He.glo_ok X G (c.fact 13 (f := .glo "_law_like") rfl)
  have b13 := FunD.bindsA (ps := p_l_like) F13 fun _ _ _ _ _ _ us hl => match us, hl with | [_, _, _, _], _ => rfl
  obtain ⟨f14, F14⟩ := c.def_ 14 (d := d_law) rfl
  have g14 : mg "law" = some _ := He.glo_ok X G (c.fact 14 (f := .glo "law") rfl)
  have b14 := FunD.bindsA (ps := p_law) F14 fun _ _ _ _ _ _ us hl => match us, hl with | [_], _ => rfl
  have e := hfa.symm.trans g14
  cases e
  refine ⟨f14, fun s u => b14 s [u] rfl, fun base BI BN sy => ?_⟩
  have W0 : Wd P w K mg base 0 bns kcs (fun _ => none) gls := Wd.nil sy (fun x hx => by
    simp only [bns, List.mem_cons, List.not_mem_nil, or_false] at hx
    rcases hx with rfl | rfl | rfl | rfl | rfl | rfl | rfl | rfl | rfl | rfl | rfl | rfl | rfl
    · exact ⟨He.free_ok X G (c.fact 15 (f := .free "bool") rfl), by decide⟩
    · exact ⟨He.free_ok X G (c.fact 16 (f := .free "enumerate") rfl), by decide⟩
    · exact ⟨He.free_ok X G (c.fact 17 (f := .free "int") rfl), by decide⟩
    · exact ⟨He.free_ok X G (c.fact 18 (f := .free "isinstance") rfl), by decide⟩
    · exact ⟨He.free_ok X G (c.fact 19 (f := .free "len") rfl), by decide⟩
    · exact ⟨He.free_ok X G (c.fact 20 (f := .free "list") rfl), by decide⟩
    · exact ⟨He.free_ok X G (c.fact 21 (f := .free "max") rfl), by decide⟩
    · exact ⟨He.free_ok X G (c.fact 22 (f := .free "min") rfl), by decide⟩
    · exact ⟨He.free_ok X G (c.fact 23 (f := .free "range") rfl), by decide⟩
    · exact ⟨He.free_ok X G (c.fact 24 (f := .free "repr") rfl), by decide⟩
    · exact ⟨He.free_ok X G (c.fact 25 (f := .free "sorted") rfl), by decide⟩
    · exact ⟨He.free_ok X G (c.fact 26 (f := .free "str") rfl), by decide⟩
    · exact ⟨He.free_ok X G (c.fact 27 (f := .free "tuple") rfl), by decide⟩
    ) (fun x d e => by
    unfold gls at e
    by_cases z0 : x = "MAX_FAR"
    · rw [if_pos z0] at e; cases e; subst z0
      obtain ⟨t, et⟩ := He.int_ok X G (c.fact 28 (f := .int "MAX_FAR" 60) rfl)
      exact ⟨.int 60, _, et, ⟨t, rfl⟩, fun ro H => by simp only [VR]⟩
    rw [if_neg z0] at e
    cases e)
  have B0 : FnB P w K mg base 1 "darts_at" p_darts_at [] sp_darts_at := W0.def_ F0 g0 s_darts_at b0 (fun q hq => by cases hq) k_darts_at (fun ds D R E h => by obtain ⟨_, _, _, rfl, _⟩ := h; rfl) l_darts_at
  have W1 := W0.add B0 (fun q hq => by simp only [kcs, List.mem_cons, List.not_mem_nil, or_false, Prod.mk.injEq] at hq; first | exact absurd hq.1 (by decide) | (rcases hq with h | h <;> exact absurd h.1 (by decide)))
  have B1 : FnB P w K mg base 2 "is_turn" p_is_turn [] sp_is_turn := W1.def_ F1 g1 s_is_turn b1 (fun q hq => by cases hq) k_is_turn (fun ds D R E h => by obtain ⟨_, _, _, _, rfl, _⟩ := h; rfl) (l_is_turn addF_eq)
  have W2 := W1.add B1 (fun q hq => by simp only [kcs, List.mem_cons, List.not_mem_nil, or_false, Prod.mk.injEq] at hq; first | exact absurd hq.1 (by decide) | (rcases hq with h | h <;> exact absurd h.1 (by decide)))
  have B2 : FnB P w K mg base 3 "laying_error" p_laying_error [(0, ["value", "web"], [1, 0])] sp_err := W2.def_ F2 g2 s_laying_error b2 (fun q hq => by rw [List.mem_singleton.mp hq]; exact bk_err F2) k_laying_error (fun ds D R E h => by obtain ⟨_, _, _, rfl, _⟩ := h; rfl) (l_laying_error addF_eq)
  have W3 := W2.add B2 (fun q hq => by simp only [kcs, List.mem_cons, List.not_mem_nil, or_false, Prod.mk.injEq] at hq ⊢; exact hq.2)
  have B3 : FnB P w K mg base 4 "_law_jar" p_l_jar [] sp_jar := W3.def_ F3 g3 s_l_jar b3 (fun q hq => by cases hq) k_l_jar (fun ds D R E h => by obtain ⟨_, rfl, _⟩ := h; rfl) l_jar
  have W4 := W3.add B3 (fun q hq => by simp only [kcs, List.mem_cons, List.not_mem_nil, or_false, Prod.mk.injEq] at hq; first | exact absurd hq.1 (by decide) | (rcases hq with h | h <;> exact absurd h.1 (by decide)))
  have B4 : FnB P w K mg base 5 "_law_draw" p_l_draw [] sp_draw := W4.def_ F4 g4 s_l_draw b4 (fun q hq => by cases hq) k_l_draw (fun ds D R E h => by obtain ⟨_, _, _, _, rfl, _⟩ := h; rfl) l_draw
  have W5 := W4.add B4 (fun q hq => by simp only [kcs, List.mem_cons, List.not_mem_nil, or_false, Prod.mk.injEq] at hq; first | exact absurd hq.1 (by decide) | (rcases hq with h | h <;> exact absurd h.1 (by decide)))
  have B5 : FnB P w K mg base 6 "_law_one" p_l_one [] sp_one := W5.def_ F5 g5 s_l_one b5 (fun q hq => by cases hq) k_l_one (fun ds D R E h => by obtain ⟨_, _, _, _, _, rfl, _⟩ := h; rfl) (l_one addF_eq)
  have W6 := W5.add B5 (fun q hq => by simp only [kcs, List.mem_cons, List.not_mem_nil, or_false, Prod.mk.injEq] at hq; first | exact absurd hq.1 (by decide) | (rcases hq with h | h <;> exact absurd h.1 (by decide)))
  have B6 : FnB P w K mg base 7 "_law_shuffled" p_l_shuffled [] sp_shuffled := W6.def_ F6 g6 s_l_shuffled b6 (fun q hq => by cases hq) k_l_shuffled (fun ds D R E h => by obtain ⟨_, _, _, _, _, rfl, _⟩ := h; rfl) (l_shuffled (addF_ne (by decide) addF_eq))
  have W7 := W6.add B6 (fun q hq => by simp only [kcs, List.mem_cons, List.not_mem_nil, or_false, Prod.mk.injEq] at hq; first | exact absurd hq.1 (by decide) | (rcases hq with h | h <;> exact absurd h.1 (by decide)))
  have B7 : FnB P w K mg base 8 "_law_net" p_l_net [] sp_net := W7.def_ F7 g7 s_l_net b7 (fun q hq => by cases hq) k_l_net (fun ds D R E h => by obtain ⟨_, _, _, _, _, rfl, _⟩ := h; rfl) (l_net (addF_ne (by decide) (addF_ne (by decide) addF_eq)))
  have W8 := W7.add B7 (fun q hq => by simp only [kcs, List.mem_cons, List.not_mem_nil, or_false, Prod.mk.injEq] at hq; first | exact absurd hq.1 (by decide) | (rcases hq with h | h <;> exact absurd h.1 (by decide)))
  have B8 : FnB P w K mg base 9 "_law_darts" p_l_darts [] sp_darts := W8.def_ F8 g8 s_l_darts b8 (fun q hq => by cases hq) k_l_darts (fun ds D R E h => by obtain ⟨_, _, rfl, _⟩ := h; rfl) l_darts
  have W9 := W8.add B8 (fun q hq => by simp only [kcs, List.mem_cons, List.not_mem_nil, or_false, Prod.mk.injEq] at hq; first | exact absurd hq.1 (by decide) | (rcases hq with h | h <;> exact absurd h.1 (by decide)))
  have B9 : FnB P w K mg base 10 "_law_laid" p_l_laid [] sp_laid := W9.def_ F9 g9 s_l_laid b9 (fun q hq => by cases hq) k_l_laid (fun ds D R E h => by obtain ⟨_, _, _, _, _, rfl, _⟩ := h; rfl) (l_laid addF_eq (addF_ne (by decide) (addF_ne (by decide) addF_eq)))
  have W10 := W9.add B9 (fun q hq => by simp only [kcs, List.mem_cons, List.not_mem_nil, or_false, Prod.mk.injEq] at hq; first | exact absurd hq.1 (by decide) | (rcases hq with h | h <;> exact absurd h.1 (by decide)))
  have B10 : FnB P w K mg base 11 "_law_is_int" p_l_is_int [] sp_is_int := W10.def_ F10 g10 s_l_is_int b10 (fun q hq => by cases hq) k_l_is_int (fun ds D R E h => by obtain ⟨_, rfl, _⟩ := h; rfl) l_is_int
  have W11 := W10.add B10 (fun q hq => by simp only [kcs, List.mem_cons, List.not_mem_nil, or_false, Prod.mk.injEq] at hq; first | exact absurd hq.1 (by decide) | (rcases hq with h | h <;> exact absurd h.1 (by decide)))
  have B11 : FnB P w K mg base 12 "_law_due" p_l_due [] sp_err := W11.def_ F11 g11 s_l_due b11 (fun q hq => by cases hq) k_l_due (fun ds D R E h => by obtain ⟨_, _, _, rfl, _⟩ := h; rfl) (l_due (addF_ne (by decide) (addF_ne (by decide) addF_eq)) addF_eq)
  have W12 := W11.add B11 (fun q hq => by simp only [kcs, List.mem_cons, List.not_mem_nil, or_false, Prod.mk.injEq] at hq; first | exact absurd hq.1 (by decide) | (rcases hq with h | h <;> exact absurd h.1 (by decide)))
  have B12 : FnB P w K mg base 13 "_law_odd_turns" p_l_odd_turns [] sp_odd := W12.def_ F12 g12 s_l_odd_turns b12 (fun q hq => by cases hq) k_l_odd_turns (fun ds D R E h => by obtain ⟨_, _, _, _, _, rfl, _⟩ := h; rfl) (l_odd (addF_ne (by decide) (addF_ne (by decide) (addF_ne (by decide) (addF_ne (by decide) (addF_ne (by decide) (addF_ne (by decide) (addF_ne (by decide) addF_eq))))))) (addF_ne (by decide) (addF_ne (by decide) (addF_ne (by decide) (addF_ne (by decide) (addF_ne (by decide) (addF_ne (by decide) addF_eq)))))))
  have W13 := W12.add B12 (fun q hq => by simp only [kcs, List.mem_cons, List.not_mem_nil, or_false, Prod.mk.injEq] at hq; first | exact absurd hq.1 (by decide) | (rcases hq with h | h <;> exact absurd h.1 (by decide)))
  have B13 : FnB P w K mg base 14 "_law_like" p_l_like [] sp_like := W13.def_ F13 g13 s_l_like b13 (fun q hq => by cases hq) k_l_like (fun ds D R E h => by obtain ⟨_, _, _, _, _, _, _, rfl, _⟩ := h; rfl) (l_like (addF_ne (by decide) (addF_ne (by decide) (addF_ne (by decide) (addF_ne (by decide) (addF_ne (by decide) (addF_ne (by decide) (addF_ne (by decide) (addF_ne (by decide) addF_eq)))))))) (addF_ne (by decide) (addF_ne (by decide) (addF_ne (by decide) (addF_ne (by decide) (addF_ne (by decide) (addF_ne (by decide) (addF_ne (by decide) addF_eq))))))) addF_eq)
  have W14 := W13.add B13 (fun q hq => by simp only [kcs, List.mem_cons, List.not_mem_nil, or_false, Prod.mk.injEq] at hq; first | exact absurd hq.1 (by decide) | (rcases hq with h | h <;> exact absurd h.1 (by decide)))
  exact W14.defG F14 s_law k_law (fun ds D R E h => by obtain ⟨_, rfl, _⟩ := h; rfl) (l_law (addF_ne (by decide) (addF_ne (by decide) (addF_ne (by decide) (addF_ne (by decide) (addF_ne (by decide) (addF_ne (by decide) (addF_ne (by decide) (addF_ne (by decide) (addF_ne (by decide) (addF_ne (by decide) addF_eq)))))))))) (addF_ne (by decide) (addF_ne (by decide) (addF_ne (by decide) (addF_ne (by decide) (addF_ne (by decide) (addF_ne (by decide) (addF_ne (by decide) (addF_ne (by decide) (addF_ne (by decide) addF_eq))))))))) (addF_ne (by decide) (addF_ne (by decide) (addF_ne (by decide) (addF_ne (by decide) (addF_ne (by decide) (addF_ne (by decide) (addF_ne (by decide) (addF_ne (by decide) addF_eq)))))))) (addF_ne (by decide) (addF_ne (by decide) (addF_ne (by decide) (addF_ne (by decide) (addF_ne (by decide) (addF_ne (by decide) addF_eq)))))) (addF_ne (by decide) (addF_ne (by decide) (addF_ne (by decide) (addF_ne (by decide) addF_eq)))) addF_eq (addF_ne (by decide) (addF_ne (by decide) addF_eq)) (addF_ne (by decide) (addF_ne (by decide) (addF_ne (by decide) (addF_ne (by decide) (addF_ne (by decide) (addF_ne (by decide) (addF_ne (by decide) (addF_ne (by decide) (addF_ne (by decide) (addF_ne (by decide) (addF_ne (by decide) addF_eq))))))))))) (by rfl))
end K36
open PySem PySem.W PySem.Calls PyProof.Rows
theorem PySem.Challenge.cw_flatbonds_k36_what_is_a_laying_holds : PySem.Challenge.rw_flatbonds_k36_what_is_a_laying.Holds := by
  w_on; o_law
  refine HandSHeadRun.head_any (r := OpenLaw.row PySem.Challenge.rw_flatbonds_k36_what_is_a_laying) (q := view (OpenLaw.row PySem.Challenge.rw_flatbonds_k36_what_is_a_laying).prog [18]) (H := K36.hk) (ob := K36.ob) (M := 600) (loose := K36.loose) (d := HandSHeadRun.topDef (OpenLaw.row PySem.Challenge.rw_flatbonds_k36_what_is_a_laying).prog 18) (kwd := []) K36.ob_eq
    (by kernel_rfl) (fun s => by kernel_rfl) K36.run (by kernel_rfl) (by kernel_rfl) (by kernel_rfl) (by rfl) (by first | assumption | decide +kernel) (by decide +kernel) ⟨rfl, rfl, rfl, rfl, rfl, by decide +kernel⟩ ?hw ?hc
  case hw => w_witness2
  case hc =>
    refine Dl.walk_D (l := PySem.Challenge.rw_flatbonds_k36_what_is_a_laying) (n := 63) (k := 15) (x := "_law_script") (sp := K36.sp_law) rfl (by decide) (by kernel_rfl) ⟨rfl, by decide, by decide⟩ (by kernel_rfl) ?F (fun ns hl _ => ⟨ns, rfl, hl, rfl, fun _ => rfl⟩)
    intro w mg fa h Y G hmg0
    obtain ⟨K, KX, c⟩ := Y
    have hmg : mg ("law" : PySem.Str) = some (.ref fa) := by
      have e : (HandSHeadRun.topDef (OpenLaw.row PySem.Challenge.rw_flatbonds_k36_what_is_a_laying).prog 18).name = ("law" : PySem.Str) := by kernel_rfl
      rw [← e]
      exact hmg0
    obtain ⟨fd, hb, hF⟩ := K36.facts (P := (PySem.Challenge.rw_flatbonds_k36_what_is_a_laying).prog) (w := w) KX G hmg c
    exact ⟨K, fd, KX, hb, hF⟩
