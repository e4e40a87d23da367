import PyProof.Rows.All
import Wide.All
import OpenK.AllK
import Wide.FinOn
import KE.KStateDown
import HandS.ForMost
import HandS.Exc
import HandS.TryOnly
import HandS.ExcOwn
import HandS.WordsExc
import HandS.Codes
import HandS.Defaults
import HandS.MakeKwOnly
import HandS.Deep
import HandS.Flow
import HandS.Style
import HandS.IsInst
import HandS.FStr
import HandS.TupAny
import HandS.Wide
import HandS.WideBits
import HandS.Conv
import HandS.Head0
import HandS.Head1
import HandS.Head2
import HandS.HeadEnd
import HandS.HeadHook1
import HandS.HeadHook2
import HandS.Evl
import PyProof.Rows.StrRev
import HandS.SortKw
import HandS.Nested
import PyProof.TupleOfSeq
import HandS.EndTab
import HandS.HeadHook4
import HandS.Strs
import HandS.NoneIn
import HandS.SortInts
import KE.GoesMore
import PyProof.InstNe
import PyProof.NeKinds
import HandS.OwnEq
import PyProof.SetScanFacts
import HandS.Head4
import KE.DataMinMax
import KE.SortData
import HandS.Iter
import KE.KDictZip
import PyProof.ListNew
import HandS.ExcInit
import HandS.ExcField
import HandS.ExcIs
import KE.KExcInit
import HandS.RevRange
import KE.KExcIs
import HandS.Dict
import PyProof.P3In
import HandS.More
import KE.KUnpackStar
import KE.GoesEnum
import HandS.Zip
import HandS.ListItems
import HandS.DictTup
import HandS.CallLocal
import KE.KItemsList
import HandS.DictComp
import HandS.Finally
import PyProof.SeqRoads2
import HandS.Remove
import KE.KEqNest
import HandS.CallSlots
import HandS.TryMany
import HandS.HeadWalk
import HandS.Head4
import PySem.Challenge.RW_turnedback_k46_piles_refused
set_option Elab.async false
set_option linter.all false
set_option maxRecDepth 100000
set_option maxHeartbeats 4000000
namespace TB
open PySem PySem.Spec PyProof.Rows L2
/-- no dict with tuple keys in u -/
def noT : HO → Prop
  | .dT _ => False
  | .frz _ u => noT u
  | _ => True
def NoT (H : Hp) : Prop := ∀ a o, H a = some o → noT o
theorem NoT.upd {H : Hp} {p : Addr} {o : HO} (h : NoT H) (ho : noT o) : NoT (upd H p o) := fun a u e => by
  by_cases q : a = p
  · subst q
    rw [upd_same] at e
    cases e
    exact ho
  · rw [upd_ne q] at e
    exact h a u e
/-- what u at a leans on stands in H -/
def leans (H : Hp) (a : Addr) : HO → Prop
  | .ins _ dx _ => H dx = some (.own a)
  | .frz _ u => leans H a u
  | _ => True
theorem leans_of {P : Program} {w : World} {H : Hp} {h : Heap} {a : Addr} : ∀ (o : HO), ObjOk P w H h a o → leans H a o
  | .lst _, _ => trivial
  | .tup _, _ => trivial
  | .dK _, _ => trivial
  | .dT _, _ => trivial
  | .set _ _, _ => trivial
  | .ins _ _ _, x => x.1
  | .own _, _ => trivial
  | .xd _, _ => trivial
  | .rng _ _, _ => trivial
  | .frz _ u, x => leans_of u x.2
  | .tbl _, _ => trivial
  | .met _ _, _ => trivial
  | .ext _, _ => trivial
theorem ok_leans {P : Program} {w : World} {H H' : Hp} {h : Heap} {a : Addr} : ∀ (o : HO), ObjOk P w H h a o → noT o → leans H' a o → ObjOk P w H' h a o
  | .lst _, x, _, _ => x
  | .tup _, x, _, _ => x
  | .dK _, x, _, _ => x
  | .dT _, _, n, _ => n.elim
  | .set _ _, x, _, _ => x
  | .ins _ _ _, x, _, l => ⟨l, x.2⟩
  | .own _, x, _, _ => x
  | .xd _, x, _, _ => x
  | .rng _ _, x, _, _ => x
  | .frz _ u, x, n, l => ⟨x.1, ok_leans u x.2 n l⟩
  | .tbl _, x, _, _ => x
  | .met _ _, x, _, _ => x
  | .ext _, x, _, _ => x
/-- H'' is what is still told of H' behind a call that began with H: no more than H' tells, all that H told of, and what those lean on -/
structure Fg (H H' H'' : Hp) : Prop where
  sub : ∀ b o, H'' b = some o → H' b = some o
  old : ∀ b o o', H b = some o → H' b = some o' → H'' b = some o'
  lean : ∀ a o, H'' a = some o → H a = none → leans H'' a o
  same : ∀ a o, H a = some o → leans H a o → ∀ o', H'' a = some o' → leans H'' a o'
  nt : NoT H''
theorem hok_fg {P : Program} {w : World} {H H' H'' : Hp} {h h' : Heap} (k0 : HOk P w H h) (k : HOk P w H' h') (f : Fg H H' H'') : HOk P w H'' h' := by
  intro a o e
  refine ok_leans o (k a o (f.sub a o e)) (f.nt a o e) ?_
  cases q : H a with
  | none => exact f.lean a o e q
  | some u => exact f.same a u q (leans_of u (k0 a u q)) o e
theorem un_fg {fs ex : List Addr} {H H' H'' : Hp} {h h' : Heap} (u : Un fs ex H H' h h') (f : Fg H H' H'') : Un fs ex H H'' h h' where
  keep := u.keep
  slot := u.slot
  free := fun b o e n hx => by
    have z := u.free b o e n hx
    cases q : H'' b with
    | none => rfl
    | some v =>
      rw [f.sub b v q] at z
      cases z
  there := u.there
  tups := fun b xs e => f.old b _ _ e (u.tups b xs e)
  frzs := fun b o v e => f.old b _ _ e (u.frzs b o v e)
  tbls := fun b ps e => by
    obtain ⟨m, e2⟩ := u.tbls b ps e
    exact ⟨m, f.old b _ _ e e2⟩
/-- nothing new is told -/
theorem Fg.back {H H' : Hp} (s : Same H H') (n : NoT H) : Fg H H' H := by
  refine ⟨s, fun b o o' e e' => ?_, fun a o e z => ?_, fun a o e l o' e' => ?_, n⟩
  · rw [s b o e] at e'
    cases e'
    exact e
  · rw [e] at z
    cases z
  · rw [e] at e'
    cases e'
    exact l
/-- one new thing that leans on nothing -/
theorem Fg.one {H H' : Hp} {p : Addr} {o : HO} (s : Same H H') (n : NoT H) (hp : H p = none) (e : H' p = some o) (no : noT o) (lo : ∀ H, leans H p o) : Fg H H' (upd H p o) := by
  have lk : ∀ (a : Addr) (u : HO), leans H a u → leans (upd H p o) a u := by
    intro a u
    induction u with
    | ins C dx fs =>
      intro l
      have l2 : H dx = some (.own a) := l
      show upd H p o dx = some (.own a)
      rw [upd_ne (ne_of_none l2 hp)]
      exact l2
    | frz ob v ih => exact fun l => ih l
    | _ => exact fun _ => trivial
  refine ⟨fun b u q => ?_, fun b u u' q q' => ?_, fun a u q z => ?_, fun a u q l u' q' => ?_, n.upd no⟩
  · by_cases hb : b = p
    · subst hb
      rw [upd_same] at q
      cases q
      exact e
    · rw [upd_ne hb] at q
      exact s b u q
  · have hb : b ≠ p := ne_of_none q hp
    rw [upd_ne hb, ← q', s b u q]
    exact q
  · by_cases hb : a = p
    · subst hb
      rw [upd_same] at q
      cases q
      exact lo _
    · rw [upd_ne hb, z] at q
      cases q
  · have hb : a ≠ p := ne_of_none q hp
    rw [upd_ne hb, q] at q'
    cases q'
    exact lk a u l
section
variable {P : Program} {w : World} {K : PySem.W.Frag} {mg : Str → Option Value} {base : Heap} {CX : CXT} {k : Nat} {f : Addr} {fd : FuncData} {ps : List Str} {sp sp' : Sp}
/-- a promise whose end forgets -/
theorem fn_fg (F : FnOk P w K mg base CX k f fd ps sp) (h : ∀ vs H Q E, sp' vs H Q E → sp vs H (fun v H' => ∃ H'', Fg H H' H'' ∧ Q v H'') E) : FnOk P w K mg base CX k f fd ps sp' := by
  refine ⟨fun vs H Q E q => F.len _ _ _ _ (h vs H Q E q), fun A outer s H args us vs Q E hr he hb hv hs => ?_⟩
  refine codeAny_mono (F.run A outer s H args us vs _ E hr he hb hv (h vs H Q E hs)) fun r s' c => ?_
  match r, c with
  | .ok (.ret u), ⟨v, H', os, bare, un, hok, rv, H'', fg, q⟩ => exact ⟨v, H'', os, bare, un_fg un fg, hok_fg he.hok hok fg, rv, q⟩
  | .error e, c => exact c
end
def potP (p : Addr) (h : Heap) : Prop := ∃ (a b : Int) (t u : Tok) (n : Nat), h.get? p = some { cls := .type "list", data := .seq #[.int a t, .int b u] n } ∧ 0 ≤ a ∧ 0 ≤ b ∧ b < 2147483647
/-- a pot stands at p -/
def PotO (p : Addr) : HO := .ext (potP p)
theorem pot_stay (p : Addr) : ∀ h1 h2 : Heap, potP p h1 → (∀ o, h1.get? p = some o → h2.get? p = some o) → potP p h2 := by
  rintro h1 h2 ⟨a, b, t, u, n, e, r⟩ k
  exact ⟨a, b, t, u, n, k _ e, r⟩
theorem pot_ok {P : Program} {w : World} {H H' : Hp} {h : Heap} {p : Addr} {a b : Int} (x : ObjOk P w H h p (.lst [.int a, .int b])) (ha : 0 ≤ a) (hb : 0 ≤ b) (hb2 : b < 2147483647) : ObjOk P w H' h p (PotO p) := by
  obtain ⟨_, its, n, r, e⟩ := x
  cases r with
  | cons r1 r2 => cases r2 with
    | cons r2 r3 => cases r3 with
      | nil =>
        obtain ⟨t, rfl⟩ := r1
        obtain ⟨u, rfl⟩ := r2
        exact ⟨⟨a, b, t, u, n, e, ha, hb, hb2⟩, ⟨_, e⟩, pot_stay p⟩
theorem pot_open {P : Program} {w : World} {H : Hp} {h : Heap} {p : Addr} (x : ObjOk P w H h p (PotO p)) : ∃ a b : Int, 0 ≤ a ∧ 0 ≤ b ∧ b < 2147483647 ∧ ∀ H' : Hp, ObjOk P w H' h p (.lst [.int a, .int b]) := by
  obtain ⟨⟨a, b, t, u, n, e, ha, hb, hb2⟩, _, _⟩ := x
  exact ⟨a, b, ha, hb, hb2, fun _ => ⟨(by show 2 ≤ sizeLine; decide), _, n, .cons ⟨t, rfl⟩ (.cons ⟨u, rfl⟩ .nil), e⟩⟩
theorem pot_hok {P : Program} {w : World} {H : Hp} {h : Heap} {p : Addr} {o o' : HO} (k : HOk P w H h) (e : H p = some o) (m : Mut (some o)) (x : ObjOk P w (upd H p o') h p o') : HOk P w (upd H p o') h := by
  intro b u q
  by_cases hb : b = p
  · subst hb
    rw [upd_same] at q
    cases q
    exact x
  · rw [upd_ne hb] at q
    refine (k b u q).stay (fun _ _ _ z => z) (fun c z => ?_) (fun c xs z => ?_)
    · rw [upd_ne (ne_of z e (fun y => by rw [← y] at m; exact m))]
      exact z
    · rw [upd_ne (ne_of z e (fun y => by rw [← y] at m; exact m))]
      exact z
section
variable {P : Program} {w : World} {K : PySem.W.Frag} {mg : Str → Option Value} {base : Heap} {k : Nat} {f : Addr} {fd : FuncData} {ps : List Str} {sp sp' : Sp}
/-- a def that turns a pot, told of a pot that nobody looks into -/
theorem fn_pot (F : FnOk P w K mg base CX0 k f fd ps sp)
    (h : ∀ vs H Q E, sp' vs H Q E → ∃ p, H p = some (PotO p) ∧ ∀ a b : Int, 0 ≤ a → 0 ≤ b → b < 2147483647 →
      sp vs (upd H p (.lst [.int a, .int b])) (fun v H' => ∃ a' b' : Int, 0 ≤ a' ∧ 0 ≤ b' ∧ b' < 2147483647 ∧ H' p = some (.lst [.int a', .int b']) ∧ ∃ H'', Fg H (upd H' p (PotO p)) H'' ∧ Q v H'') E) : FnOk P w K mg base CX0 k f fd ps sp' := by
  refine ⟨fun vs H Q E q => ?_, fun A outer s H args us vs Q E hr he hb hv hs => ?_⟩
  · obtain ⟨p, _, z⟩ := h vs H Q E q
    exact F.len _ _ _ _ (z 0 0 (by decide) (by decide) (by decide))
  · obtain ⟨p, hp, z⟩ := h vs H Q E hs
    obtain ⟨a, b, ha, hb0, hb1, ok⟩ := pot_open (he.hok p _ hp)
    have ok1 : HOk P w (upd H p (.lst [.int a, .int b])) s.heap := pot_hok he.hok hp trivial (ok _)
    have ne : ∀ c, H c = none → c ≠ p := fun c q z => by
      rw [z, hp] at q
      cases q
    have e1 : Env0 P w K mg base A outer s (upd H p (.lst [.int a, .int b])) := ⟨he.frames, he.mod, fun c o q => ⟨(he.bs c o q).1, by rw [upd_ne (ne c (he.bs c o q).2)]; exact (he.bs c o q).2⟩, he.bsz, he.funs, fun c q => by rw [upd_ne (ne c (he.frf c q))]; exact he.frf c q, ok1, he.bare⟩
    refine codeAny_mono (F.run A outer s _ args us vs _ E hr e1 hb hv (z a b ha hb0 hb1)) fun r s' c => ?_
    match r, c with
    | .ok (.ret u), ⟨v, H', os, bare, un, hok, rv, a', b', ha', hb', hb2', ep, H'', fg, q⟩ =>
      have hok2 : HOk P w (upd H' p (PotO p)) s'.heap := pot_hok hok ep trivial (pot_ok (hok p _ ep) ha' hb' hb2')
      have np : ∀ c o, H c = some o → o ≠ PotO p → c ≠ p := fun c o q n z => by
        rw [z, hp] at q
        cases q
        exact n rfl
      have un2 : Un (frs outer) [] H (upd H' p (PotO p)) s.heap s'.heap := by
        refine ⟨fun c o q n h1 h2 => un.keep c o q (by rw [upd_ne (ne c n)]; exact n) h1 h2, fun c o q n h1 h2 => un.slot c o q (by rw [upd_ne (ne c n)]; exact n) h1 h2, fun c o q n h2 => ?_, un.there, fun c xs q => ?_, fun c o v q => ?_, fun c qs q => ?_⟩
        · rw [upd_ne (ne c n)]
          exact un.free c o q (by rw [upd_ne (ne c n)]; exact n) h2
        · have nc := np c _ q (by intro z; cases z)
          rw [upd_ne nc]
          exact un.tups c xs (by rw [upd_ne nc]; exact q)
        · have nc := np c _ q (by intro z; cases z)
          rw [upd_ne nc]
          exact un.frzs c o v (by rw [upd_ne nc]; exact q)
        · have nc := np c _ q (by intro z; cases z)
          rw [upd_ne nc]
          exact un.tbls c qs (by rw [upd_ne nc]; exact q)
      exact ⟨v, H'', os, bare, un_fg un2 fg, hok_fg he.hok hok2 fg, rv, q⟩
/-- a def that makes a pot -/
theorem fn_mkpot (F : FnOk P w K mg base CX0 k f fd ps sp)
    (h : ∀ vs H Q E, sp' vs H Q E → sp vs H (fun v H' => ∃ (p : Addr) (a b : Int), 0 ≤ a ∧ 0 ≤ b ∧ b < 2147483647 ∧ H p = none ∧ H' p = some (.lst [.int a, .int b]) ∧ ∃ H'', Fg H (upd H' p (PotO p)) H'' ∧ Q v H'') E) : FnOk P w K mg base CX0 k f fd ps sp' := by
  refine ⟨fun vs H Q E q => F.len _ _ _ _ (h vs H Q E q), fun A outer s H args us vs Q E hr he hb hv hs => ?_⟩
  refine codeAny_mono (F.run A outer s _ args us vs _ E hr he hb hv (h vs H Q E hs)) fun r s' c => ?_
  match r, c with
  | .ok (.ret u), ⟨v, H', os, bare, un, hok, rv, p, a', b', ha', hb', hb2', np, ep, H'', fg, q⟩ =>
    have hok2 : HOk P w (upd H' p (PotO p)) s'.heap := pot_hok hok ep trivial (pot_ok (hok p _ ep) ha' hb' hb2')
    have un2 : Un (frs outer) [] H (upd H' p (PotO p)) s.heap s'.heap := by
      refine ⟨un.keep, un.slot, fun c o q n h2 => ?_, un.there, fun c xs q => ?_, fun c o v q => ?_, fun c qs q => ?_⟩
      · have z := un.free c o q n h2
        have nc : c ≠ p := fun y => by
          rw [y, ep] at z
          cases z
        rw [upd_ne nc]
        exact z
      · rw [upd_ne (ne_of_none q np)]
        exact un.tups c xs q
      · rw [upd_ne (ne_of_none q np)]
        exact un.frzs c o v q
      · rw [upd_ne (ne_of_none q np)]
        exact un.tbls c qs q
    exact ⟨v, H'', os, bare, un_fg un2 fg, hok_fg he.hok hok2 fg, rv, q⟩
end
end TB
namespace TB
open PySem PySem.Spec PyProof.Rows L2
/-- as FnOk, of calls where no guard lies below -/
structure FnG (P : Program) (w : World) (K : PySem.W.Frag) (mg : Str → Option Value) (base : Heap) (CX : CXT) (k : Nat) (f : Addr) (fd : FuncData) (ps : List Str) (sp : Sp) : Prop where
  lenG : ∀ vs H Q E, sp vs H Q E → vs.length = ps.length
  runG : ∀ (A : Around) (outer : List Env) (s : Shared) (H : Hp) (args : Args) (us : List Value) (vs : List V) (Q : VK) (E : XK), A.guards = some [] → Room k A → Env0 P w K mg base A outer s H → BindsTo s fd args (ps.zip us) → Vals vs us →
    sp vs H Q E → codeAny (model P w) A (.call (.ref f) args) (CR CX outer P w H s Q E) s
section
variable {P : Program} {w : World} {K : PySem.W.Frag} {mg : Str → Option Value} {base : Heap} {CX : CXT} {k : Nat} {f : Addr} {fd : FuncData} {ps : List Str} {sp sp' : Sp}
/-- a def of the text, by its body, where no guard lies below -/
theorem fng_of {x qual : Str} {params : Arguments} {body : List Stmt} {scope : Scope} {dvs : List V} {kws : List (Str × V)} {N : List Str}
    (F : FunD K x qual params body scope dvs kws f fd) (S : FnScope N ps scope) (len : ∀ vs H Q E, sp vs H Q E → vs.length = ps.length)
    (hbody : ∀ (cdv : Value) (A : Around) (outer : List Env) (s : Shared) (H : Hp) (vs : List V) (Q : VK) (E : XK), A.guards = some [] →
      Room k (A.deeper (envOfC qual scope s.heap.objs.size f cdv)) → sp vs H Q E →
      ∃ t, PSs (cxOf CX P w K mg base N qual scope f cdv A outer s H E) body t ∧ t { nx := fun _ H' => Q .non H', rt := Q } (start N vs) H) :
    FnG P w K mg base CX (k + 1) f fd ps sp := by
  obtain ⟨oc, od, dV, kV, doc, pm, an, cdv, ct, osl, rfl, lk, hcd, _, _⟩ := F.ex
  refine ⟨len, ?_⟩
  intro A outer s H args us vs Q E g hr e0 hb rv hsp
  have hl := len _ _ _ _ hsp
  have kx : K.In s.heap := e0.mod.kin.keeps (fun b o e => And.left (e0.bs b o e))
  have nl : s.heap.NoLimit := e0.mod.nolimit.keeps (fun b o e => And.left (e0.bs b o e))
  obtain ⟨t, ht, hq⟩ := hbody cdv A outer s H vs Q E g (hr.deeper _) hsp
  refine codeAny_call_function hr.depth (kx _ _ lk) rfl S.co S.gen rfl (PySem.W.codeRec_of kx hcd) (hb _ _ _ _ (wpAny_newFunctionEnv_cells S.kind ?_ ?_))
  · rintro ⟨n, v⟩ hy
    rcases S.par n (List.of_mem_zip hy).1 with z | z
    · exact Or.inl z
    · exact Or.inr ⟨z, PySem.W.cellsFrom_some _ _ _ (Or.inl z)⟩
  · rintro env rfl s1 x
    refine ⟨nl.keeps x.toInCall.keep, codeAny_func ?_⟩
    refine wpAny_mono (ht.run [] s1 (start N vs) H _ (inv_start S hr.hd e0 hl rv x) hq) ?_ (fun _ _ z => z)
    rintro (_ | _ | _ | u) s' hs
    · obtain ⟨σ', H', J, q⟩ := hs
      exact ⟨V.non, H', J.os, J.bare, J.base, J.hok, rfl, q⟩
    · exact (hs.elim fun _ z => z.elim fun _ z => z.2.elim)
    · exact (hs.elim fun _ z => z.elim fun _ z => z.2.elim)
    · obtain ⟨v, σ', H', J, r2, q⟩ := hs
      exact ⟨v, H', J.os, J.bare, J.base, J.hok, r2, q⟩
/-- a def by its name, with FnG's promise -/
structure CalG (P : Program) (w : World) (K : PySem.W.Frag) (mg : Str → Option Value) (base : Heap) (k : Nat) (x : Str) (sp : Sp) : Prop where
  gex : ∃ (f : Addr) (fd : FuncData) (ps : List Str), FnG P w K mg base CX0 k f fd ps sp ∧ mg x = some (.ref f) ∧ PySem.W.keepIn K (.ref f) = true ∧ Binds K fd ps []
end
section
variable {X : Cx} {k j : Nat} {x : Str} {sp : Sp} {p pos : Pos} {e : Expr} {es : List Expr} {t : TA}
theorem run_fng {f : Addr} {fd : FuncData} {ps : List Str} {CX : CXT} {E : XK} {pins : List (Addr × Obj)} {σ : L2.St} {H : Hp} {s : Shared} {Q : VK} {us : List Value} {vs : List V}
    (F : FnG X.prog X.w X.K X.mg X.base CX k f fd ps sp) (g : X.A.guards = some []) (hr : Room k X.A) (hb : Binds X.K fd ps []) (hx : Passes CX X E) (I : Inv X pins σ H s) (rv : Vals vs us) (h : sp vs H Q E) :
    wpAny (model X.prog X.w) X.A (call (.ref f) us) (EP X pins σ Q) X.xe s := by
  have hl : (us ++ []).length = ps.length := by
    rw [List.append_nil, ← rv.length]
    exact F.lenG _ _ _ _ h
  have hb2 := hb s us I.kIn hl
  rw [List.append_nil] at hb2
  refine wpAny_call (codeAny_mono (F.runG X.A X.stack s H ⟨us, []⟩ us vs Q E g hr I.env0 hb2 rv h) ?_)
  rintro (er | (_ | _ | _ | u)) s' hq
  · exact hx pins σ H s er s' I hq
  · exact hq.elim
  · exact hq.elim
  · exact hq.elim
  · exact I.after hq
theorem pe_cG (c : CalG X.prog X.w X.K X.mg X.base k x sp) (g : X.A.guards = some []) (hr : Room j X.A) (hk : k ≤ j) (hg : Gl X x) (ha : PA X (e :: es) t)
    (hdb : (x == ("__debug__" : Str)) = false := by decide) (he : starEach (e :: es) X.env = (false, eval e X.env) :: starEach es X.env := by rfl)
    (hpl : (backTo pos (starEach es X.env)).any (·.1) = false := by rfl) : PE X (.Call (.Name x p) (e :: es) [] pos) (tCall sp [] E0 t) := by
  obtain ⟨f, fd, ps, F, hm, kp, b⟩ := c.gex
  constructor
  intro pins s σ H Q I h
  refine wpAny_Call_Name_kw (ld_glob I hg hm ?_ hdb)
  refine PySem.W.callWith_K (h₀ := X.base) I.ok.mod.kin kp ?_ he hpl
  refine thn (ha.run pos pins s σ H _ I h) ?_
  rintro us s1 ⟨vs, H1, I1, r, q⟩
  refine ⟨I1.kIn, run_fng F g (hr.mono hk) b pass0 I1 r ?_⟩
  have q2 : sp (vs ++ []) H1 Q E0 := q
  rw [List.append_nil] at q2
  exact q2
end
end TB
namespace TB
open PySem PySem.Spec PyProof.Rows L2
section
variable {σ : L2.St} {H : Hp} {D : Ends} {Q : VK} {QT : Bool → Hp → Prop} {QA : List V → Hp → Prop} {t u : TS} {te ta tb : TE} {tc td : TT} {tl : TA} {g : TG} {i : Nat} {v x y : V}
theorem st_seq (h : t { D with nx := u D } σ H) : tSeq t u D σ H := h
theorem st_next (h : D.nx σ H) : tNext D σ H := h
theorem st_drop (h : te σ H fun _ H1 => D.nx σ H1) : tDrop te D σ H := h
theorem st_ret (h : te σ H D.rt) : tRet te D σ H := h
theorem st_asg (h : te σ H fun x H1 => g x σ H1 D.nx) : tAsg te g D σ H := h
theorem st_name {R : L2.St → Hp → Prop} (h : R (σ.set i (some v)) H) : gName i v σ H R := h
theorem st_var (e : σ[i]? = some (some v)) (h : Q v H) : tVar i σ H Q := ⟨v, e, h⟩
theorem st_c (h : Q v H) : tC v σ H Q := h
theorem st_op {r : R2} (h : ta σ H fun x H1 => tb σ H1 fun y H2 => r x y H2 Q) : tOp r ta tb σ H Q := h
theorem st_cons (h : ta σ H fun x H1 => tl σ H1 fun xs H2 => QA (x :: xs) H2) : tCons ta tl σ H QA := h
theorem st_nil (h : QA [] H) : tNil σ H QA := h
theorem st_cb {r : List V → Hp → VK → Prop} (h : tl σ H fun vs H1 => r vs H1 Q) : tCB r tl σ H Q := h
theorem st_call {sp : Sp} {dvs : List V} {E : XK} (h : tl σ H fun vs H1 => sp (vs ++ dvs) H1 Q E) : tCall sp dvs E tl σ H Q := h
theorem st_ifs (h : tc σ H fun b H1 => if b = true then t D σ H1 else u D σ H1) : tIfS tc t u D σ H := h
theorem st_if (h : tc σ H fun b H1 => if b = true then ta σ H1 Q else tb σ H1 Q) : tIf tc ta tb σ H Q := h
theorem st_test (h : te σ H fun x H1 => ∃ k, x = .bl k ∧ QT k H1) : tTest te σ H QT := h
theorem st_tb (h : te σ H fun x H1 => ∃ k, x = .bl k ∧ QT k H1) : tB te σ H QT := h
theorem st_not (h : tc σ H fun c H1 => QT (!c) H1) : tNot tc σ H QT := h
theorem st_or (h : tc σ H fun c H1 => if c = true then QT true H1 else td σ H1 QT) : tOr tc td σ H QT := h
theorem st_yes (h : QT true H) : tYes σ H QT := h
theorem st_lst (h : tl σ H fun xs H1 => xs.length ≤ sizeLine ∧ ∀ p, H1 p = none → Q (.ref p) (upd H1 p (.lst xs))) : tLst tl σ H Q := h
theorem st_tup (h : tl σ H fun xs H1 => xs.length ≤ sizeLine ∧ ∀ p, H1 p = none → Q (.ref p) (upd H1 p (.tup xs))) : tTup tl σ H Q := h
theorem st_bm {K : PySem.W.Frag} {T : String} {r : V → List V → Hp → VK → Prop} (h : te σ H fun x H1 => tyV K T x H1 ∧ tl σ H1 fun xs H2 => r x xs H2 Q) : tBM K T r te tl σ H Q := h
theorem st_m1 {r : V → List V → Hp → VK → Prop} (h : ta σ H fun x H1 => (∃ a, x = .str a) ∧ tb σ H1 fun y H2 => r x [y] H2 Q) : tM1 r ta tb σ H Q := h
theorem st_I0 {g : Int → Int → V} {i j : Int} (h : Q (g i j) H) : rI0 g (.int i) (.int j) H Q := ⟨i, j, rfl, rfl, h⟩
theorem st_I {C : Int → Int → Prop} {g : Int → Int → V} {i j : Int} (c : C i j) (h : Q (g i j) H) : rI C g (.int i) (.int j) H Q := ⟨i, j, rfl, rfl, c, h⟩
theorem st_eq (c : scal x y = true) (h : Q (.bl (decide (x = y))) H) : rEq x y H Q := ⟨c, h⟩
theorem st_bl {P : Bool → Prop} {b : Bool} (h : P b) : ∃ k, V.bl b = V.bl k ∧ P k := ⟨b, rfl, h⟩
theorem st_gtup {K : PySem.W.Frag} {n : Nat} {tg : TGs} {a : Addr} {xs : List V} {R : L2.St → Hp → Prop} (hs : SqT K H a xs) (hn : xs.length = n) (h : tg xs σ H R) : gTup K n tg (.ref a) σ H R := ⟨a, xs, rfl, hs, hn, h⟩
theorem st_gcons {g : TG} {tg : TGs} {vs : List V} {R : L2.St → Hp → Prop} (h : g v σ H fun σ' H' => tg vs σ' H' R) : gCons g tg (v :: vs) σ H R := ⟨v, vs, rfl, h⟩
theorem st_gnil {R : L2.St → Hp → Prop} (h : R σ H) : gNil [] σ H R := ⟨rfl, h⟩
theorem st_gsub {R : L2.St → Hp → Prop} {ts : V → V → V → Hp → (Hp → Prop) → Prop} (h : ta σ H fun o H1 => tb σ H1 fun i H2 => ts o i v H2 fun H3 => R σ H3) : gSub ta tb ts v σ H R := h
theorem st_ixL {K : PySem.W.Frag} {p : Addr} {xs : List V} {i : Int} (hs : SqL K H p xs) (e : atI xs i = some v) (h : Q v H) : rIxL K (.ref p) (.int i) H Q := ⟨p, xs, i, v, rfl, rfl, hs, e, h⟩
theorem st_ixT {K : PySem.W.Frag} {p : Addr} {xs : List V} {i : Int} (hs : SqT K H p xs) (e : atI xs i = some v) (h : Q v H) : rIxT K (.ref p) (.int i) H Q := ⟨p, xs, i, v, rfl, rfl, hs, e, h⟩
theorem st_ixS {z : Str} {i : Int} {c : Nat} (hl : z.length ≤ sizeLine) (e : atI z.cps.toList i = some c) (h : Q (.str ⟨#[c]⟩) H) : rIxS (.str z) (.int i) H Q := ⟨z, i, c, rfl, rfl, hl, e, h⟩
theorem st_setL {p : Addr} {xs : List V} {k : Int} {j : Nat} {R : Hp → Prop} (e : H p = some (.lst xs)) (n : ixN xs.length k = some j) (h : R (upd H p (.lst (xs.set j v)))) : rSetL (.ref p) (.int k) v H R := ⟨p, xs, k, j, rfl, rfl, e, n, h⟩
theorem st_in {K : PySem.W.Frag} {p : Addr} {xs : List V} (hs : SqL K H p xs) (f : flatV x = true) (a : xs.all flatV = true) (h : Q (.bl (inV x xs)) H) : rIn K false x (.ref p) H Q := ⟨p, xs, rfl, Or.inl hs, f, a, h⟩
theorem st_nin {K : PySem.W.Frag} {p : Addr} {xs : List V} (hs : SqL K H p xs) (f : flatV x = true) (a : xs.all flatV = true) (h : Q (.bl (!inV x xs)) H) : rIn K true x (.ref p) H Q := ⟨p, xs, rfl, Or.inl hs, f, a, h⟩
theorem st_append {l : Addr} {xs : List V} (h1 : H l = some (.lst xs)) (n : xs.length < sizeLine) (h : Q .non (upd H l (.lst (xs ++ [y])))) : rAppend (.ref l) [y] H Q := ⟨l, xs, y, rfl, rfl, h1, n, h⟩
end
section
variable {X : Cx} {pos : Pos}
theorem ix_listK (K : PySem.W.Frag) (hK : X.K = K := by rfl) : IxR X (rIxL K) := by subst hK; exact ix_list
theorem ix_tupK (K : PySem.W.Frag) (hK : X.K = K := by rfl) : IxR X (rIxT K) := by subst hK; exact ix_tup
theorem sl_listK (K : PySem.W.Frag) (hK : X.K = K := by rfl) : SlR X (rSlL K) := by subst hK; exact sl_list
theorem op_inK (K : PySem.W.Frag) (hK : X.K = K := by rfl) : OpR X (compareOp .In) (rIn K false) := by subst hK; exact op_in_seq
theorem op_ninK (K : PySem.W.Frag) (hK : X.K = K := by rfl) : OpR X (compareOp .NotIn) (rIn K true) := by subst hK; exact op_notIn_seq
theorem op_eqDK (K : PySem.W.Frag) (hu : X.A.units + 64 < cLine) (hK : X.K = K := by rfl) : OpR X (compareOp .Eq) (rEqD K) := by subst hK; exact op_eqD hu
theorem op_neDK (K : PySem.W.Frag) (hu : X.A.units + 64 < cLine) (hK : X.K = K := by rfl) : OpR X (compareOp .NotEq) (rNeD K) := by subst hK; exact op_neD hu
theorem op_catK (K : PySem.W.Frag) (hK : X.K = K := by rfl) : OpR X (binaryOp .Add) (rCatA K) := by subst hK; exact op_catA
theorem kBM (K : PySem.W.Frag) {e : Expr} {T : String} {r : V → List V → Hp → VK → Prop} {to : TE} {t : TA} (h : PE X e (tBM X.K T r to t)) (hK : X.K = K := by rfl) : PE X e (tBM K T r to t) := by subst hK; exact h
theorem kBM0 (K : PySem.W.Frag) {e : Expr} {T : String} {r : V → List V → Hp → VK → Prop} {to : TE} (h : PE X e (tBM0 X.K T r to)) (hK : X.K = K := by rfl) : PE X e (tBM0 K T r to) := by subst hK; exact h
theorem kFld (K : PySem.W.Frag) {e : Expr} {f : Str} {to : TE} (h : PE X e (tFld X.K to f)) (hK : X.K = K := by rfl) : PE X e (tFld K to f) := by subst hK; exact h
theorem kPI (K : PySem.W.Frag) {tg l : Expr} {to : TE} (h : PI X tg l (iList X.K to)) (hK : X.K = K := by rfl) : PI X tg l (iList K to) := by subst hK; exact h
theorem kPT (K : PySem.W.Frag) {tg l : Expr} {to : TE} (h : PI X tg l (iTup X.K to)) (hK : X.K = K := by rfl) : PI X tg l (iTup K to) := by subst hK; exact h
theorem kPEn (K : PySem.W.Frag) {tg l : Expr} {to : TA} (h : PI X tg l (iEnum X.K to)) (hK : X.K = K := by rfl) : PI X tg l (iEnum K to) := by subst hK; exact h
theorem kTup (K : PySem.W.Frag) (n : Nat) {tg : Expr} {t : TGs} (h : PG X tg (gTup X.K n t)) (hK : X.K = K := by rfl) : PG X tg (gTup K n t) := by subst hK; exact h
def rLenL (K : PySem.W.Frag) : List V → Hp → VK → Prop := fun xs H Q => ∃ p ys, xs = [.ref p] ∧ (SqL K H p ys ∨ SqT K H p ys) ∧ Q (.int ys.length) H
theorem call_lenK (K : PySem.W.Frag) (hK : X.K = K := by rfl) : CallR X (.builtin "len") (rLenL K) := by subst hK; exact call_len_seq
def rListL (K : PySem.W.Frag) : List V → Hp → VK → Prop := fun xs H Q => ∃ p ys, xs = [.ref p] ∧ (SqL K H p ys ∨ SqT K H p ys) ∧ ∀ l, H l = none → Q (.ref l) (upd H l (.lst ys))
theorem call_listK (K : PySem.W.Frag) (hK : X.K = K := by rfl) : CallR X (.type "list") (rListL K) := by subst hK; exact call_list_of
def rTupL (K : PySem.W.Frag) : List V → Hp → VK → Prop := fun xs H Q => ∃ p ys, xs = [.ref p] ∧ ((SqL K H p ys ∧ ∀ l, H l = none → Q (.ref l) (upd H l (.tup ys))) ∨ (SqT K H p ys ∧ Q (.ref p) H))
theorem call_tupK (K : PySem.W.Frag) (hK : X.K = K := by rfl) : CallR X (.type "tuple") (rTupL K) := by subst hK; exact call_tuple_of
def rJoin (K : PySem.W.Frag) : V → List V → Hp → VK → Prop := fun x xs H Q => ∃ a p, ∃ ys : List Str, x = .str a ∧ xs = [.ref p] ∧ (SqL K H p (ys.map V.str) ∨ SqT K H p (ys.map V.str)) ∧ (ys.map (·.length)).sum + ys.length * a.length ≤ 16777216 ∧ Q (.str (Txt.join a ys)) H
theorem pe_joinK (K : PySem.W.Frag) {o e : Expr} {to te : TE} {apos : Pos} (ho : PE X o to) (he : PE X e te) (hs : starEach [e] X.env = [(false, eval e X.env)] := by rfl)
    (hbase : attributeBase o "join" X.env (eval o X.env) = eval o X.env := by rfl) (hline : (apos.endLine == pos.line) = true := by rfl) (hK : X.K = K := by rfl) :
    PE X (.Call (.Attribute o "join" apos) [e] [] pos) (tM1 (rJoin K) to te) := by
  subst hK
  exact pe_join ho he hs hbase hline
def rInt1 : List V → Hp → VK → Prop := fun xs H Q => (∃ i, xs = [.int i] ∧ Q (.int i) H) ∨ ∃ k, xs = [.bl k] ∧ Q (.int (if k then 1 else 0)) H
theorem call_intB : CallR X (.type "int") rInt1 := call_int1
end
section
variable {H : Hp} {Q : VK}
theorem st_join {K : PySem.W.Frag} {a : Str} {p : Addr} {ys : List Str} (hs : SqL K H p (ys.map V.str)) (n : (ys.map (·.length)).sum + ys.length * a.length ≤ 16777216) (h : Q (.str (Txt.join a ys)) H) : rJoin K (.str a) [.ref p] H Q := ⟨a, p, ys, rfl, rfl, Or.inl hs, n, h⟩
end
theorem old_upd {H : Hp} {p a : Addr} {o u : HO} (n : H p = none) (h : H a = some u) : upd H p o a = some u := by
  rw [upd_ne (ne_of_none h n)]
  exact h
theorem oth_upd {H : Hp} {p a : Addr} {o u : HO} (n : a ≠ p) (h : H a = some u) : upd H p o a = some u := by
  rw [upd_ne n]
  exact h
theorem nil_upd {H : Hp} {p a : Addr} {o : HO} (h : upd H p o a = none) : a ≠ p ∧ H a = none := by
  by_cases q : a = p
  · subst q
    rw [upd_same] at h
    exact nomatch h
  · rw [upd_ne q] at h
    exact ⟨q, h⟩
theorem sqL_of {K : PySem.W.Frag} {H : Hp} {a : Addr} {xs : List V} (h : H a = some (.lst xs)) : SqL K H a xs := Or.inl (Or.inl h)
theorem sqT_of {K : PySem.W.Frag} {H : Hp} {a : Addr} {xs : List V} (h : H a = some (.tup xs)) : SqT K H a xs := Or.inl (Or.inl h)
theorem NoT.lst {H : Hp} {p : Addr} {xs : List V} (h : NoT H) : NoT (L2.upd H p (.lst xs)) := h.upd trivial
theorem NoT.tup {H : Hp} {p : Addr} {xs : List V} (h : NoT H) : NoT (L2.upd H p (.tup xs)) := h.upd trivial
/-- all that H tells but what stands at ls is told by H' too -/
def Kp (ls : List Addr) (H H' : Hp) : Prop := ∀ b o, H b = some o → b ∉ ls → H' b = some o
theorem Kp.refl {ls : List Addr} (H : Hp) : Kp ls H H := fun _ _ h _ => h
theorem Kp.trans {ls : List Addr} {H H1 H2 : Hp} (a : Kp ls H H1) (b : Kp ls H1 H2) : Kp ls H H2 := fun c o h n => b c o (a c o h n) n
theorem Kp.new {ls : List Addr} {H H' : Hp} {p : Addr} {o : HO} (k : Kp ls H H') (n : H' p = none) : Kp ls H (upd H' p o) := fun b u h m => old_upd n (k b u h m)
theorem Kp.mut {ls : List Addr} {H H' : Hp} {p : Addr} {o : HO} (k : Kp ls H H') (n : p ∈ ls) : Kp ls H (upd H' p o) := fun b u h m => oth_upd (fun e => m (by rw [e]; exact n)) (k b u h m)
theorem Kp.own {ls : List Addr} {H H' : Hp} {p : Addr} {o : HO} (k : Kp ls H H') (n : H p = none) : Kp ls H (upd H' p o) := fun b u h m => oth_upd (ne_of_none h n) (k b u h m)
theorem Kp.same {H H' : Hp} (k : Kp [] H H') : Same H H' := fun b o h => k b o h (by simp)
theorem cdivP {i j : Int} (h0 : 0 < j) (h1 : j < 2 ^ 64) : CDivP i j := by
  refine ⟨h0, PyProof.noPylong_of_log2 ?_⟩
  have hn : j.natAbs < 2 ^ 64 := by omega
  exact Nat.lt_trans (PySem.Flt.log2_lt_of (by decide) hn) (by decide)
end TB
namespace TB
open PySem PySem.Spec PyProof.Rows L2
/-- the walk J yields xs, one behind another, as long as ok -/
structure Wk (J : It) (xs : List V) (ok : Hp → Prop) : Prop where
  go : ∀ i H, ok H → i < xs.length → J.go i H
  stop : ∀ i H, ok H → xs.length ≤ i → J.stop i H
  yld : ∀ i H x H', ok H → i < xs.length → J.yld i H x H' → H' = H ∧ xs[i]? = some x
theorem wk_list {K : PySem.W.Frag} {a : Addr} {xs : List V} : Wk (Itl K a) xs (fun H => SqL K H a xs) :=
  ⟨fun i H h l => ⟨xs, xs[i], h, List.getElem?_eq_getElem l⟩, fun i H h l => ⟨xs, h, l⟩, fun i H x H' h _ y => ⟨y.1, y.2 xs h⟩⟩
theorem wk_tup {K : PySem.W.Frag} {a : Addr} {xs : List V} : Wk (Itt K a) xs (fun H => SqT K H a xs) :=
  ⟨fun i H h l => ⟨xs, xs[i], h, List.getElem?_eq_getElem l⟩, fun i H h l => ⟨xs, h, l⟩, fun i H x H' h _ y => ⟨y.1, y.2 xs h⟩⟩
theorem wk_range {n : Nat} : Wk (Itr 0 n) ((List.range n).map fun i : Nat => V.int (i : Int)) (fun _ => True) := by
  refine ⟨fun i H _ l => ?_, fun i H _ l => ?_, fun i H x H' _ l y => ?_⟩
  · rw [List.length_map, List.length_range] at l
    exact l
  · rw [List.length_map, List.length_range] at l
    exact l
  · obtain ⟨e, z⟩ := y
    refine ⟨e, ?_⟩
    rw [List.length_map, List.length_range] at l
    rw [List.getElem?_map, List.getElem?_range l, z]
    show some (V.int (i : Int)) = some (V.int (0 + (i : Int)))
    rw [Int.zero_add]
def signV (c : Nat) : V := .str ⟨#[c]⟩
theorem wk_str {z : Str} : Wk (Its z) (z.cps.toList.map signV) (fun _ => True) := by
  refine ⟨fun i H _ l => ?_, fun i H _ l => ?_, fun i H x H' _ l y => ?_⟩
  · rw [List.length_map] at l
    exact l
  · rw [List.length_map] at l
    exact l
  · obtain ⟨e, c, hc, rfl⟩ := y
    refine ⟨e, ?_⟩
    rw [List.getElem?_map, Array.getElem?_toList, hc]
    rfl
/-- what a for loop over J asks -/
def ForG (J : It) (g : TG) (tb : TS) (D : Ends) (σ : L2.St) (H : Hp) : Prop := ∃ W : Nat → Nat → L2.St → Hp → Prop, (∃ m, W 0 m σ H) ∧ ∀ i m σ H, W i m σ H →
  (J.stop i H ∧ D.nx σ H) ∨ (J.go i H ∧ ∃ N : L2.St → Hp → Prop, (∀ σ' H', N σ' H' → ∃ m', m' < m ∧ W (i + 1) m' σ' H') ∧ ∀ x H', J.yld i H x H' → g x σ H' fun σ2 H2 => tb { D with nx := N, ct := N, bk := D.nx } σ2 H2)
/-- what a list comprehension over J asks -/
def LcG (J : It) (g : TG) (tt : TT) (te : TE) (vs : List Nat) (σ : L2.St) (Q : VK) (H1 : Hp) : Prop := ∀ D, H1 D = none → ∃ W : Nat → Nat → Hp → Prop, (∃ m, W 0 m (upd H1 D (.lst []))) ∧ ∀ i m H, W i m H →
  (J.stop i H ∧ Q (.ref D) H) ∨ (J.go i H ∧ ∃ Nx : Hp → Prop, (∀ H', Nx H' → ∃ m', m' < m ∧ W (i + 1) m' H') ∧ ∀ x H', J.yld i H x H' → g x (wipe σ vs) H' fun σ2 H2 => wipe σ2 vs = wipe σ vs ∧ tt σ2 H2 fun b H3 =>
    if b = true then te σ2 H3 fun y H4 => ∃ acc, H4 D = some (.lst acc) ∧ acc.length < sizeLine ∧ Nx (upd H4 D (.lst (acc ++ [y]))) else Nx H3)
section
variable {σ : L2.St} {H : Hp} {Q : VK} {wi : TI} {g : TG} {tt : TT} {te tl : TE} {ta : TA} {vs : List Nat} {tb : TS} {D : Ends} {R : It → Hp → Prop} {K : PySem.W.Frag}
theorem st_for (h : wi σ H fun J H1 => ForG J g tb D σ H1) : tFor wi g tb D σ H := h
theorem st_lc (h : wi σ H fun J H1 => LcG J g tt te vs σ Q H1) : tLc wi g tt te vs σ H Q := h
theorem st_rng1 (h : ta σ H fun vs H1 => ∃ j : Int, vs = [.int j] ∧ -(2 ^ 62) ≤ j ∧ j < 2 ^ 62 ∧ R (Itr 0 j.toNat) H1) : iRng1 ta σ H R := h
theorem st_il (h : tl σ H fun x H1 => ∃ a, x = .ref a ∧ (∃ xs, SqL K H1 a xs) ∧ R (Itl K a) H1) : iList K tl σ H R := h
theorem st_is (h : tl σ H fun v H1 => ∃ x, v = .str x ∧ R (Its x) H1) : iStr tl σ H R := h
end
section
variable {J : It} {xs : List V} {ok : Hp → Prop} {g : TG} {tb : TS} {D : Ends} {σ : L2.St} {H : Hp}
/-- a for loop, by what holds ahead of each turn -/
theorem for_walk (w : Wk J xs ok) (Pv : Nat → L2.St → Hp → Prop) (h0 : Pv 0 σ H) (hk : ∀ i σ H, Pv i σ H → ok H)
    (hs : ∀ i x σ H, xs[i]? = some x → Pv i σ H → g x σ H fun σ2 H2 => tb { D with nx := Pv (i + 1), ct := Pv (i + 1), bk := D.nx } σ2 H2) (hd : ∀ σ H, Pv xs.length σ H → D.nx σ H) : ForG J g tb D σ H := by
  refine ⟨fun i m σ H => m = xs.length - i ∧ i ≤ xs.length ∧ Pv i σ H, ⟨xs.length, by simp, Nat.zero_le _, h0⟩, ?_⟩
  rintro i m σ H ⟨rfl, hi, p⟩
  by_cases lt : i < xs.length
  · refine Or.inr ⟨w.go i H (hk i σ H p) lt, Pv (i + 1), fun σ' H' p' => ⟨xs.length - (i + 1), by omega, rfl, lt, p'⟩, fun x H' y => ?_⟩
    obtain ⟨rfl, e⟩ := w.yld i H x H' (hk i σ H p) lt y
    exact hs i x σ _ e p
  · obtain rfl : i = xs.length := by omega
    exact Or.inl ⟨w.stop _ H (hk _ σ H p) (Nat.le_refl _), hd σ H p⟩
end
section
variable {J : It} {xs : List V} {ok : Hp → Prop} {g : TG} {tt : TT} {te : TE} {vs : List Nat} {σ : L2.St} {H1 : Hp} {Q : VK}
/-- a list comprehension: acc is what stands in the new list at D -/
theorem lc_walk (w : Wk J xs ok) (Pv : Addr → Nat → List V → Hp → Prop) (h0 : ∀ D, H1 D = none → Pv D 0 [] (upd H1 D (.lst []))) (hk : ∀ D i acc H, Pv D i acc H → ok H)
    (hs : ∀ D i x acc H, H1 D = none → xs[i]? = some x → Pv D i acc H → g x (wipe σ vs) H fun σ2 H2 => wipe σ2 vs = wipe σ vs ∧ tt σ2 H2 fun b H3 =>
      if b = true then te σ2 H3 fun y H4 => ∃ acc', H4 D = some (.lst acc') ∧ acc'.length < sizeLine ∧ ∃ a2, Pv D (i + 1) a2 (upd H4 D (.lst (acc' ++ [y]))) else ∃ a2, Pv D (i + 1) a2 H3)
    (hd : ∀ D acc H, H1 D = none → Pv D xs.length acc H → Q (.ref D) H) : LcG J g tt te vs σ Q H1 := by
  intro D nD
  refine ⟨fun i m H => m = xs.length - i ∧ i ≤ xs.length ∧ ∃ acc, Pv D i acc H, ⟨xs.length, by simp, Nat.zero_le _, [], h0 D nD⟩, ?_⟩
  rintro i m H ⟨rfl, hi, acc, p⟩
  by_cases lt : i < xs.length
  · refine Or.inr ⟨w.go i H (hk D i acc H p) lt, fun H' => ∃ acc, Pv D (i + 1) acc H', fun H' p' => ⟨xs.length - (i + 1), by omega, rfl, lt, p'⟩, fun x H' y => ?_⟩
    obtain ⟨rfl, e⟩ := w.yld i H x H' (hk D i acc H p) lt y
    exact hs D i x acc _ nD e p
  · obtain rfl : i = xs.length := by omega
    exact Or.inl ⟨w.stop _ H (hk D _ acc H p) (Nat.le_refl _), hd D acc H nD p⟩
end
/-- a tracked thing changed, nothing new told -/
theorem Fg.mut1 {H H' : Hp} {p : Addr} {o u : HO} (k : Kp [p] H H') (n : NoT H) (e : H p = some u) (e' : H' p = some o) (no : noT o) (lo : ∀ H, leans H p o) (nu : ∀ y, u ≠ .own y) : Fg H H' (upd H p o) := by
  have lk : ∀ (a : Addr) (v : HO), leans H a v → leans (upd H p o) a v := by
    intro a v
    induction v with
    | ins C dx fs =>
      intro l
      have l2 : H dx = some (.own a) := l
      exact oth_upd (fun z => nu a (by rw [z, e] at l2; exact Option.some.inj l2)) l2
    | frz ob v ih => exact fun l => ih l
    | _ => exact fun _ => trivial
  refine ⟨fun b v q => ?_, fun b v v' q q' => ?_, fun a v q z => ?_, fun a v q l v' q' => ?_, n.upd no⟩
  · by_cases hb : b = p
    · subst hb
      rw [upd_same] at q
      cases q
      exact e'
    · rw [upd_ne hb] at q
      exact k b v q (by simpa using hb)
  · by_cases hb : b = p
    · subst hb
      rw [upd_same, ← q']
      exact e'.symm
    · rw [upd_ne hb, ← q', k b v q (by simpa using hb)]
      exact q
  · by_cases hb : a = p
    · rw [hb, e] at z
      exact nomatch z
    · rw [upd_ne hb, z] at q
      exact nomatch q
  · by_cases hb : a = p
    · subst hb
      rw [upd_same] at q'
      cases q'
      exact lo _
    · rw [upd_ne hb, q] at q'
      cases q'
      exact lk a v l
abbrev tl (z : Str) : List Nat := z.cps.toList
theorem erase_perm {α : Type} : ∀ {l : List α} {j : Nat} (h : j < l.length), ([l[j]] ++ l.eraseIdx j).Perm l
  | a :: r, 0, _ => List.Perm.refl _
  | a :: r, j + 1, h => by
    have ih := erase_perm (l := r) (j := j) (Nat.lt_of_succ_lt_succ h)
    have hj : j < r.length := Nat.lt_of_succ_lt_succ h
    show (r[j]'hj :: (a :: r.eraseIdx j)).Perm (a :: r)
    exact (List.Perm.swap a (r[j]'hj) _).trans (List.Perm.cons a ih)
theorem erase_map {α β : Type} (f : α → β) : ∀ (l : List α) (j : Nat), (l.map f).eraseIdx j = (l.eraseIdx j).map f
  | [], _ => rfl
  | _ :: _, 0 => rfl
  | a :: r, j + 1 => by
    show f a :: (r.map f).eraseIdx j = f a :: (r.eraseIdx j).map f
    rw [erase_map f r j]
/-- one to eight small letters -/
def Nm (z : Str) : Prop := 1 ≤ (tl z).length ∧ (tl z).length ≤ 8 ∧ ∀ c ∈ tl z, 97 ≤ c ∧ c ≤ 122
def nmB (z : Str) : Bool := decide (1 ≤ (tl z).length) && (decide ((tl z).length ≤ 8) && (tl z).all fun c => decide (97 ≤ c) && decide (c ≤ 122))
theorem nm_of {z : Str} (h : nmB z = true) : Nm z := by
  unfold nmB at h
  simp only [Bool.and_eq_true, decide_eq_true_eq, List.all_eq_true] at h
  exact ⟨h.1, h.2.1, h.2.2⟩
theorem beq_str (a b : Str) : (a == b) = decide (a = b) := by
  cases h : (a == b) with
  | true => exact (decide_eq_true (eq_of_beq h)).symm
  | false => exact (decide_eq_false (fun e => by rw [e] at h; exact Bool.false_ne_true (h.symm.trans (beq_self_eq_true b)))).symm
theorem inV_strs (z : Str) (ws : List Str) : inV (.str z) (ws.map V.str) = decide (z ∈ ws) := by
  unfold inV
  induction ws with
  | nil => simp
  | cons a r ih =>
    rw [List.map_cons, List.any_cons, ih]
    show ((a == z) || decide (z ∈ r)) = decide (z ∈ a :: r)
    rw [beq_str]
    by_cases e : a = z
    · subst e
      simp
    · have e2 : ¬ z = a := fun q => e q.symm
      simp [e, e2]
theorem flat_strs (ws : List Str) : (ws.map V.str).all flatV = true := by
  rw [List.all_eq_true]
  intro v hv
  obtain ⟨z, _, rfl⟩ := List.mem_map.mp hv
  rfl
/-- an item of a short list at a drawn place -/
theorem at_some {xs : List V} {d : Int} (h0 : 0 ≤ d) (h1 : d < (xs.length : Int)) : ∃ v, v ∈ xs ∧ atI xs d = some v := by
  obtain ⟨j, rfl⟩ : ∃ j : Nat, d = (j : Int) := ⟨d.toNat, by omega⟩
  have hj : j < xs.length := by omega
  exact ⟨xs[j], List.getElem_mem hj, atI_nat (List.getElem?_eq_getElem hj)⟩
theorem at_some' {α : Type} {xs : List α} {d : Int} (h0 : 0 ≤ d) (h1 : d < (xs.length : Int)) : ∃ (j : Nat) (hj : j < xs.length), d = (j : Int) ∧ atI xs d = some xs[j] := by
  obtain ⟨j, rfl⟩ : ∃ j : Nat, d = (j : Int) := ⟨d.toNat, by omega⟩
  have hj : j < xs.length := by omega
  exact ⟨j, hj, rfl, atI_nat (List.getElem?_eq_getElem hj)⟩
theorem joinL_signs : ∀ cs : List Nat, TL.joinL [] (cs.map fun c => [c]) = cs
  | [] => rfl
  | [c] => rfl
  | c :: d :: r => by
    have ih := joinL_signs (d :: r)
    show [c] ++ [] ++ TL.joinL [] ((d :: r).map fun c => [c]) = c :: d :: r
    rw [ih]
    rfl
theorem join_signs (cs : List Nat) : Txt.join "" (cs.map fun c => (⟨#[c]⟩ : Str)) = ⟨cs.toArray⟩ := by
  have e := SX.join_S [] (cs.map fun c => [c])
  rw [joinL_signs, List.map_map] at e
  exact e
theorem signs_fit {cs : List Nat} (h : cs.length ≤ 1000) : ((cs.map fun c => (⟨#[c]⟩ : Str)).map (·.length)).sum + (cs.map fun c => (⟨#[c]⟩ : Str)).length * ("" : Str).length ≤ 16777216 := by
  have e : ∀ l : List Nat, ((l.map fun c => (⟨#[c]⟩ : Str)).map (·.length)).sum = l.length := by
    intro l
    induction l with
    | nil => rfl
    | cons a r ih =>
      rw [List.map_cons, List.map_cons, List.sum_cons, ih, List.length_cons]
      show 1 + r.length = r.length + 1
      omega
  have z : ("" : Str).length = 0 := rfl
  rw [e, z]
  omega
theorem nodup_le {α : Type} [DecidableEq α] : ∀ {l m : List α}, l.Nodup → (∀ x ∈ l, x ∈ m) → l.length ≤ m.length
  | [], _, _, _ => Nat.zero_le _
  | x :: l, m, h, s => by
    obtain ⟨h1, h2⟩ := List.nodup_cons.mp h
    have hx : x ∈ m := s x (List.mem_cons_self ..)
    have ih := nodup_le (l := l) (m := m.erase x) h2 fun y hy => (List.mem_erase_of_ne (fun e => h1 (by rw [← e]; exact hy))).mpr (s y (List.mem_cons_of_mem _ hy))
    rw [List.length_erase_of_mem hx] at ih
    have : 0 < m.length := List.length_pos_of_mem hx
    rw [List.length_cons]
    omega
def abc : List Nat := tl "abcdefghijklmnopqrstuvwxyz"
/-- fewer than twenty-six names leave a letter -/
theorem free_letter {ws : List Str} (h : ws.length < 26) : ∃ c r, abc.filter (fun c => !decide ((⟨#[c]⟩ : Str) ∈ ws)) = c :: r ∧ c ∈ abc ∧ (⟨#[c]⟩ : Str) ∉ ws := by
  cases e : abc.filter (fun c => !decide ((⟨#[c]⟩ : Str) ∈ ws)) with
  | cons c r =>
    have hc : c ∈ abc.filter (fun c => !decide ((⟨#[c]⟩ : Str) ∈ ws)) := by
      rw [e]
      exact List.mem_cons_self ..
    obtain ⟨h1, h2⟩ := List.mem_filter.mp hc
    refine ⟨c, r, rfl, h1, ?_⟩
    simpa using h2
  | nil =>
    have all : ∀ x ∈ abc.map (fun c => (⟨#[c]⟩ : Str)), x ∈ ws := by
      intro x hx
      obtain ⟨c, hc, rfl⟩ := List.mem_map.mp hx
      have := List.filter_eq_nil_iff.mp e c hc
      simpa using this
    have nd : (abc.map (fun c => (⟨#[c]⟩ : Str))).Nodup := by decide +kernel
    have := nodup_le nd all
    have l26 : (abc.map (fun c => (⟨#[c]⟩ : Str))).length = 26 := by decide +kernel
    omega
theorem abc_nm {c : Nat} (h : c ∈ abc) : Nm ⟨#[c]⟩ := by
  have all : ∀ c ∈ abc, 97 ≤ c ∧ c ≤ 122 := by decide +kernel
  refine ⟨by show 1 ≤ 1; decide, by show 1 ≤ 8; decide, fun d hd => ?_⟩
  have e : d = c := by simpa [tl] using hd
  subst e
  exact all d h
end TB
namespace TB
open PySem PySem.Spec PyProof.Rows L2
end TB
namespace TB
open PySem PySem.Spec PyProof.Rows L2
def dStrs (ws : List Str) : PyData := .list (ws.map .str)
section
variable {K : PySem.W.Frag} {H H' : Hp}
theorem dpAll_strs : ∀ ws : List Str, DpAll K H (ws.map V.str) (ws.map .str)
  | [] => .nil
  | w :: r => .cons (.str w) (dpAll_strs r)
theorem dp_strs {a : Addr} {ws : List Str} (h : SqL K H a (ws.map V.str)) : Dp K H (.ref a) (dStrs ws) := .lst h (dpAll_strs ws)
/-- a list of texts stands at v, to be changed -/
def LL (H : Hp) (v : V) (ws : List Str) : Prop := ∃ a, v = .ref a ∧ H a = some (.lst (ws.map V.str))
theorem LL.kp {v : V} {ws : List Str} (h : LL H v ws) (k : Kp [] H H') : LL H' v ws := by
  obtain ⟨a, e, h⟩ := h
  exact ⟨a, e, k.same _ _ h⟩
theorem LL.all (k : Kp [] H H') : ∀ {vs : List V} {wss : List (List Str)}, Paired (LL H) vs wss → Paired (LL H') vs wss
  | _, _, .nil => .nil
  | _, _, .cons h t => .cons (h.kp k) (LL.all k t)
theorem LL.ne {D : Addr} (nD : H D = none) : ∀ {vs : List V} {wss : List (List Str)}, Paired (LL H) vs wss → ∀ u ∈ vs, u ≠ .ref D
  | _, _, .nil, _, hu, _ => by simp at hu
  | _, _, .cons h t, u, hu, e => by
    rcases List.mem_cons.mp hu with q | q
    · obtain ⟨a, rfl, h⟩ := h
      rw [q] at e
      cases e
      rw [nD] at h
      exact nomatch h
    · exact LL.ne nD t u q e
end
theorem showAll_map {α : Type} {f : α → PyData} : ∀ {l : List α}, (∀ x ∈ l, (f x).showable = true) → PyData.showableAll (l.map f) = true
  | [], _ => by simp only [List.map_nil, PyData.showableAll]
  | a :: r, h => by
    simp only [List.map_cons, PyData.showableAll]
    rw [h a (List.mem_cons_self ..), showAll_map fun x hx => h x (List.mem_cons_of_mem _ hx)]
    rfl
theorem depthAll_map {α : Type} {f : α → PyData} {n : Nat} : ∀ {l : List α}, (∀ x ∈ l, (f x).depth ≤ n) → PyData.depthAll (l.map f) ≤ n
  | [], _ => by simp only [List.map_nil, PyData.depthAll]; exact Nat.zero_le _
  | a :: r, h => by
    simp only [List.map_cons, PyData.depthAll]
    exact Nat.max_le.mpr ⟨h a (List.mem_cons_self ..), depthAll_map fun x hx => h x (List.mem_cons_of_mem _ hx)⟩
theorem shownAll_map {α : Type} {f : α → PyData} : ∀ l : List α, PyData.shownAll (l.map f) = l.map fun x => (f x).shown
  | [] => by simp only [List.map_nil, PyData.shownAll]
  | a :: r => by simp only [List.map_cons, PyData.shownAll, shownAll_map r]
theorem sum_le {α : Type} {g : α → Nat} {B : Nat} : ∀ {l : List α}, (∀ x ∈ l, g x ≤ B) → (l.map g).sum ≤ l.length * B
  | [], _ => by simp
  | a :: r, h => by
    rw [List.map_cons, List.sum_cons, List.length_cons, Nat.succ_mul]
    have h1 := h a (List.mem_cons_self ..)
    have h2 := sum_le (l := r) fun x hx => h x (List.mem_cons_of_mem _ hx)
    omega
theorem shown_list_le {α : Type} {f : α → PyData} {B : Nat} {l : List α} (h : ∀ x ∈ l, (f x).shown.length ≤ B) : (PyData.list (l.map f)).shown.length ≤ l.length * B + 2 * l.length + 3 := by
  have e : (PyData.list (l.map f)).shown = listText (l.map fun x => (f x).shown) := by
    simp only [PyData.shown]
    rw [shownAll_map]
  rw [e]
  have h1 := listText_len_le (l.map fun x => (f x).shown)
  rw [List.map_map, List.length_map] at h1
  have h2 : (l.map ((fun x : Str => x.length) ∘ fun x => (f x).shown)).sum ≤ l.length * B := sum_le fun x hx => h x hx
  omega
theorem shown_nm {z : Str} (h : Nm z) : (PyData.str z).shown.length ≤ 82 := by
  simp only [PyData.shown]
  have e := StrLaws.reprText_len z fun c hc => by
    have := (h.2.2 c hc).2
    exact Nat.lt_of_le_of_lt this (by decide)
  have h8 : z.length ≤ 8 := by
    have := h.2.1
    rw [Array.length_toList] at this
    exact this
  omega
theorem shown_int_le {i : Int} (h : i.natAbs < 10 ^ 12) : (PyData.int i).shown.length ≤ 13 := PyData.shown_int_le h
theorem strs_show (ws : List Str) : (dStrs ws).showable = true := by
  simp only [dStrs, PyData.showable]
  exact showAll_map fun x _ => by simp only [PyData.showable]
theorem strs_depth (ws : List Str) : (dStrs ws).depth ≤ 1 := by
  simp only [dStrs, PyData.depth]
  have := depthAll_map (f := PyData.str) (n := 0) (l := ws) fun x _ => by simp only [PyData.depth]; exact Nat.le_refl _
  omega
end TB
namespace TB
open PySem PySem.Spec PyProof.Rows L2 LamX NdefX
section
variable {P : Program} {w : World} {K : PySem.W.Frag} {mg : Str → Option Value} {base : Heap} {N ps fr : List Str} {F : NF} {f : Addr} {k : Nat}
theorem lam_call {A : Around} {outer : List Env} {s : Shared} {H : Hp} {us : List Value} {vs : List V} {ws : List (Option V)} {Q : VK} {pm ctv : Value} {body : Expr} {t : TE} (S : NScope N ps fr F.scope)
    (hb : bindArgs (PySem.W.kla_fn "<lambda>" F.qual F.params body F.scope F.cl pm (.ref F.c) ctv) ⟨us, []⟩ = pure (ps.zip us)) (hr : Room (k + 1) A) (e0 : Env0 P w K mg base A outer s H)
    (hf : s.heap.get? f = some (PySem.W.kla_obj "<lambda>" F.qual F.params body F.scope F.cl pm F.c ctv)) (hc : H F.c = some (CodeO F.c F.qual)) (C : CellsAt F.cl fr ws s.heap H) (r : Vals vs us) (hl : vs.length = ps.length)
    (hbody : PE (ncx CX0 P w K mg base N F f A outer s H E0) body t) (ht : t (startF N vs ws) H Q) : codeAny (model P w) A (.call (.ref f) ⟨us, []⟩) (CR CX0 outer P w H s Q E0) s := by
  have lim : s.heap.NoLimit := e0.mod.nolimit.keeps (fun b o e => And.left (e0.bs b o e))
  refine PySem.W.kla_callFunE hr.depth hf rfl S.co S.gen rfl (codeO_at e0.hok hc) ?_
  rw [hb]
  refine wpAny_pure (wpAny_newFunctionEnv S.nocell ?_ ?_ S.kind)
  · rintro ⟨n, v⟩ hy
    exact S.par n (List.of_mem_zip hy).1
  intro h₁ hns hsb
  refine ⟨lim.fresh _ hsb, ?_⟩
  have kp : ∀ b o, s.heap.get? b = some o → h₁.get? b = some o := by
    intro b o e
    exact hsb.extBut b o (Nat.ne_of_lt (Heap.lt_size e)) (Heap.get?_push_of_some _ e)
  have I := inv_startN (f := f) (CX := CX0) (E := E0) (tk := s.toks + (ps.zip us).length) S hr.hd e0 hl r C hns kp
  show codeAny _ _ (.expr body (envF F f s.heap.objs.size)) _ _
  refine PySem.W.kla_codeExpr (wpAny_mono (hbody.run [] _ _ H Q I ht) ?_ (fun _ _ z => z))
  rintro v s' ⟨u, H', J, rv, q⟩
  exact ⟨u, H', J.os, J.bare, J.base, J.hok, rv, q⟩
end
open SrtO Srt in
section
variable {prog : Program} {w : World} {A : Around} {E : Value → Shared → Prop} {s : Shared}
theorem pair_fun {h : Heap} {v : Value} {i j i' j' : Int} (a : IsPair h v i j) (b : IsPair h v i' j') : (i, j) = (i', j') := by
  obtain ⟨p, o, t, u, n, e, ho, hc, hd⟩ := a
  obtain ⟨p', o', t', u', n', e', ho', hc', hd'⟩ := b
  rw [e] at e'
  cases e'
  rw [ho] at ho'
  cases ho'
  rw [hd] at hd'
  cases hd'
  rfl
open Classical in
/-- the two numbers of a pair in h -/
noncomputable def kkOf (h : Heap) (v : Value) : Int × Int := if c : ∃ z : Int × Int, IsPair h v z.1 z.2 then c.choose else (0, 0)
theorem kk_eq {h : Heap} {v : Value} {i j : Int} (a : IsPair h v i j) : kkOf h v = (i, j) := by
  have c : ∃ z : Int × Int, IsPair h v z.1 z.2 := ⟨(i, j), a⟩
  unfold kkOf
  rw [dif_pos c]
  exact pair_fun c.choose_spec a
theorem endT {D kS e1 e : Nat} {vs : List Value} {keys : Array Value} {R : PySem.Fin → Shared → Prop} {kk : Value → Int × Int} (hD : s.heap.get? D = some (seqObj "list" #[] e1)) (hS : s.heap.get? kS = some (seqObj "list" keys e)) (hne : kS ≠ D)
    (hz : keys.size = vs.length) (hsz : vs.length ≤ sizeLine) (hp : ∀ v ∈ keys.toList, IsPair s.heap v (kk v).1 (kk v).2)
    (h : ∀ out : Array Keyed, Srtd (lt2 fun v u => lexB (kk v) (kk u)) out.toList → out.toList.Perm (keys.toList.zip vs) →
      R (.done (.ret .none)) { s with heap := (s.heap.update kS (Obj.mapSeq fun _ => #[])).update D (Obj.mapSeq fun _ => out.map (·.2)) }) :
    wpAny (model prog w) A (ksk_end D false vs.toArray e1 (.ref kS) keys) R E s := by
  have hzip : (keys.zip vs.toArray).toList = keys.toList.zip vs := ksk_zip keys vs
  have hD1 : (s.heap.update kS (Obj.mapSeq fun _ => (#[] : Array Value))).get? D = some (seqObj "list" #[] e1) := by
    rw [Heap.get?_update_ne _ _ _ _ (fun z => hne z.symm)]
    exact hD
  have tail : ∀ st : SortSt, Srtd (lt2 fun v u => lexB (kk v) (kk u)) (arrOf st).toList → (arrOf st).toList.Perm (keys.toList.zip vs) → failedOf st = none → wpAny (model prog w) A (ksk_tail D false e1 (.ref kS) st) R E s := by
    intro st h1 h2 h3
    have hl : ((arrOf st).map (·.2)).size ≤ sizeLine + 1 := by
      rw [Array.size_map]
      have q := h2.length_eq
      rw [Array.length_toList, List.length_zip, Array.length_toList, hz, Nat.min_self] at q
      omega
    unfold ksk_tail
    refine wpAny_bind (listUpdate_at hS rfl ?_ (by rw [hz]; exact hsz) (Nat.zero_le _))
    refine wpAny_bind (wpAny_letGo ?_)
    refine wpAny_bind (seqEpoch_at hD1 rfl ?_)
    refine wpAny_bind (listUpdate_at hD1 rfl ?_ (Nat.zero_le _) hl)
    rw [h3]
    simp only [bne_self_eq_false, Bool.false_eq_true, if_false]
    exact wpAny_pure (h (arrOf st) h1 h2)
  unfold ksk_end
  dsimp only
  rw [if_neg (by decide)]
  by_cases h2 : vs.toArray.size < 2
  · rw [if_pos h2, if_pos h2]
    refine wpAny_bind (wpAny_pure ?_)
    rw [StateT.run_pure]
    refine wpAny_bind (wpAny_pure ?_)
    have hl2 : (keys.toList.zip vs).length < 2 := by
      rw [List.length_zip, Array.length_toList, hz, Nat.min_self]
      rw [List.size_toArray] at h2
      exact h2
    refine tail (SortSt.mk' general' (keys.zip vs.toArray) #[] 7 none) ?_ ?_ rfl
    · show Srtd (lt2 fun v u => lexB (kk v) (kk u)) (keys.zip vs.toArray).toList
      rw [hzip]
      generalize keys.toList.zip vs = l at hl2
      match l, hl2 with
      | [], _ => exact List.Pairwise.nil
      | [x], _ => exact srtd_one x
      | _ :: _ :: r, q => exact absurd q (by rw [List.length_cons, List.length_cons]; omega)
    · show (keys.zip vs.toArray).toList.Perm _
      rw [hzip]
  · rw [if_neg h2, if_neg h2]
    rw [List.size_toArray] at h2
    have hO : Swo (fun v u => lexB (kk v) (kk u)) := swo_lex kk
    obtain ⟨κ, hk, hC⟩ := pairs_sortableO (prog := prog) (w := w) (A := A) (s := s) (a := D) (vs := keys.toList) (k := kk) (by rw [Array.length_toList]; omega) hp
      (fun o q z => by
        rw [hD] at q
        cases q
        injection z with z3
        exact absurd z3 (by decide)) s.heap (fun _ _ _ q => q)
    rw [Array.toArray_toList] at hk
    refine wpAny_bind (hk _ _ ?_)
    refine wpAny_bind (wpAny_mono (wpS_sortO (st0 := SortSt.mk' κ (keys.zip vs.toArray) #[] 7 none)
      (Q := fun _ st' => Srtd (lt2 fun v u => lexB (kk v) (kk u)) (arrOf st').toList ∧ (arrOf st').toList.Perm (keys.toList.zip vs) ∧ failedOf st' = none) (swo2 hO) hC rfl ?_ rfl rfl ?_) ?_ (fun _ _ z => z))
    · intro p hm
      have hm2 : p ∈ (keys.zip vs.toArray).toList := hm
      rw [hzip] at hm2
      exact (List.of_mem_zip (a := p.1) (b := p.2) hm2).1
    · intro st' a1 a2 a3
      have a4 : Stb (lt2 fun v u => lexB (kk v) (kk u)) (arrOf st').toList (keys.zip vs.toArray).toList := a2
      rw [hzip] at a4
      exact ⟨a1, a4.perm, a3⟩
    · rintro ⟨⟨⟩, st'⟩ s' ⟨rfl, h1, hp2, hf⟩
      exact tail st' h1 hp2 hf
end
end TB
namespace TB
open PySem PySem.Spec PyProof.Rows L2 LamX NdefX SrtO Srt
/-- just this object lies at D -/
def AtO (D : Addr) (o : Obj) : HO := .ext fun h => h.get? D = some o
theorem atO_ok {P : Program} {w : World} {H : Hp} {h : Heap} {D : Addr} {o : Obj} (e : h.get? D = some o) : ObjOk P w H h D (AtO D o) := ⟨e, ⟨o, e⟩, fun _ _ p k => k _ p⟩
theorem srt_pairs {kk : Value → Int × Int} {kf : V → Int × Int} {out : List Keyed} (h : Srtd (lt2 fun v u => lexB (kk v) (kk u)) out) (he : ∀ p ∈ out, kk p.1 = kf (backV p.2)) : Srtd (ltP kf) ((out.map (·.2)).map backV) := by
  rw [List.map_map]
  refine List.pairwise_map.mpr (List.Pairwise.imp_of_mem ?_ h)
  intro p q hp hq z
  have z2 : lexB (kk q.1) (kk p.1) = false := z
  rw [he p hp, he q hq] at z2
  exact z2
section
variable {X : Cx} {pins : List (Addr × Obj)} {σ : L2.St} {H : Hp} {s : Shared} {N fr : List Str} {x0 : Str} {F : NF} {f a : Addr} {js : List Nat} {k : Nat} {xs : List V} {kf : V → Int × Int} {Q : VK} {pm ctv : Value} {body : Expr}
/-- what stands when j keys are made -/
def KeysAt (X : Cx) (pins : List (Addr × Obj)) (σ : L2.St) (H : Hp) (D kS f : Addr) (oD oF : Obj) (xs : List V) (kf : V → Int × Int) (j : Nat) (s : Shared) : Prop :=
  ∃ (Hi : Hp) (ks : List V), Inv X pins σ Hi s ∧ Same H Hi ∧ (NoT H → NoT Hi) ∧ Hi D = some (AtO D oD) ∧ Hi kS = some (.lst ks) ∧ Hi f = none ∧ s.heap.get? f = some oF ∧ ks.length = j ∧
    ∀ (i : Nat) (z : V), ks[i]? = some z → ∃ (t : Addr) (y : V), z = .ref t ∧ xs[i]? = some y ∧ Hi t = some (.tup [.int (kf y).1, .int (kf y).2])
theorem sortLam_run (I : Inv X pins σ H s) (ht : SqT X.K H a xs) (hx : ∀ x ∈ xs, ∃ t, x = V.ref t)
    (hf : s.heap.get? f = some (PySem.W.kla_obj "<lambda>" F.qual F.params body F.scope F.cl pm F.c ctv)) (hfn : H f = none) (hfr : f ∉ frs X.stack) (hc : H F.c = some (CodeO F.c F.qual)) (cp : Caps X F.cl fr js) (S : NScope N [x0] fr F.scope)
    (hb : ∀ u : Value, bindArgs (PySem.W.kla_fn "<lambda>" F.qual F.params body F.scope F.cl pm (.ref F.c) ctv) ⟨[u], []⟩ = pure ([x0].zip [u])) (hr : Room (k + 3) X.A)
    (hkey : ∀ x ∈ xs, ∀ (A : Around) (outer : List Env) (s' : Shared) (H' : Hp), Room k (A.deeper (envF F f s'.heap.objs.size)) → Same H H' →
      ∃ t, PE (ncx CX0 X.prog X.w X.K X.mg X.base N F f A outer s' H' E0) body t ∧ ∀ Q : VK, (∀ p, H' p = none → Q (.ref p) (upd H' p (.tup [.int (kf x).1, .int (kf x).2]))) → t (startF N [x] (js.map (slotAt σ))) H' Q)
    (q : ∀ (ys : List V) (D : Addr) (H' : Hp), ys.Perm xs → Srtd (ltP kf) ys → Same H H' → (NoT H → NoT H') → H D = none → H' D = some (.lst ys) → Q (.ref D) H') :
    wpAny (model X.prog X.w) X.A (call (.builtin "sorted") [.ref a] [(Str.ofString "key", .ref f)]) (EP X pins σ Q) X.xe s := by
  obtain ⟨its, rv, ⟨o, ho, hoc, n, hod⟩, hz⟩ := I.tuple ht
  have hzl : its.length ≤ sizeLine := by
    rw [← rv.length]
    exact hz
  refine call_function_entry_kw kind_sorted plain_sorted entry_sorted (ksk_s1 _ _) ?_
  unfold Builtin.«sorted»
  refine wpAny_bind (m := checkCount "sorted" 1 1 _) (wpAny_pure ?_)
  refine wpAny_bind (wpAny_collect_seq a (Or.inr rfl) ho hoc hod (fun h1 kp1 => ?_) (by rw [List.size_toArray]; exact hzl))
  rw [List.toList_toArray]
  refine wpAny_bind (wpAny_newList ?_ hzl)
  have hoL : (h1.push (seqObj "list" its.toArray 0)).get? h1.objs.size = some (seqObj "list" its.toArray 0) := Heap.get?_push_size _ rfl
  obtain ⟨e1, ho3⟩ : ∃ e1, ((h1.push (seqObj "list" its.toArray 0)).update h1.objs.size (Obj.mapSeq fun _ => (#[] : Array Value))).get? h1.objs.size = some (seqObj "list" #[] e1) := ⟨_, get?_update_seq hoL (fun _ => #[])⟩
  have hs3 : ((h1.push (seqObj "list" its.toArray 0)).update h1.objs.size (Obj.mapSeq fun _ => (#[] : Array Value))).objs.size = h1.objs.size + 1 := by
    rw [Heap.size_update, size_push']
  have kp3 : ∀ b u, h1.get? b = some u → ((h1.push (seqObj "list" its.toArray 0)).update h1.objs.size (Obj.mapSeq fun _ => (#[] : Array Value))).get? b = some u := by
    intro b u e
    rw [Heap.get?_update_ne _ _ _ _ (Nat.ne_of_lt (Heap.lt_size e))]
    exact Heap.get?_push_of_some _ e
  refine wpAny_bind (wpAny_holding (wpAny_call_entry_kw slot_list_sort ⟨_, hoL, rfl⟩ entry_list_sort ?body (ksk_l1 _ _)))
  show wpAny (model X.prog X.w) X.A.in1.in1 (Builtin.«list.sort» ⟨[.ref h1.objs.size], [(Str.ofString "key", .ref f)]⟩) _ _ { s with heap := h1.push (seqObj "list" its.toArray 0) }
  rw [ksk_t1]
  unfold ksk_tree
  refine wpAny_bind (listItems_at hoL rfl ?_)
  refine wpAny_bind (listUpdate_at hoL rfl ?_ (by rw [List.size_toArray]; exact hzl) (Nat.zero_le _))
  refine wpAny_bind (seqEpoch_at ho3 rfl ?_)
  refine wpAny_bind (wpAny_newTuple ?_ (by show its.toArray.toList.length ≤ _; rw [List.toList_toArray]; exact hzl))
  refine wpAny_bind (wpAny_newList ?_ (Nat.zero_le _))
  refine wpAny_holding ?_
  generalize hh3 : (h1.push (seqObj "list" its.toArray 0)).update h1.objs.size (Obj.mapSeq fun _ => (#[] : Array Value)) = h3 at ho3 hs3 kp3
  show wpAny (model X.prog X.w) X.A.in1.in1 (ksk_rest h1.objs.size (.ref f) false its.toArray e1 (.ref (h3.push { cls := .type "tuple", data := .seq its.toArray.toList.toArray }).objs.size)) _ _ { s with heap := (h3.push { cls := .type "tuple", data := .seq its.toArray.toList.toArray }).push { cls := .type "list", data := .seq ([] : List Value).toArray } }
  generalize hh4 : h3.push { cls := .type "tuple", data := .seq its.toArray.toList.toArray } = h4
  have hs4 : h4.objs.size = h1.objs.size + 2 := by
    rw [← hh4, size_push', hs3]
  have kp4 : ∀ b u, h3.get? b = some u → h4.get? b = some u := by
    intro b u e
    rw [← hh4]
    exact Heap.get?_push_of_some _ e
  have kp5 : ∀ b u, h4.get? b = some u → (h4.push { cls := .type "list", data := .seq ([] : List Value).toArray }).get? b = some u := fun b u e => Heap.get?_push_of_some _ e
  -- the state at the first key
  have I0 : Inv X pins σ H { s with heap := h1, toks := s.toks } := I.kept kp1
  have I1 : Inv X pins σ (upd H h1.objs.size (AtO h1.objs.size (seqObj "list" #[] e1))) { s with heap := h4, toks := s.toks } := I0.laid (a := h1.objs.size) (fun b u e => kp4 b u (kp3 b u e)) (Nat.le_refl _) (atO_ok (kp4 _ _ ho3))
  have nD : H h1.objs.size = none := I0.hok.fresh (Nat.le_refl _)
  have nS1 : upd H h1.objs.size (AtO h1.objs.size (seqObj "list" #[] e1)) h4.objs.size = none := I1.hok.fresh (Nat.le_refl _)
  have I2 : Inv X pins σ (upd (upd H h1.objs.size (AtO h1.objs.size (seqObj "list" #[] e1))) h4.objs.size (.lst [])) { s with heap := h4.push { cls := .type "list", data := .seq ([] : List Value).toArray }, toks := s.toks } :=
    I1.laid (a := h4.objs.size) kp5 (Nat.le_refl _) ⟨Nat.zero_le _, [], 0, .nil, Heap.get?_push_size _ rfl⟩
  have nS : H h4.objs.size = none := (nil_upd nS1).2
  have neSD : h4.objs.size ≠ h1.objs.size := by omega
  have hfl : f < h1.objs.size := Heap.lt_size (kp1 f _ hf)
  have start : KeysAt X pins σ H h1.objs.size h4.objs.size f (seqObj "list" #[] e1) (PySem.W.kla_obj "<lambda>" F.qual F.params body F.scope F.cl pm F.c ctv) xs kf 0 { s with heap := h4.push { cls := .type "list", data := .seq ([] : List Value).toArray } } := by
    refine ⟨_, [], I2, ?_, ?_, ?_, upd_same, ?_, ?_, rfl, ?_⟩
    · intro b u e
      exact old_upd nS1 (old_upd nD e)
    · intro nt
      exact NoT.upd (o := .lst []) (NoT.upd (o := AtO h1.objs.size (seqObj "list" #[] e1)) nt trivial) trivial
    · rw [upd_ne neSD.symm, upd_same]
    · rw [upd_ne (Nat.ne_of_lt (Nat.lt_of_lt_of_le hfl (by rw [hs4]; exact Nat.le_add_right _ _))), upd_ne (Nat.ne_of_lt hfl)]
      exact hfn
    · exact kp5 _ _ (kp4 _ _ (kp3 _ _ (kp1 _ _ hf)))
    · intro i z e
      exact nomatch (show (none : Option V) = some z from e)
  have hm : ∀ (s' : Shared), KeysAt X pins σ H h1.objs.size h4.objs.size f (seqObj "list" #[] e1) (PySem.W.kla_obj "<lambda>" F.qual F.params body F.scope F.cl pm F.c ctv) xs kf its.length s' → ∀ (kA : Array Value) (e : Nat), s'.heap.get? h4.objs.size = some (seqObj "list" kA e) →
      wpAny (model X.prog X.w) X.A.in1.in1 (ksk_end h1.objs.size false its.toArray e1 (.ref h4.objs.size) kA) (fun r s2 => ∃ v, r = .done (.ret v) ∧ EP X pins σ Q (.ref h1.objs.size) s2) X.xe s' := by
    rintro s' ⟨Hi, ks, J, sm, nt, hD, hS, hf0, hf1, hkl, hks⟩ kA e hk
    obtain ⟨zk, iks, n2, rk, ek⟩ := J.hok _ _ hS
    have eA : kA = iks.toArray := by
      rw [hk] at ek
      cases ek
      rfl
    have hDo : s'.heap.get? h1.objs.size = some (seqObj "list" #[] e1) := (J.hok _ _ hD).1
    have szk : kA.size = its.length := by
      rw [eA, List.size_toArray, ← rk.length, hkl]
    have isP : ∀ (i : Nat) (u : Value), kA.toList[i]? = some u → ∃ y, xs[i]? = some y ∧ IsPair s'.heap u (kf y).1 (kf y).2 := by
      intro i u hu
      rw [eA, List.toList_toArray] at hu
      have hi : i < ks.length := by
        rw [rk.length]
        exact (List.getElem?_eq_some_iff.mp hu).1
      obtain ⟨t, y, ez, hy, hty⟩ := hks i _ (List.getElem?_eq_getElem hi)
      obtain ⟨u2, hu2, ru⟩ := rk.get (List.getElem?_eq_getElem hi)
      rw [hu] at hu2
      cases hu2
      rw [ez] at ru
      obtain rfl : u = Value.ref t := ru
      obtain ⟨_, its2, r2, o2, g1, g2, n3, g3⟩ := J.hok _ _ hty
      obtain ⟨v1, v2, rfl, ri, rj⟩ := vals2 r2
      obtain ⟨t1, rfl⟩ := ri
      obtain ⟨t2, rfl⟩ := rj
      exact ⟨y, hy, t, o2, t1, t2, n3, rfl, g1, g2, g3⟩
    refine endT (kk := kkOf s'.heap) hDo hk neSD szk hzl ?_ ?_
    · intro v hv
      obtain ⟨i, hi⟩ := List.mem_iff_getElem?.mp hv
      obtain ⟨y, _, hp⟩ := isP i v hi
      rw [kk_eq hp]
      exact hp
    · intro out h2 h3p
      have h4p : ∀ p ∈ out.toList, kkOf s'.heap p.1 = kf (backV p.2) ∧ ∃ t, p.2 = Value.ref t := by
        intro p hp
        obtain ⟨i, hi⟩ := List.mem_iff_getElem?.mp (h3p.mem_iff.mp hp)
        rw [List.getElem?_zip_eq_some] at hi
        obtain ⟨y, hy, hpp⟩ := isP i _ hi.1
        obtain ⟨u, hu, ru⟩ := rv.get hy
        rw [hi.2] at hu
        cases hu
        obtain ⟨t, et⟩ := hx y (List.mem_of_getElem? hy)
        rw [et] at ru
        have ru2 : p.2 = Value.ref t := ru
        rw [kk_eq hpp, ru2, et]
        exact ⟨rfl, t, rfl⟩
      have hpm : (out.toList.map (·.2)).Perm its := by
        have z := h3p.map (fun p : Keyed => p.2)
        rw [List.map_snd_zip (Nat.le_of_eq (szk.symm.trans Array.length_toList.symm))] at z
        exact z
      have hrefs : ∀ u ∈ out.toList.map (·.2), ∃ t, u = Value.ref t := by
        intro u hu
        obtain ⟨p, hp, rfl⟩ := List.mem_map.mp hu
        exact (h4p p hp).2
      obtain ⟨e2, _⟩ := refs_back rv hx
      have hpx : ((out.toList.map (·.2)).map backV).Perm xs := by
        rw [e2]
        exact hpm.map backV
      have hsr := srt_pairs h2 (fun p hp => (h4p p hp).1)
      have hk1 : (s'.heap.update h4.objs.size (Obj.mapSeq fun _ => (#[] : Array Value))).get? h1.objs.size = some (seqObj "list" #[] e1) := by
        rw [Heap.get?_update_ne _ _ _ _ neSD.symm]
        exact hDo
      have J1 : Inv X pins σ (upd Hi h4.objs.size (.lst [])) { s' with heap := s'.heap.update h4.objs.size (Obj.mapSeq fun _ => (#[] : Array Value)), toks := s'.toks } := by
        refine J.write (e := h4.objs.size) (by rw [hS]; trivial) (Or.inl rfl) ?_ ⟨_, get?_update_seq hk fun _ => #[]⟩ ⟨Nat.zero_le _, [], _, .nil, get?_update_seq hk fun _ => #[]⟩
        intro b u hbn hu
        rw [Heap.get?_update_ne _ _ _ _ hbn]
        exact hu
      have hD1 : upd Hi h4.objs.size (.lst []) h1.objs.size = some (AtO h1.objs.size (seqObj "list" #[] e1)) := by
        rw [upd_ne neSD.symm]
        exact hD
      have eo : out.map (fun p : Keyed => p.2) = (out.toList.map (fun p : Keyed => p.2)).toArray := by
        apply Array.ext'
        rw [Array.toList_map]
      obtain ⟨c2, hc2⟩ : ∃ c2, ((s'.heap.update h4.objs.size (Obj.mapSeq fun _ => (#[] : Array Value))).update h1.objs.size (Obj.mapSeq fun _ => out.map (·.2))).get? h1.objs.size = some (seqObj "list" (out.map (·.2)) c2) := ⟨_, get?_update_seq hk1 fun _ => out.map (·.2)⟩
      have J2 : Inv X pins σ (upd (upd Hi h4.objs.size (.lst [])) h1.objs.size (.lst ((out.toList.map (·.2)).map backV))) { s' with heap := (s'.heap.update h4.objs.size (Obj.mapSeq fun _ => (#[] : Array Value))).update h1.objs.size (Obj.mapSeq fun _ => out.map (·.2)), toks := s'.toks } := by
        refine J1.write (e := h1.objs.size) (by rw [hD1]; trivial) (Or.inl rfl) ?_ ⟨_, hc2⟩ ⟨?_, out.toList.map (·.2), c2, vals_back hrefs, by rw [← eo]; exact hc2⟩
        · intro b u hbn hu
          rw [Heap.get?_update_ne _ _ _ _ hbn]
          exact hu
        · rw [hpx.length_eq]
          exact hz
      refine ⟨_, rfl, .ref h1.objs.size, _, J2, rfl, q _ _ _ hpx hsr ?_ ?_ nD upd_same⟩
      · intro b u e
        rw [upd_ne (ne_of_none e nD), upd_ne (ne_of_none e nS)]
        exact sm b u e
      · intro nt0
        exact NoT.upd (o := .lst ((out.toList.map (·.2)).map backV)) (NoT.upd (o := .lst []) (nt nt0) trivial) trivial
  refine wpAny_mono (Q := fun r s2 => ∃ v, r = .done (.ret v) ∧ EP X pins σ Q (.ref h1.objs.size) s2) ?_ ?_ (fun _ _ z => z)
  · unfold ksk_rest
    refine wpAny_bind (wpAny_rule ?_)
    rw [← Array.forIn_toList, List.toList_toArray]
    refine wpAny_bind (ksk_fold (KeysAt X pins σ H h1.objs.size h4.objs.size f (seqObj "list" #[] e1) (PySem.W.kla_obj "<lambda>" F.qual F.params body F.scope F.cl pm F.c ctv) xs kf) its 0 _ start ?_ ?_)
    · rintro j u s' hu ⟨Hi, ks, J, sm, nt, hD, hS, hf0, hf1, hkl, hks⟩
      rw [Nat.zero_add] at hkl
      have hj : j < xs.length := by
        rw [rv.length]
        exact (List.getElem?_eq_some_iff.mp hu).1
      obtain ⟨u2, hu2, ru⟩ := rv.get (List.getElem?_eq_getElem hj)
      rw [hu] at hu2
      cases hu2
      have hmx : xs[j] ∈ xs := List.getElem_mem hj
      have hrm : Room (k + 1) X.A.in1.in1 := Room.in1 (Room.in1 hr)
      obtain ⟨t, hpe, htq⟩ := hkey xs[j] hmx X.A.in1.in1 X.stack s' Hi (hrm.deeper _) sm
      have call1 := lam_call (P := X.prog) (w := X.w) (K := X.K) (mg := X.mg) (base := X.base) (A := X.A.in1.in1) (outer := X.stack) (vs := [xs[j]]) (us := [u]) (Q := fun v H'' => ∃ p, Hi p = none ∧ v = .ref p ∧ H'' = upd Hi p (.tup [.int (kf xs[j]).1, .int (kf xs[j]).2]))
        S (hb u) hrm (Env0.in1 (Env0.in1 J.env0)) hf1 (sm _ _ hc) (cells_of J cp) (.cons ru .nil) rfl hpe (htq _ (fun p np => ⟨p, np, rfl, rfl⟩))
      refine wpAny_bind (wpAny_attempt (wpAny_call (codeAny_mono call1 ?_)))
      rintro (er | (_ | _ | _ | v)) s2 hq
      · exact hq.elim
      · exact hq.elim
      · exact hq.elim
      · exact hq.elim
      have un : ∃ H2, Un (frs X.stack) [] Hi H2 s'.heap s2.heap := by
        obtain ⟨_, H2, _, _, un, _⟩ := hq
        exact ⟨H2, un⟩
      obtain ⟨H2', un⟩ := un
      have hf2 := un.keep f _ hf1 hf0 hfr (fun z => nomatch z)
      obtain ⟨vv, H2, J2, r2, p, np, rfl, rfl⟩ := J.after hq
      obtain rfl : v = Value.ref p := r2
      have neS : h4.objs.size ≠ p := ne_of_none hS np
      have neD : h1.objs.size ≠ p := ne_of_none hD np
      have hS2 : upd Hi p (.tup [.int (kf xs[j]).1, .int (kf xs[j]).2]) h4.objs.size = some (.lst ks) := by
        rw [upd_ne neS]
        exact hS
      have nef : f ≠ p := by
        intro z
        have z2 := un.free f _ hf1 hf0 (fun z => nomatch z)
        obtain ⟨oo, hoo⟩ : ∃ oo, s2.heap.get? p = some oo := by
          obtain ⟨_, _, _, o2, g1, _⟩ := J2.hok p _ upd_same
          exact ⟨o2, g1⟩
        obtain ⟨_, _, _, o2, g1, g2, _⟩ := J2.hok p _ upd_same
        rw [← z, hf2] at g1
        cases g1
        injection g2 with g3
        exact absurd g3 (by decide)
      obtain ⟨zk, iks, n2, rk, ek⟩ := J2.hok _ _ hS2
      have lk : iks.length = ks.length := rk.length.symm
      have hjl : j < sizeLine := Nat.lt_of_lt_of_le hj hz
      show wpAny _ _ (do Builtin.List.listUpdate (.ref h4.objs.size) (·.push (Value.ref p)); pure (ForInStep.yield PUnit.unit)) _ _ s2
      refine wpAny_bind (listUpdate_at ek rfl ?_ (by rw [List.size_toArray, lk]; omega) (by rw [Array.size_push, List.size_toArray, lk]; omega))
      refine wpAny_pure ⟨rfl, ?_⟩
      obtain ⟨e5, hnew⟩ : ∃ e5, (s2.heap.update h4.objs.size (Obj.mapSeq (·.push (Value.ref p)))).get? h4.objs.size = some (seqObj "list" (iks ++ [Value.ref p]).toArray e5) := by
        have z := get?_update_seq ek (·.push (Value.ref p))
        rw [List.push_toArray] at z
        exact ⟨_, z⟩
      refine ⟨upd (upd Hi p (.tup [.int (kf xs[j]).1, .int (kf xs[j]).2])) h4.objs.size (.lst (ks ++ [.ref p])), ks ++ [.ref p], ?_, ?_, ?_, ?_, upd_same, ?_, ?_, ?_, ?_⟩
      · refine J2.write (t' := s2.toks) (e := h4.objs.size) (by rw [hS2]; trivial) (Or.inl rfl) ?_ ⟨_, hnew⟩ ⟨?_, iks ++ [.ref p], e5, rk.append (show Vals [V.ref p] [Value.ref p] from .cons rfl .nil), hnew⟩
        · intro b w' hbn hw
          rw [Heap.get?_update_ne _ _ _ _ hbn]
          exact hw
        · rw [List.length_append]
          show ks.length + 1 ≤ _
          omega
      · intro b w' e
        rw [upd_ne (ne_of_none e nS)]
        exact old_upd np (sm b w' e)
      · intro nt0
        exact NoT.upd (o := .lst (ks ++ [.ref p])) (NoT.upd (o := .tup [.int (kf xs[j]).1, .int (kf xs[j]).2]) (nt nt0) trivial) trivial
      · rw [upd_ne neSD.symm, upd_ne neD]
        exact hD
      · rw [upd_ne (fun z => by rw [z, hS] at hf0; exact nomatch hf0), upd_ne nef]
        exact hf0
      · rw [Heap.get?_update_ne _ _ _ _ (fun z => by rw [z, hS] at hf0; exact nomatch hf0)]
        exact hf2
      · rw [List.length_append, hkl, Nat.zero_add]
        rfl
      · intro i z hz2
        by_cases hi : i < ks.length
        · rw [List.getElem?_append_left hi] at hz2
          obtain ⟨t2, y, ez, hy, hty⟩ := hks i z hz2
          refine ⟨t2, y, ez, hy, ?_⟩
          rw [upd_ne (ne_of hty hS (by simp)), upd_ne (ne_of_none hty np)]
          exact hty
        · rw [List.getElem?_append_right (by omega)] at hz2
          have hi2 : i - ks.length = 0 := by
            have z3 := (List.getElem?_eq_some_iff.mp hz2).1
            rw [List.length_singleton] at z3
            omega
          rw [hi2] at hz2
          have ez : z = .ref p := (Option.some.inj hz2).symm
          have hij : i = j := by omega
          subst hij
          refine ⟨p, xs[i], ez, List.getElem?_eq_getElem hj, ?_⟩
          rw [upd_ne (fun z3 => neS z3.symm), upd_same]
    · intro s' hA
      rw [Nat.zero_add] at hA
      obtain ⟨Hi, ks, J, sm, nt, hD, hS, hf0, hf1, hkl, hks⟩ := id hA
      obtain ⟨zk, iks, n2, rk, ek⟩ := J.hok _ _ hS
      refine wpAny_bind (listItems_at ek rfl ?_)
      exact hm s' hA _ _ ek
  · rintro r s2 ⟨v, rfl, ep⟩
    refine ⟨_, rfl, wpAny_pure ?_⟩
    exact ⟨_, rfl, ep⟩
end
end TB
namespace TB
open PySem PySem.Spec PyProof.Rows L2 LamX NdefX SrtO Srt
/-- from H to H': but for the table at P all that was is there, the table is one still -/
structure Tg (P : Addr) (q : Str) (H H' : Hp) : Prop where
  kp : Kp [P] H H'
  tab : TabS H' P q
  nt : NoT H → NoT H'
def tSortLam (K : PySem.W.Frag) (P : Addr) (q : Str) (N : List Str) (js : List Nat) (tb : TE) (t : TA) : TE := fun σ H Q => t σ H fun vs H1 => ∃ (a : Addr) (xs : List V) (kf : V → Int × Int), vs = [.ref a] ∧ SqT K H1 a xs ∧ (∀ x ∈ xs, ∃ b, x = V.ref b) ∧ TabS H1 P q ∧
  (∀ x ∈ xs, ∀ H', ExtN H1 H' → ∀ Q' : VK, (∀ p, H' p = none → Q' (.ref p) (upd H' p (.tup [.int (kf x).1, .int (kf x).2]))) → tb (startF N [x] (js.map (slotAt σ))) H' Q') ∧
  ∀ (ys : List V) (D : Addr) (H' : Hp), ys.Perm xs → Srtd (ltP kf) ys → Tg P q H1 H' → H1 D = none → H' D = some (.lst ys) → Q (.ref D) H'
section
variable {X : Cx} {x : Str} {p pos kpos lpos : Pos} {e : Expr} {t : TA} {N fr : List Str} {x0 : Str} {js : List Nat} {k : Nat} {c P : Addr} {params : Arguments} {body : Expr} {scope : Scope} {tb : TE}
theorem sqT_extN {K : PySem.W.Frag} {H H' : Hp} {a : Addr} {xs : List V} (h : SqT K H a xs) (e : ExtN H H') : SqT K H' a xs := by
  rcases h with (z | ⟨o, z⟩) | z
  · exact Or.inl (Or.inl (e _ _ z (fun ps => by simp)))
  · exact Or.inl (Or.inr ⟨o, e _ _ z (fun ps => by simp)⟩)
  · exact Or.inr z
theorem codeO_noT {c : Addr} {q : Str} : noT (CodeO c q) := trivial
/-- the lambda's object is made at f; its code object c' is known then -/
theorem lam_made {pins : List (Addr × Obj)} {σ : L2.St} {H : Hp} {s : Shared} {E : Value → Shared → Prop} {Q : Value → Shared → Prop} (I : Inv X pins σ H s) (tb0 : TabB X.base X.mg c P) (hcode : X.env.code = .ref c) (hT : TabS H P (X.env.qual ++ "<lambda>"))
    (hdef : defaultsOf params X.env = ([], [])) (hcl : ∀ y ∈ scope.names, y.2 = .free → ∃ d, X.env.cells.lookup y.1 = some d)
    (h : ∀ (f c' : Addr) (pm ctv : Value) (H1 : Hp) (s' : Shared), Inv X pins σ H1 s' → Tg P (X.env.qual ++ "<lambda>") H H1 → (∀ b, H1 b = none → H b = none) → s'.heap.get? f = some (PySem.W.kla_obj "<lambda>" (X.env.qual ++ "<lambda>") params body scope (cloFrom X.env.cells scope.names []) pm c' ctv) →
      H1 f = none → f ∉ frs X.stack → H1 c' = some (CodeO c' (X.env.qual ++ "<lambda>")) → Q (.ref f) s') :
    wpAny (model X.prog X.w) X.A (eval (.Lambda params body scope lpos) X.env) Q E s := by
  obtain ⟨ps, hP, tri, cod⟩ := hT
  refine PySem.W.kla_eval hdef ?_
  have hb0 : s.heap.BuiltinsAt X.mg P := tb0.bm.keeps I.bk
  have hP0 : s.heap.get? P = some { cls := .none, data := .fields ps } := I.hok P _ hP
  have fresh : ∀ g : Addr, s.heap.objs.size ≤ g → g ∉ frs X.stack := by
    intro g hg z
    rcases List.mem_cons.mp (I.stkSub _ z) with z1 | z1
    · have z2 := I.lt
      rw [← z1] at z2
      exact absurd (Nat.lt_of_lt_of_le z2 hg) (Nat.lt_irrefl _)
    · exact I.nofs hg z1
  match hc : codeAmong lpos ps.toList with
  | some cv =>
    obtain ⟨c', rfl, hco⟩ := cod lpos cv hc
    refine PySem.W.kla_makeFunctionHit (c := c) (ps := ps) (closure_ok hcl) I.ok.glob (I.mod.glob.keeps I.bk) hcode (tb0.code.keeps I.bk) hP0 tri hc hb0 ?_
    intro ctv h' tk keep hsz
    refine h h'.objs.size c' _ ctv H _ (I.kept fun b o z => Heap.get?_push_of_some _ (keep b o z)) ⟨Kp.refl H, ⟨ps, hP, tri, cod⟩, id⟩ (fun _ z => z) (Heap.get?_push_size _ rfl) (I.hok.fresh hsz) (fresh _ hsz) hco
  | none =>
    refine PySem.W.kla_makeFunction (c := c) (ps := ps) (closure_ok hcl) I.ok.glob (I.mod.glob.keeps I.bk) hcode (tb0.code.keeps I.bk) hP0 tri hc tb0.gP hb0 ?_
    intro c' ctv h' tk keep hge hlt hrec htab
    obtain ⟨c2, oc, flds, tok, ec, hoc, hdat, hfl⟩ := hrec
    cases ec
    have hsz : s.heap.objs.size ≤ h'.objs.size := Nat.le_of_lt (Nat.lt_of_le_of_lt hge hlt)
    have nC : H c' = none := I.hok.fresh hge
    have nPC : P ≠ c' := ne_of_none hP nC
    have hatP : upd (upd H P (.tbl (ps ++ #[rawInt lpos.line, rawInt lpos.col, .ref c']))) c' (CodeO c' (X.env.qual ++ "<lambda>")) P = some (.tbl (ps ++ #[rawInt lpos.line, rawInt lpos.col, .ref c'])) := by
      rw [upd_ne nPC, upd_same]
    have K1 : Kp [P] H (upd (upd H P (.tbl (ps ++ #[rawInt lpos.line, rawInt lpos.col, .ref c']))) c' (CodeO c' (X.env.qual ++ "<lambda>"))) := by
      intro b o e m
      rw [upd_ne (ne_of_none e nC), upd_ne (fun z => m (List.mem_singleton.mpr z))]
      exact e
    have lst : (ps ++ #[rawInt lpos.line, rawInt lpos.col, .ref c']).toList = ps.toList ++ [rawInt lpos.line, rawInt lpos.col, .ref c'] := by
      rw [Array.toList_append]
    refine h h'.objs.size c' _ ctv _ _ (inv_table (t' := tk) (more := #[rawInt lpos.line, rawInt lpos.col, .ref c']) I hP (fun b o hbn z => Heap.get?_push_of_some _ (keep b o hbn z)) (Heap.get?_push_of_some _ htab) hge ⟨oc, flds, tok, Heap.get?_push_of_some _ hoc, hdat, hfl⟩)
      ⟨K1, ⟨_, hatP, ?_, ?_⟩, ?_⟩ ?_ (Heap.get?_push_size _ rfl) ?_ (fresh _ hsz) upd_same
    · rw [lst]
      exact PySem.TriplesOk_snoc _ _ _ _ tri
    · intro pos' cv hcv
      rw [lst] at hcv
      rcases among_app _ tri hcv with z | z
      · obtain ⟨d, rfl, hd⟩ := cod pos' cv z
        exact ⟨d, rfl, K1 _ _ hd (fun m => by
          rw [List.mem_singleton] at m
          rw [m, hP] at hd
          exact codeO_ne ps (Option.some.inj hd).symm)⟩
      · exact ⟨c', z, upd_same⟩
    · intro nt0
      exact NoT.upd (NoT.upd (o := .tbl _) nt0 trivial) codeO_noT
    · intro b e
      exact (nil_upd (nil_upd e).2).2
    · have z1 : h'.objs.size ≠ c' := Nat.ne_of_gt hlt
      have z2 : h'.objs.size ≠ P := Nat.ne_of_gt (Nat.lt_of_lt_of_le (Heap.lt_size hP0) hsz)
      rw [upd_ne z1, upd_ne z2]
      exact I.hok.fresh hsz
theorem kp_extN {H H' : Hp} {q : Str} (h : Kp [P] H H') (t : TabS H P q) : ExtN H H' := by
  intro b o e n
  refine h b o e (fun m => ?_)
  rw [List.mem_singleton] at m
  obtain ⟨ps, hP, _⟩ := t
  rw [m, hP] at e
  exact n ps (Option.some.inj e).symm
theorem pe_sortedLam (tb0 : TabB X.base X.mg c P) (hcode : X.env.code = .ref c) (hdef : defaultsOf params X.env = ([], [])) (hfree : ∀ y ∈ scope.names, y.2 = .free → X.env.scope.names.lookup y.1 = some .cell ∨ X.env.scope.names.lookup y.1 = some .free)
    (hfr : ∀ y ∈ fr, (y, NameKind.free) ∈ scope.names) (hjs : js.map (fun j => X.N[j]?) = fr.map some) (S : NScope N [x0] fr scope) (hr : Room (k + 3) X.A)
    (hb : ∀ (pm ctv u : Value) (c' : Addr) (cl : List (Str × Addr)), bindArgs (PySem.W.kla_fn "<lambda>" (X.env.qual ++ "<lambda>") params body scope cl pm (.ref c') ctv) ⟨[u], []⟩ = pure ([x0].zip [u]))
    (hbody : ∀ (cl : List (Str × Addr)) (c' f : Addr) (A : Around) (outer : List Env) (s' : Shared) (H' : Hp), Room k (A.deeper (envF ⟨"<lambda>", X.env.qual ++ "<lambda>", params, [], scope, cl, c'⟩ f s'.heap.objs.size)) → PE (ncx CX0 X.prog X.w X.K X.mg X.base N ⟨"<lambda>", X.env.qual ++ "<lambda>", params, [], scope, cl, c'⟩ f A outer s' H' E0) body tb)
    (hg : Gl X x) (hm : X.mg x = none) (hv : bootBuiltins x = some (.builtin "sorted")) (ha : PA X [e] t) (hn : x ≠ "__name__" := by decide) (hdb : (x == ("__debug__" : Str)) = false := by decide)
    (he : backTo pos (starEach [e] X.env) = (false, eval e X.env) :: backTo pos (starEach [] X.env) := by rfl) (hpl : (backTo pos (starEach [e] X.env)).any (·.1) = false := by rfl) :
    PE X (.Call (.Name x p) [e] [⟨some "key", .Lambda params body scope lpos, kpos⟩] pos) (tSortLam X.K P (X.env.qual ++ "<lambda>") N js tb t) := by
  refine ⟨fun pins s σ H Q I h => ?_⟩
  refine wpAny_Call_Name_kw (ld_blt I hg hm hv ?_ hn hdb)
  refine PyProof.Rows.callWith_kw (thn (ha.run pos pins s σ H _ I h) ?_) he hpl rfl rfl
  rintro us s1 ⟨vs, H1, I1, r1, a, xs, kf, rfl, hsq, hxs, hT, hkey, q⟩
  obtain rfl := Vals.ref1 r1
  have hcl : ∀ y ∈ scope.names, y.2 = .free → ∃ c, X.env.cells.lookup y.1 = some c := fun y hy z => (hfree y hy z).elim (fun z => I.ok.has _ (Or.inl z)) (fun z => I.ok.has _ (Or.inr z))
  show wpAny _ _ (evalAll [(do let v ← eval (.Lambda params body scope lpos) X.env; standAt pos; pure v)]) _ _ s1
  refine wpAny_evalAll_cons (wpAny_bind (lam_made I1 tb0 hcode hT hdef hcl ?_))
  intro f c' pm ctv H2 s2 I2 tg old hf hfn hfrs hco
  refine wpAny_bind (wpAny_standAt (wpAny_pure (wpAny_evalAll_nil ?_)))
  have cp : Caps X (cloFrom X.env.cells scope.names []) fr js := Caps.made I.ok hfree hfr hjs
  have ext : ExtN H1 H2 := kp_extN tg.kp hT
  refine sortLam_run (F := ⟨"<lambda>", X.env.qual ++ "<lambda>", params, [], scope, cloFrom X.env.cells scope.names [], c'⟩) (kf := kf) (xs := xs) (fr := fr) (js := js) (x0 := x0) (N := N) (k := k) I2 (sqT_extN hsq ext) hxs hf hfn hfrs hco cp S (fun u => hb pm ctv u c' _) hr ?_ ?_
  · intro y hy A outer s' H' hr' sm
    refine ⟨tb, hbody _ c' f A outer s' H' hr', fun Q' hQ => hkey y hy H' (fun b o e n => sm b o (ext b o e n)) Q' hQ⟩
  · intro ys D H' pm2 sr sm nt nD hD
    exact q ys D H' pm2 sr ⟨fun b o e m => sm b o (tg.kp b o e m), tg.tab.ext sm, fun z => nt (tg.nt z)⟩ (old D nD) hD
end
end TB
namespace TB
open PySem PySem.Spec PyProof.Rows L2 LamX
/-- at the law's call: nothing is tracked but the script and the table at T -/
def OnlyT (T : Addr) (H : Hp) : Prop := ∀ b, H b = none ∨ (b = T ∧ H b = some (.tbl #[])) ∨ ∃ o xs, H b = some (.frz o (.lst xs))
theorem OnlyT.noT {T : Addr} {H : Hp} (h : OnlyT T H) : NoT H := by
  intro b o e
  rcases h b with z | ⟨_, z⟩ | ⟨o2, xs, z⟩
  · rw [z] at e
    exact nomatch e
  · rw [z] at e
    cases e
    exact trivial
  · rw [z] at e
    cases e
    exact trivial
end TB
namespace TB
open PySem PySem.Spec PyProof.Rows L2 LamX
abbrev Pr := Str × Str
def Prs (H : Hp) : List V → List Pr → Prop := Paired fun (x : V) (p : Pr) => ∃ t, x = .ref t ∧ H t = some (.tup [.str p.1, .str p.2])
def dPr (p : Pr) : PyData := .tuple [.str p.1, .str p.2]
theorem Prs.keep {H H' : Hp} {rs : List V} {ps : List Pr} (h : Prs H rs ps) (k : ∀ b xs, H b = some (.tup xs) → H' b = some (.tup xs)) : Prs H' rs ps := Paired.mapP h fun x p ⟨t, e, z⟩ => ⟨t, e, k _ _ z⟩
theorem Prs.refs {H : Hp} : ∀ {rs : List V} {ps : List Pr}, Prs H rs ps → ∀ x ∈ rs, ∃ t, x = V.ref t
  | _, _, .nil, x, hx => nomatch hx
  | _, _, .cons ⟨t, e, _⟩ r, x, hx => by
    rcases List.mem_cons.mp hx with z | z
    · exact ⟨t, z.trans e⟩
    · exact Prs.refs r x z
theorem Prs.app {H : Hp} : ∀ {rs rs' : List V} {ps ps' : List Pr}, Prs H rs ps → Prs H rs' ps' → Prs H (rs ++ rs') (ps ++ ps')
  | _, _, _, _, .nil, h => h
  | _, _, _, _, .cons a r, h => .cons a (Prs.app r h)
theorem Prs.dp {K : PySem.W.Frag} {H : Hp} : ∀ {rs : List V} {ps : List Pr}, Prs H rs ps → DpAll K H rs (ps.map dPr)
  | _, _, .nil => .nil
  | _, _, .cons ⟨t, e, z⟩ r => .cons (by rw [e]; exact .tup (sqT_of z) (.cons (.str _) (.cons (.str _) .nil))) (Prs.dp r)
theorem Prs.len {H : Hp} {rs : List V} {ps : List Pr} (h : Prs H rs ps) : rs.length = ps.length := Paired.length h
/-- the pair that x is in H -/
def decP (H : Hp) (x : V) : Pr := match x with
  | .ref t => match H t with
    | some (.tup [.str a, .str b]) => (a, b)
    | _ => (⟨#[]⟩, ⟨#[]⟩)
  | _ => (⟨#[]⟩, ⟨#[]⟩)
theorem decP_eq {H : Hp} {t : Addr} {p : Pr} (h : H t = some (.tup [.str p.1, .str p.2])) : decP H (.ref t) = p := by
  show (match H t with
    | some (.tup [.str a, .str b]) => (a, b)
    | _ => ((⟨#[]⟩, ⟨#[]⟩) : Pr)) = p
  rw [h]
theorem Prs.dec {H : Hp} : ∀ {rs : List V} {ps : List Pr}, Prs H rs ps → ps = rs.map (decP H)
  | _, _, .nil => rfl
  | _, _, .cons ⟨t, e, z⟩ r => by rw [List.map_cons, ← Prs.dec r, e, decP_eq z]
theorem Prs.mem {H : Hp} : ∀ {rs : List V} {ps : List Pr}, Prs H rs ps → ∀ x ∈ rs, ∃ t, x = .ref t ∧ decP H x ∈ ps ∧ H t = some (.tup [.str (decP H x).1, .str (decP H x).2])
  | _, _, .nil, x, hx => nomatch hx
  | _, _, .cons ⟨t, e, z⟩ r, x, hx => by
    rcases List.mem_cons.mp hx with q | q
    · refine ⟨t, q.trans e, ?_⟩
      rw [q, e, decP_eq z]
      exact ⟨List.mem_cons_self, z⟩
    · obtain ⟨t2, e2, m, z2⟩ := Prs.mem r x q
      exact ⟨t2, e2, List.mem_cons_of_mem _ m, z2⟩
theorem strOk_nm {z : Str} (h : Nm z) : PyData.strOk z = true := by
  unfold PyData.strOk
  rw [Array.all_eq_true_iff_forall_mem]
  intro c hc
  have h1 := h.2.2 c (Array.mem_toList_iff.mpr hc)
  exact decide_eq_true (by omega)
def NmP (p : Pr) : Prop := Nm p.1 ∧ Nm p.2
theorem dPr_lay {p : Pr} (h : NmP p) : (dPr p).canLay0 = true := by simp [dPr, PyData.canLay0, PyData.canLayAll0, strOk_nm h.1, strOk_nm h.2]
theorem dPr_depth (p : Pr) : (dPr p).depth ≤ 2 := by simp [dPr, PyData.depth, PyData.depthAll]
theorem dPrs_lay : ∀ {ps : List Pr}, (∀ p ∈ ps, NmP p) → PyData.canLayAll0 (ps.map dPr) = true
  | [], _ => by simp [PyData.canLayAll0]
  | p :: r, h => by simp [PyData.canLayAll0, dPr_lay (h p List.mem_cons_self), dPrs_lay fun q hq => h q (List.mem_cons_of_mem _ hq)]
theorem dPr_eqv (p q : Pr) : PyData.eqv (dPr p) (dPr q) = decide (p = q) := by
  obtain ⟨a, b⟩ := p
  obtain ⟨c, d⟩ := q
  have e : PyData.eqv (dPr (a, b)) (dPr (c, d)) = ((a == c) && ((b == d) && true)) := by simp only [dPr, PyData.eqv, PyData.eqvAll]
  rw [e]
  by_cases h1 : a = c
  · by_cases h2 : b = d
    · subst h1 h2
      simp
    · have z : ((a, b) : Pr) ≠ (c, d) := fun z => h2 (Prod.mk.inj z).2
      rw [decide_eq_false z, beq_eq_false_iff_ne.mpr h2, Bool.false_and, Bool.and_false]
  · have z : ((a, b) : Pr) ≠ (c, d) := fun z => h1 (Prod.mk.inj z).1
    rw [decide_eq_false z, beq_eq_false_iff_ne.mpr h1, Bool.false_and]
theorem any_pr (ps : List Pr) (p : Pr) : ((ps.map dPr).any fun z => PyData.eqv z (dPr p)) = decide (p ∈ ps) := by
  induction ps with
  | nil => simp
  | cons q r ih =>
    rw [List.map_cons, List.any_cons, ih, dPr_eqv]
    by_cases h : q = p
    · subst h
      simp
    · have h2 : p ≠ q := fun z => h z.symm
      simp [h, h2]
/-- (a, b) in pairs, a tuple or a list of pairs -/
def rInP : R2 := fun x y H Q => ∃ (t q : Addr) (p : Pr) (rs : List V) (ps : List Pr), x = .ref t ∧ y = .ref q ∧ H t = some (.tup [.str p.1, .str p.2]) ∧ (H q = some (.tup rs) ∨ H q = some (.lst rs)) ∧ Prs H rs ps ∧ NmP p ∧ (∀ z ∈ ps, NmP z) ∧ Q (.bl (decide (p ∈ ps))) H
section
variable {X : Cx}
theorem op_inP (hu : X.A.units + 65 < cLine) : OpR X (compareOp .In) rInP := by
  intro pins s σ H x y v u Q I rx ry h
  obtain ⟨t, q, p, rs, ps, rfl, rfl, ht, hq, hp, np, nps, k⟩ := h
  have d1 : Dp X.K H (.ref t) (dPr p) := .tup (sqT_of ht) (.cons (.str _) (.cons (.str _) .nil))
  obtain ⟨as, r1⟩ := Dp.reads I _ _ v d1 rx
  have room : X.A.units + 1 + min (PyData.depthAll (ps.map dPr)) (dPr p).depth < cLine := by
    have h1 := dPr_depth p
    have h2 := Nat.min_le_right (PyData.depthAll (ps.map dPr)) (dPr p).depth
    omega
  have k2 : EP X pins σ Q (.bool ((ps.map dPr).any fun z => PyData.eqv z (dPr p))) s := by
    rw [any_pr]
    exact ⟨.bl _, H, I, rfl, k⟩
  rcases hq with hq | hq
  · obtain ⟨bs, r2⟩ := Dp.reads I (.tuple (ps.map dPr)) _ u (.tup (sqT_of hq) hp.dp) ry
    exact SeqAt.in_tuple_reads r2 r1 (dPrs_lay nps) (dPr_lay np) room k2
  · obtain ⟨bs, r2⟩ := Dp.reads I (.list (ps.map dPr)) _ u (.lst (sqL_of hq) hp.dp) ry
    exact SeqAt.in_list_reads r2 r1 (dPrs_lay nps) (dPr_lay np) room k2
theorem kSFld (K : PySem.W.Frag) {st : Stmt} {ta tv : TE} {f : Str} (h : PS X st (sFld X.K ta tv f)) (hK : X.K = K := by rfl) : PS X st (sFld K ta tv f) := by subst hK; exact h
/-- tuple.index of a text -/
def rTupIx (K : PySem.W.Frag) : V → List V → Hp → VK → Prop := fun x xs H Q => ∃ p, ∃ ys : List Str, ∃ z j, x = .ref p ∧ xs = [.str z] ∧ SqT K H p (ys.map V.str) ∧ ys[j]? = some z ∧ (∀ m, m < j → ys[m]? ≠ some z) ∧ Q (.int (j : Nat)) H
theorem mt_tupIxK (K : PySem.W.Frag) (hK : X.K = K := by rfl) : MtR X "tuple.index" (rTupIx K) := by subst hK; exact mt_tup_index
/-- isinstance(x, str) of a text -/
def rIsStr : List V → Hp → VK → Prop := fun xs H Q => ∃ z, xs = [.str z, .ty "str"] ∧ Q (.bl true) H
theorem call_isStr : CallR X (.builtin "isinstance") rIsStr := by
  intro pins s σ H vs us Q I r h
  obtain ⟨z, rfl, q⟩ := h
  exact call_isi pins s σ H _ us Q I r ⟨.str z, .ty "str", .type "str", .type "str", true, rfl, .ty "str", .base (.str z), rfl, q⟩
end
section
variable {σ : L2.St} {Q : VK} {tt : TT} {te : TE} {g : TG} {xs : List V} {vs : List Nat} {H1 : Hp} {J : It} {ok : Hp → Prop}
def PurP (H1 : Hp) (xs : List V) (f : V → Option V) (D : Addr) (i : Nat) (a : List V) (H : Hp) : Prop := H = upd H1 D (.lst a) ∧ a = (xs.take i).filterMap f
theorem lc_pure (f : V → Option V) (w : Wk J xs ok) (hk : ∀ (D : Addr) (acc : List V), H1 D = none → ok (upd H1 D (.lst acc)))
    (hs : ∀ (D : Addr) (i : Nat) (x : V) (acc : List V), H1 D = none → xs[i]? = some x → acc = (xs.take i).filterMap f → g x (wipe σ vs) (upd H1 D (.lst acc)) fun σ2 H2 => wipe σ2 vs = wipe σ vs ∧ tt σ2 H2 fun b H3 =>
      if b = true then te σ2 H3 fun y H4 => ∃ acc', H4 D = some (.lst acc') ∧ acc'.length < sizeLine ∧ ∃ a2, PurP H1 xs f D (i + 1) a2 (upd H4 D (.lst (acc' ++ [y]))) else ∃ a2, PurP H1 xs f D (i + 1) a2 H3)
    (hq : ∀ D, H1 D = none → Q (.ref D) (upd H1 D (.lst (xs.filterMap f)))) : LcG J g tt te vs σ Q H1 := by
  refine lc_walk w (fun D i a H => H1 D = none ∧ PurP H1 xs f D i a H) (fun D nD => ⟨nD, rfl, rfl⟩) ?_ ?_ ?_
  · rintro D i acc H ⟨nD, rfl, _⟩
    exact hk D acc nD
  · rintro D i x acc H nD hx ⟨_, rfl, ha⟩
    have z := hs D i x acc nD hx ha
    simp only [nD, true_and]
    exact z
  · rintro D acc H nD ⟨_, rfl, ha⟩
    rw [ha, List.take_length]
    exact hq D nD
theorem take_next {α : Type} {l : List α} {i : Nat} {x : α} (h : l[i]? = some x) : l.take (i + 1) = l.take i ++ [x] := by
  rw [List.take_add_one, h]
  rfl
theorem pur_yes {f : V → Option V} {D : Addr} {i : Nat} {x y : V} {acc : List V} (hz : xs.length < sizeLine) (hx : xs[i]? = some x) (ha : acc = (xs.take i).filterMap f) (hf : f x = some y) :
    ∃ acc', upd H1 D (.lst acc) D = some (.lst acc') ∧ acc'.length < sizeLine ∧ ∃ a2, PurP H1 xs f D (i + 1) a2 (upd (upd H1 D (.lst acc)) D (.lst (acc' ++ [y]))) := by
  refine ⟨acc, upd_same, ?_, acc ++ [y], upd_upd, ?_⟩
  · have h1 := List.length_filterMap_le f (xs.take i)
    rw [List.length_take] at h1
    rw [ha]
    omega
  · rw [take_next hx, List.filterMap_append, ← ha]
    simp [hf]
theorem pur_no {f : V → Option V} {D : Addr} {i : Nat} {x : V} {acc : List V} (hx : xs[i]? = some x) (ha : acc = (xs.take i).filterMap f) (hf : f x = none) : ∃ a2, PurP H1 xs f D (i + 1) a2 (upd H1 D (.lst acc)) := by
  refine ⟨acc, rfl, ?_⟩
  rw [take_next hx, List.filterMap_append, ← ha]
  simp [hf]
end
end TB
namespace TB
open PySem PySem.Spec PyProof.Rows L2 LamX
/-- the tuple at a, of these texts, made here -/
def LkAt (H : Hp) (a : Addr) (ls : List Str) : Prop := ∃ o : Obj, o.dict = none ∧ H a = some (.frz o (.tup (ls.map V.str)))
theorem LkAt.sq {K : PySem.W.Frag} {H : Hp} {a : Addr} {ls : List Str} (h : LkAt H a ls) : SqT K H a (ls.map V.str) := by
  obtain ⟨o, _, e⟩ := h
  exact Or.inl (Or.inr ⟨o, e⟩)
theorem LkAt.keep {H H' : Hp} {a : Addr} {ls : List Str} (h : LkAt H a ls) (k : ∀ o u, H a = some (.frz o u) → H' a = some (.frz o u)) : LkAt H' a ls := by
  obtain ⟨o, d, e⟩ := h
  exact ⟨o, d, k _ _ e⟩
/-- tuple(e) of texts -/
def rTupF (K : PySem.W.Frag) : List V → Hp → VK → Prop := fun xs H Q => ∃ (p : Addr) (ls : List Str), xs = [.ref p] ∧ ((SqL K H p (ls.map V.str) ∧ ∀ (l : Addr) (o : Obj), H l = none → o.dict = none → Q (.ref l) (upd H l (.frz o (.tup (ls.map V.str))))) ∨ (LkAt H p ls ∧ Q (.ref p) H))
section
variable {X : Cx}
theorem call_tupF (K : PySem.W.Frag) (hK : X.K = K := by rfl) : CallR X (.type "tuple") (rTupF K) := by
  subst hK
  intro pins s σ H xs us Q I r h
  obtain ⟨p, ls, rfl, h⟩ := h
  obtain ⟨u, rfl, rx⟩ := vals1 r
  cases rx
  rcases h with ⟨hq, q⟩ | ⟨hq, q⟩
  · obtain ⟨its, r2, pl, hz⟩ := I.list hq
    refine call_tuple_list pl.isList ?_ (by rw [List.size_toArray, ← r2.length]; exact hz)
    intro h' kp
    have I1 : Inv X pins σ H { s with heap := h' } := I.kept (t' := s.toks) kp
    refine ⟨.ref h'.objs.size, _, I1.laid (o := .frz { cls := .type "tuple", data := .seq its.toArray } (.tup (ls.map V.str))) (t' := s.toks) (fun b o e => Heap.get?_push_of_some _ e) (Nat.le_refl _) ⟨Heap.get?_push_size _ rfl, hz, its, r2, IsTup.new _ _⟩, rfl, q _ _ (I1.hok.fresh (Nat.le_refl _)) rfl⟩
  · obtain ⟨its, r2, pl, hz⟩ := I.tuple (hq.sq (K := X.K))
    exact call_tuple_same pl ⟨.ref p, H, I, rfl, q⟩
def tBMT (r : V → List V → Hp → VK → Prop) (to : TE) (t : TA) : TE := fun σ H Q => to σ H fun x H1 => (∃ a ls, x = .ref a ∧ LkAt H1 a ls) ∧ t σ H1 fun xs H2 => r x xs H2 Q
theorem pe_bmT {o e : Expr} {es : List Expr} {to : TE} {t : TA} {name : Str} {apos cpos : Pos} {id : String} {r : V → List V → Hp → VK → Prop} (slot : Slot "tuple" name id) (hty : typeOf (.builtin id) = pure (.type "method_descriptor")) (hm : MtR X id r) (ho : PE X o to) (ha : PA X (e :: es) t)
    (hbase : attributeBase o name X.env (eval o X.env) = eval o X.env := by rfl)
    (hfew : ((backTo cpos (starEach (e :: es) X.env)).all (fun x => !x.1) && (backToKw cpos (keywordEach [] X.env)).all (fun x => x.1.isSome) && decide ((e :: es).length + ([] : List Keyword).length + (if ([] : List Keyword).isEmpty then 0 else 1) < 30)) = true := by rfl)
    (hline : (apos.endLine == cpos.line) = true := by rfl) (hs : starEach (e :: es) X.env = (false, eval e X.env) :: starEach es X.env := by rfl) (hplain : (backTo cpos (starEach es X.env)).any (·.1) = false := by rfl) :
    PE X (.Call (.Attribute o name apos) (e :: es) [] cpos) (tBMT r to t) := by
  refine ⟨fun pins s σ H Q I h => ?_⟩
  refine wpAny_Call_method_late hbase hfew hline rfl (thn (ho.run pins s σ H _ I h) ?_)
  rintro v s1 ⟨x, H1, I1, r1, ⟨a, ls, rfl, ob, hdn, ea⟩, q1⟩
  obtain rfl : v = Value.ref a := r1
  obtain ⟨eo, _, _, _, o2, eo2, hc, _⟩ := I1.hok a _ ea
  rw [eo] at eo2
  cases eo2
  refine ⟨"tuple", id, PySem.F.plainAttrs_tuple, slot, hty, ⟨ob, eo, hc⟩, fun b eb => ?_, ?_⟩
  · cases eb
    exact ⟨ob, eo, hdn⟩
  · have hA := ha.run cpos pins s1 σ H1 _ I1 q1
    rw [hs] at hA ⊢
    have hno : (backTo cpos ((false, eval e X.env) :: starEach es X.env)).any (·.1) = false := by
      show (false || (backTo cpos (starEach es X.env)).any (·.1)) = false
      rw [hplain]
      rfl
    refine Calls.callWith_builtin hno (Calls.evalArgs_plain (thn hA ?_))
    rintro us s2 ⟨vs, H2, I2, r2, q2⟩
    exact hm pins s2 σ H2 (.ref a) vs (.ref a) us Q I2 rfl r2 q2
end
end TB
namespace TB
open PySem PySem.Spec PyProof.Rows L2 LamX
/-- by pairs one comes from a to b -/
inductive Rch (ps : List Pr) : Str → Str → Prop
  | one {a b : Str} : (a, b) ∈ ps → Rch ps a b
  | step {a b c : Str} : Rch ps a b → (b, c) ∈ ps → Rch ps a c
theorem Rch.trans {ps : List Pr} {a b c : Str} (h : Rch ps a b) (k : Rch ps b c) : Rch ps a c := by
  induction k with
  | one m => exact .step h m
  | step _ m ih => exact .step ih m
theorem Rch.mono {ps qs : List Pr} (s : ∀ p ∈ ps, p ∈ qs) {a b : Str} (h : Rch ps a b) : Rch qs a b := by
  induction h with
  | one m => exact .one (s _ m)
  | step _ m ih => exact .step ih (s _ m)
/-- along a rank that each pair raises -/
theorem Rch.rank {ps : List Pr} (r : Str → Nat) (hr : ∀ p ∈ ps, r p.1 < r p.2) {a b : Str} (h : Rch ps a b) : r a < r b := by
  induction h with
  | one m => exact hr _ m
  | step _ m ih => exact Nat.lt_trans ih (hr _ m)
def afterP (ps : List Pr) (z : Str) : List Str := ps.filterMap fun p => if p.1 = z then some p.2 else none
theorem mem_afterP {ps : List Pr} {z c : Str} : c ∈ afterP ps z ↔ (z, c) ∈ ps := by
  unfold afterP
  rw [List.mem_filterMap]
  constructor
  · rintro ⟨p, hp, e⟩
    by_cases q : p.1 = z
    · rw [if_pos q] at e
      have e2 : p.2 = c := Option.some.inj e
      rw [← q, ← e2]
      exact hp
    · rw [if_neg q] at e
      exact nomatch e
  · intro h
    exact ⟨(z, c), h, if_pos rfl⟩
theorem nodup_afterP : ∀ {ps : List Pr} {z : Str}, ps.Nodup → (afterP ps z).Nodup
  | [], _, _ => List.nodup_nil
  | p :: r, z, h => by
    have h2 := List.nodup_cons.mp h
    have ih := nodup_afterP (z := z) h2.2
    show ((p :: r).filterMap fun p => if p.1 = z then some p.2 else none).Nodup
    by_cases q : p.1 = z
    · rw [List.filterMap_cons, if_pos q]
      refine List.nodup_cons.mpr ⟨fun m => ?_, ih⟩
      have m2 : (z, p.2) ∈ r := mem_afterP.mp m
      rw [← q] at m2
      exact h2.1 m2
    · rw [List.filterMap_cons, if_neg q]
      exact ih
/-- the place of z in ls -/
def ixS (ls : List Str) (z : Str) : Nat := ls.findIdx (fun y => decide (y = z))
theorem ixS_at {ls : List Str} {z : Str} (h : z ∈ ls) : ls[ixS ls z]? = some z ∧ ∀ m, m < ixS ls z → ls[m]? ≠ some z := by
  have h1 : ixS ls z < ls.length := List.findIdx_lt_length_of_exists ⟨z, h, decide_eq_true rfl⟩
  refine ⟨?_, fun m hm e => ?_⟩
  · have h2 := List.findIdx_getElem (p := fun y => decide (y = z)) (w := h1)
    have h3 := of_decide_eq_true h2
    rw [List.getElem?_eq_getElem h1]
    exact congrArg some h3
  · have h2 := List.not_of_lt_findIdx (p := fun y => decide (y = z)) (xs := ls) hm
    obtain ⟨hl, e2⟩ := List.getElem?_eq_some_iff.mp e
    rw [e2] at h2
    exact absurd rfl (of_decide_eq_false h2)
def keyP (ls : List Str) (p : Pr) : Int × Int := ((ixS ls p.1 : Int), (ixS ls p.2 : Int))
/-- in the order of the locks' places -/
def SortP (ls : List Str) (ps : List Pr) : Prop := ps.Pairwise fun p q => SrtO.lexB (keyP ls q) (keyP ls p) = false
structure OrdOk (ls : List Str) (ps : List Pr) : Prop where
  nd : ls.Nodup
  nm : ∀ z ∈ ls, Nm z
  len : ls.length ≤ 30
  mem : ∀ p ∈ ps, p.1 ∈ ls ∧ p.2 ∈ ls
  pnd : ps.Nodup
  srt : SortP ls ps
theorem OrdOk.nmp {ls : List Str} {ps : List Pr} (h : OrdOk ls ps) : ∀ p ∈ ps, NmP p := fun p hp => ⟨h.nm _ (h.mem p hp).1, h.nm _ (h.mem p hp).2⟩
theorem all_len (ls ms : List Str) : (ls.flatMap fun a => ms.map fun b => ((a, b) : Pr)).length = ls.length * ms.length := by
  induction ls with
  | nil => simp
  | cons a r ih =>
    rw [List.flatMap_cons, List.length_append, ih, List.length_map, List.length_cons, Nat.succ_mul]
    omega
theorem OrdOk.plen {ls : List Str} {ps : List Pr} (h : OrdOk ls ps) : ps.length ≤ 900 := by
  have h1 := nodup_le (m := ls.flatMap fun a => ls.map fun b => ((a, b) : Pr)) h.pnd (fun x hx => List.mem_flatMap.mpr ⟨x.1, (h.mem x hx).1, List.mem_map.mpr ⟨x.2, (h.mem x hx).2, rfl⟩⟩)
  rw [all_len] at h1
  have h2 := Nat.mul_le_mul h.len h.len
  omega
theorem OrdOk.nil {ls : List Str} (nd : ls.Nodup) (nm : ∀ z ∈ ls, Nm z) (len : ls.length ≤ 30) : OrdOk ls [] := ⟨nd, nm, len, (fun _ z => nomatch z), List.nodup_nil, List.Pairwise.nil⟩
structure OrdC (K : PySem.W.Frag) (C : Addr) : Prop where
  cls : Cls K C
  nl : NoAttr K C "own_locks"
  np : NoAttr K C "own_pairs"
def OrdAt (C : Addr) (H : Hp) (x : Addr) (ls : List Str) (ps : List Pr) : Prop := ∃ (dx tl tp : Addr) (rs : List V), H x = some (.ins C dx [("own_locks", .ref tl), ("own_pairs", .ref tp)]) ∧ LkAt H tl ls ∧ H tp = some (.tup rs) ∧ Prs H rs ps
theorem OrdAt.kp {C : Addr} {lo : List Addr} {H H' : Hp} {x : Addr} {ls : List Str} {ps : List Pr} (h : OrdAt C H x ls ps) (k : Kp lo H H') (n : ∀ a ∈ lo, ∀ o, H a = some o → (∀ xs, o ≠ .tup xs) ∧ (∀ ob u, o ≠ .frz ob u) ∧ ∀ C dx fs, o ≠ .ins C dx fs) : OrdAt C H' x ls ps := by
  obtain ⟨dx, tl, tp, rs, h1, h2, h3, h4⟩ := h
  have kt : ∀ b xs, H b = some (.tup xs) → H' b = some (.tup xs) := fun b xs e => k b _ e (fun m => (n b m _ e).1 xs rfl)
  exact ⟨dx, tl, tp, rs, k _ _ h1 (fun m => (n x m _ h1).2.2 _ _ _ rfl), h2.keep (fun ob u e => k _ _ e (fun m => (n tl m _ e).2.1 ob u rfl)), kt _ _ h3, h4.keep kt⟩
theorem OrdAt.same {C : Addr} {H H' : Hp} {x : Addr} {ls : List Str} {ps : List Pr} (h : OrdAt C H x ls ps) (k : ∀ b o, H b = some o → H' b = some o) : OrdAt C H' x ls ps := h.kp (lo := []) (fun b o e _ => k b o e) (fun _ z => nomatch z)
theorem OrdAt.new {C : Addr} {H : Hp} {x p : Addr} {o : HO} {ls : List Str} {ps : List Pr} (h : OrdAt C H x ls ps) (n : H p = none) : OrdAt C (upd H p o) x ls ps := h.same fun _ _ e => old_upd n e
theorem OrdAt.lst {C : Addr} {H : Hp} {x p : Addr} {o : HO} {ys : List V} {ls : List Str} {ps : List Pr} (h : OrdAt C H x ls ps) (n : H p = some (.lst ys)) : OrdAt C (upd H p o) x ls ps :=
  h.kp (lo := [p]) (fun b u e m => oth_upd (fun z => m (List.mem_singleton.mpr z)) e) (fun a m u e => by
    rw [List.mem_singleton.mp m, n] at e
    cases e
    exact ⟨(fun _ z => nomatch z), (fun _ _ z => nomatch z), (fun _ _ _ z => nomatch z)⟩)
theorem OrdAt.tg {C T : Addr} {q : Str} {H H' : Hp} {x : Addr} {ls : List Str} {ps : List Pr} (h : OrdAt C H x ls ps) (t : Tg T q H H') (t0 : TabS H T q) : OrdAt C H' x ls ps :=
  h.kp t.kp (fun a m u e => by
    obtain ⟨tb, e2, _⟩ := t0
    rw [List.mem_singleton.mp m, e2] at e
    cases e
    exact ⟨(fun _ z => nomatch z), (fun _ _ z => nomatch z), (fun _ _ _ z => nomatch z)⟩)
theorem TabS.new {T p : Addr} {q : Str} {H : Hp} {o : HO} (t : TabS H T q) (n : H p = none) : TabS (upd H p o) T q := t.ext fun _ _ e => old_upd n e
theorem TabS.mut {T p : Addr} {q : Str} {H : Hp} {o : HO} {ys : List V} (t : TabS H T q) (n : H p = some (.lst ys)) : TabS (upd H p o) T q := by
  obtain ⟨tb, h1, h2, h3⟩ := t
  refine ⟨tb, oth_upd (ne_of h1 n (fun z => nomatch z)) h1, h2, fun pos cv hc => ?_⟩
  obtain ⟨c, e, h⟩ := h3 pos cv hc
  exact ⟨c, e, oth_upd (ne_of h n (fun z => nomatch z)) h⟩
theorem Tg.refl {T : Addr} {q : Str} {H : Hp} (t : TabS H T q) : Tg T q H H := ⟨Kp.refl H, t, id⟩
theorem Tg.trans {T : Addr} {q : Str} {H H1 H2 : Hp} (a : Tg T q H H1) (b : Tg T q H1 H2) : Tg T q H H2 := ⟨a.kp.trans b.kp, b.tab, fun n => b.nt (a.nt n)⟩
theorem Tg.new {T p : Addr} {q : Str} {H H' : Hp} {o : HO} (a : Tg T q H H') (n : H' p = none) (no : noT o) : Tg T q H (upd H' p o) := ⟨a.kp.new n, TabS.new a.tab n, fun z => (a.nt z).upd no⟩
theorem Tg.at {T : Addr} {q : Str} {H H' : Hp} (a : Tg T q H H') (t : TabS H T q) {b : Addr} {o : HO} (e : H b = some o) (n : ∀ ps, o ≠ .tbl ps) : H' b = some o := kp_extN a.kp t b o e n
theorem Tg.none {T : Addr} {q : Str} {H H' : Hp} (a : Tg T q H H') (t : TabS H T q) {b : Addr} (e : H' b = none) : H b = none := by
  cases q2 : H b with
  | none => rfl
  | some o =>
    by_cases z : b = T
    · obtain ⟨tb, e2, _⟩ := a.tab
      rw [z, e2] at e
      exact nomatch e
    · rw [a.kp b o q2 (fun m => z (List.mem_singleton.mp m))] at e
      exact nomatch e
def spWant (C : Addr) : Sp := fun vs H Q _ => ∃ (x : Addr) (z : Str) (ls : List Str) (ps : List Pr), vs = [.ref x, .str z] ∧ OrdAt C H x ls ps ∧ z ∈ ls ∧ Q .non H
def spHas (C : Addr) : Sp := fun vs H Q _ => ∃ (x : Addr) (a b : Str) (ls : List Str) (ps : List Pr), vs = [.ref x, .str a, .str b] ∧ OrdAt C H x ls ps ∧ OrdOk ls ps ∧ a ∈ ls ∧ b ∈ ls ∧ NoT H ∧ Q (.bl (decide ((a, b) ∈ ps))) H
def spAfter (C : Addr) : Sp := fun vs H Q _ => ∃ (x : Addr) (z : Str) (ls : List Str) (ps : List Pr), vs = [.ref x, .str z] ∧ OrdAt C H x ls ps ∧ OrdOk ls ps ∧ ∀ p, H p = none → Q (.ref p) (upd H p (.lst ((afterP ps z).map V.str)))
def spBehind (C : Addr) : Sp := fun vs H Q _ => ∃ (x : Addr) (a : Str) (ls : List Str) (ps : List Pr), vs = [.ref x, .str a] ∧ OrdAt C H x ls ps ∧ OrdOk ls ps ∧ a ∈ ls ∧ NoT H ∧
  ∀ (p : Addr) (fs : List Str), H p = none → (∀ z, z ∈ fs ↔ Rch ps a z) → Q (.ref p) (upd H p (.lst ((ls.filter fun z => decide (z ∈ fs)).map V.str)))
def spLeads (C : Addr) : Sp := fun vs H Q _ => ∃ (x : Addr) (a b : Str) (ls : List Str) (ps : List Pr), vs = [.ref x, .str a, .str b] ∧ OrdAt C H x ls ps ∧ OrdOk ls ps ∧ a ∈ ls ∧ b ∈ ls ∧ NoT H ∧ ∀ k : Bool, (k = true ↔ Rch ps a b) → Q (.bl k) H
def spWith (C T : Addr) (q : Str) : Sp := fun vs H Q _ => ∃ (x : Addr) (a b : Str) (ls : List Str) (ps : List Pr), vs = [.ref x, .str a, .str b] ∧ OrdAt C H x ls ps ∧ OrdOk ls ps ∧ a ∈ ls ∧ b ∈ ls ∧ a ≠ b ∧ ¬ Rch ps b a ∧ NoT H ∧ TabS H T q ∧
  ∀ (H' : Hp) (t : Addr) (rs : List V) (qs : List Pr), Tg T q H H' → H' t = some (.tup rs) → Prs H' rs qs → OrdOk ls qs → (∀ z, z ∈ qs ↔ z ∈ ps ∨ z = (a, b)) → Q (.ref t) H'
def spAdded (C T : Addr) (q : Str) : Sp := fun vs H Q _ => ∃ (x : Addr) (a b : Str) (ls : List Str) (ps : List Pr), vs = [.ref x, .str a, .str b] ∧ OrdAt C H x ls ps ∧ OrdOk ls ps ∧ a ∈ ls ∧ b ∈ ls ∧ a ≠ b ∧ ¬ Rch ps b a ∧ NoT H ∧ TabS H T q ∧
  ∀ (H' : Hp) (y : Addr) (qs : List Pr), Tg T q H H' → OrdAt C H' y ls qs → OrdOk ls qs → (∀ z, z ∈ qs ↔ z ∈ ps ∨ z = (a, b)) → H y = none → Q (.ref y) H'
/-- of the default pairs, none -/
def spInit (K : PySem.W.Frag) (C : Addr) : Sp := fun vs H Q _ => ∃ (x dx l d : Addr) (ls : List Str), vs = [.ref x, .ref l, .ref d] ∧ H x = some (.ins C dx []) ∧ (SqL K H l (ls.map V.str) ∨ LkAt H l ls) ∧ (∀ H, SqT K H d []) ∧
  ∀ H', Kp [x] H H' → (NoT H → NoT H') → OrdAt C H' x ls [] → Q .non H'
end TB
namespace TB
open PySem PySem.Spec PyProof.Rows L2 LamX
theorem fm_congr {α β : Type} {f g : α → Option β} : ∀ {l : List α}, (∀ x ∈ l, f x = g x) → l.filterMap f = l.filterMap g
  | [], _ => rfl
  | x :: l, h => by rw [List.filterMap_cons, List.filterMap_cons, h x List.mem_cons_self, fm_congr fun y hy => h y (List.mem_cons_of_mem _ hy)]
structure BltA (mg : Str → Option Value) : Prop where
  b_len : mg "len" = none
  b_max : mg "max" = none
  b_min : mg "min" = none
  b_abs : mg "abs" = none
  b_divmod : mg "divmod" = none
  b_range : mg "range" = none
  b_enumerate : mg "enumerate" = none
  b_int : mg "int" = none
  b_list : mg "list" = none
  b_repr : mg "repr" = none
  b_isinstance : mg "isinstance" = none
  b_str : mg "str" = none
  b_tuple : mg "tuple" = none
  b_sorted : mg "sorted" = none
  b_all : mg "all" = none
  b_any : mg "any" = none
  b_zip : mg "zip" = none
  b_dict : mg "dict" = none
  b_sum : mg "sum" = none
  b_bool : mg "bool" = none
abbrev FnP (K : PySem.W.Frag) (x : Str) (st : Stmt) (f : Addr) (fd : FuncData) : Prop := FunD K x x (defArgs st) (defBody st) (defScope st) [] [] f fd
abbrev FnM (K : PySem.W.Frag) (x qual : Str) (st : Stmt) (dvs : List V) (f : Addr) (fd : FuncData) : Prop := FunD K x qual (defArgs st) (defBody st) (defScope st) dvs [] f fd
theorem hu65 {k : Nat} {A : Around} (h : Room k A) : A.units + 65 < cLine := by
  have := h.un
  omega
section
variable {σ : L2.St} {H : Hp} {D : Ends} {Q : VK} {ta tv : TE} {tl : TA} {K : PySem.W.Frag} {C x dx : Addr} {fs : List (Str × V)} {f m : Str} {v : V} {sp : Sp} {dvs : List V} {E : XK}
theorem st_fld (h : ta σ H fun x H1 => ∃ a C dx fs v, x = .ref a ∧ H1 a = some (.ins C dx fs) ∧ Cls K C ∧ NoAttr K C f ∧ fs.lookup f = some v ∧ Q v H1) : tFld K ta f σ H Q := h
theorem st_mt (h : ta σ H fun x H1 => ∃ a dx fs, x = .ref a ∧ H1 a = some (.ins C dx fs) ∧ fs.lookup m = none ∧ tl σ H1 fun vs H2 => sp (x :: (vs ++ dvs)) H2 Q E) : tMeth C m sp dvs E ta tl σ H Q := h
theorem st_mk (h : tl σ H fun vs H1 => ∀ x dx, H1 x = none → H1 dx = none → dx ≠ x → sp (.ref x :: (vs ++ dvs)) (upd (upd H1 dx (.own x)) x (.ins C dx [])) (fun v H2 => v = .non ∧ Q (.ref x) H2) E) : tMake C sp dvs E tl σ H Q := h
theorem st_sfld (h : tv σ H fun y H1 => ta σ H1 fun x H2 => ∃ a C dx fs, x = .ref a ∧ H2 a = some (.ins C dx fs) ∧ Cls K C ∧ NoAttr K C f ∧ fs.length < 1000 ∧ D.nx σ (upd H2 a (.ins C dx (putF f y fs)))) : sFld K ta tv f D σ H := h
theorem st_bm0 {T : String} {r : V → List V → Hp → VK → Prop} (h : ta σ H fun x H1 => tyV K T x H1 ∧ r x [] H1 Q) : tBM0 K T r ta σ H Q := h
theorem st_bmT {r : V → List V → Hp → VK → Prop} (h : ta σ H fun x H1 => (∃ a ls, x = .ref a ∧ LkAt H1 a ls) ∧ tl σ H1 fun xs H2 => r x xs H2 Q) : tBMT r ta tl σ H Q := h
theorem st_itu {R : It → Hp → Prop} (h : ta σ H fun x H1 => ∃ a, x = .ref a ∧ (∃ xs, SqT K H1 a xs) ∧ R (Itt K a) H1) : iTup K ta σ H R := h
theorem st_ninT {a : Addr} {z : Str} {ls : List Str} (hs : SqT K H a (ls.map V.str)) (h : Q (.bl (!decide (z ∈ ls))) H) : rIn K true (.str z) (.ref a) H Q :=
  ⟨a, _, rfl, Or.inr hs, rfl, by simp [flatV], by
    show Q (.bl (!inV (.str z) (ls.map V.str))) H
    rw [inV_strs]
    exact h⟩
theorem st_inS {a : Addr} {z : Str} {ls : List Str} (hs : SqL K H a (ls.map V.str) ∨ SqT K H a (ls.map V.str)) (h : Q (.bl (decide (z ∈ ls))) H) : rIn K false (.str z) (.ref a) H Q :=
  ⟨a, _, rfl, hs, rfl, by simp [flatV], by
    show Q (.bl (inV (.str z) (ls.map V.str))) H
    rw [inV_strs]
    exact h⟩
theorem st_ninS {a : Addr} {z : Str} {ls : List Str} (hs : SqL K H a (ls.map V.str) ∨ SqT K H a (ls.map V.str)) (h : Q (.bl (!decide (z ∈ ls))) H) : rIn K true (.str z) (.ref a) H Q :=
  ⟨a, _, rfl, hs, rfl, by simp [flatV], by
    show Q (.bl (!inV (.str z) (ls.map V.str))) H
    rw [inV_strs]
    exact h⟩
theorem st_inP {t q : Addr} {p : Pr} {rs : List V} {ps : List Pr} (h1 : H t = some (.tup [.str p.1, .str p.2])) (h2 : H q = some (.tup rs) ∨ H q = some (.lst rs)) (h3 : Prs H rs ps) (n1 : NmP p) (n2 : ∀ z ∈ ps, NmP z) (h : Q (.bl (decide (p ∈ ps))) H) : rInP (.ref t) (.ref q) H Q := ⟨t, q, p, rs, ps, rfl, rfl, h1, h2, h3, n1, n2, h⟩
end
end TB
namespace TB
open PySem PySem.Spec PyProof.Rows L2 LamX
/-- a def by its body, its code object told -/
theorem okC {P : Program} {w : World} {K : PySem.W.Frag} {mg : Str → Option Value} {base : Heap} {x qual : Str} {params : Arguments} {body : List Stmt} {scope : Scope} {dvs : List V} {kws : List (Str × V)} {f : Addr} {fd : FuncData} {CX : CXT} {N ps : List Str} {k : Nat} {sp : Sp} {c : Addr}
    (F : FunD K x qual params body scope dvs kws f fd) (hc : fd.code = .ref c) (S : FnScope N ps scope) (len : ∀ vs H Q E, sp vs H Q E → vs.length = ps.length)
    (hbody : ∀ (A : Around) (outer : List Env) (s : Shared) (H : Hp) (vs : List V) (Q : VK) (E : XK), Room k (A.deeper (envOfC qual scope s.heap.objs.size f (.ref c))) → sp vs H Q E →
      ∃ t, PSs (cxOf CX P w K mg base N qual scope f (.ref c) A outer s H E) body t ∧ t { nx := fun _ H' => Q .non H', rt := Q } (start N vs) H) : FnOk P w K mg base CX (k + 1) f fd ps sp := by
  obtain ⟨oc, od, dV, kV, doc, pm, an, cdv, ct, osl, rfl, lk, hcd, _, _⟩ := F.ex
  obtain rfl : cdv = .ref c := hc
  exact fn_of lk hcd S len hbody
structure BInv (ls : List Str) (ps : List Pr) (a : Str) (fs lf : List Str) : Prop where
  nd : fs.Nodup
  sub : ∀ z ∈ fs, Rch ps a z
  ins : ∀ z ∈ fs, z ∈ ls
  lft : ∀ z ∈ lf, z = a ∨ z ∈ fs
  cl : ∀ z, z = a ∨ z ∈ fs → z ∈ lf ∨ ∀ c, (z, c) ∈ ps → c ∈ fs
theorem BInv.init {ls : List Str} {ps : List Pr} {a : Str} : BInv ls ps a [] [a] :=
  ⟨List.nodup_nil, (fun _ z => nomatch z), (fun _ z => nomatch z), fun z h => Or.inl (List.mem_singleton.mp h), fun z h => h.elim (fun e => Or.inl (List.mem_singleton.mpr e)) (fun m => nomatch m)⟩
def moreP (ps : List Pr) (fs : List Str) (l : Str) : List Str := (afterP ps l).filter fun z => !decide (z ∈ fs)
theorem mem_moreP {ps : List Pr} {fs : List Str} {l z : Str} : z ∈ moreP ps fs l ↔ (l, z) ∈ ps ∧ z ∉ fs := by
  unfold moreP
  rw [List.mem_filter, mem_afterP]
  simp
theorem BInv.step {ls : List Str} {ps : List Pr} {a l : Str} {fs lf : List Str} (ok : OrdOk ls ps) (b : BInv ls ps a fs (lf ++ [l])) : BInv ls ps a (fs ++ moreP ps fs l) (lf ++ moreP ps fs l) := by
  have hl : l = a ∨ l ∈ fs := b.lft l (List.mem_append_right _ (List.mem_singleton.mpr rfl))
  have rl : ∀ z, (l, z) ∈ ps → Rch ps a z := by
    intro z hz
    rcases hl with e | m
    · rw [e] at hz
      exact .one hz
    · exact .step (b.sub l m) hz
  refine ⟨?_, ?_, ?_, ?_, ?_⟩
  · refine List.nodup_append.mpr ⟨b.nd, (nodup_afterP ok.pnd).filter _, ?_⟩
    intro u hu v hv e
    exact (mem_moreP.mp hv).2 (e ▸ hu)
  · intro z hz
    rcases List.mem_append.mp hz with m | m
    · exact b.sub z m
    · exact rl z (mem_moreP.mp m).1
  · intro z hz
    rcases List.mem_append.mp hz with m | m
    · exact b.ins z m
    · exact (ok.mem _ (mem_moreP.mp m).1).2
  · intro z hz
    rcases List.mem_append.mp hz with m | m
    · rcases b.lft z (List.mem_append_left _ m) with e | e
      · exact Or.inl e
      · exact Or.inr (List.mem_append_left _ e)
    · exact Or.inr (List.mem_append_right _ m)
  · intro z hz
    by_cases hzl : z = l
    · refine Or.inr (fun c hc => ?_)
      rw [hzl] at hc
      by_cases m : c ∈ fs
      · exact List.mem_append_left _ m
      · exact List.mem_append_right _ (mem_moreP.mpr ⟨hc, m⟩)
    · by_cases m : z = a ∨ z ∈ fs
      · rcases b.cl z m with e | e
        · rcases List.mem_append.mp e with e2 | e2
          · exact Or.inl (List.mem_append_left _ e2)
          · exact absurd (List.mem_singleton.mp e2) hzl
        · exact Or.inr (fun c hc => List.mem_append_left _ (e c hc))
      · refine Or.inl (List.mem_append_right _ ?_)
        rcases hz with e | e
        · exact absurd (Or.inl e) m
        · rcases List.mem_append.mp e with e2 | e2
          · exact absurd (Or.inr e2) m
          · exact e2
theorem BInv.done {ls : List Str} {ps : List Pr} {a : Str} {fs : List Str} (b : BInv ls ps a fs []) (z : Str) : z ∈ fs ↔ Rch ps a z := by
  refine ⟨b.sub z, fun h => ?_⟩
  induction h with
  | one m => exact (b.cl _ (Or.inl rfl)).elim (fun e => nomatch e) (fun e => e _ m)
  | step _ m ih => exact (b.cl _ (Or.inr ih)).elim (fun e => nomatch e) (fun e => e _ m)
theorem BInv.less {ls : List Str} {ps : List Pr} {a l : Str} {fs lf : List Str} (b : BInv ls ps a (fs ++ moreP ps fs l) (lf ++ moreP ps fs l)) :
    2 * (ls.length - (fs ++ moreP ps fs l).length) + (lf ++ moreP ps fs l).length < 2 * (ls.length - fs.length) + (lf ++ [l]).length := by
  have h1 := nodup_le b.nd b.ins
  rw [List.length_append] at h1 ⊢
  rw [List.length_append, List.length_append, List.length_singleton]
  omega
theorem sh_strs {ws : List Str} (h : ∀ z ∈ ws, Nm z) : SeqAt.shaped (dStrs ws) = true := by
  have h1 : ∀ ws : List Str, (∀ z ∈ ws, Nm z) → PyData.canLayAll0 (ws.map PyData.str) = true := by
    intro ws
    induction ws with
    | nil =>
      intro _
      simp [PyData.canLayAll0]
    | cons z r ih =>
      intro h
      simp [PyData.canLayAll0, PyData.canLay0, strOk_nm (h z List.mem_cons_self), ih fun y hy => h y (List.mem_cons_of_mem _ hy)]
  have h2 : ∀ ws : List Str, PyData.depthAll (ws.map PyData.str) ≤ 1 := by
    intro ws
    induction ws with
    | nil => simp [PyData.depthAll]
    | cons z r ih =>
      simp only [List.map_cons, PyData.depthAll, PyData.depth]
      omega
  have h3 := h2 ws
  show (PyData.canLay0 (.list (ws.map PyData.str)) && decide (PyData.depth (.list (ws.map PyData.str)) ≤ 64)) = true
  rw [Bool.and_eq_true]
  refine ⟨by simp only [PyData.canLay0]; exact h1 ws h, decide_eq_true ?_⟩
  simp only [PyData.depth]
  omega
theorem eqv_nil (ws : List Str) : PyData.eqv (dStrs ws) (dStrs []) = decide (ws = []) := by
  cases ws with
  | nil => simp [dStrs, PyData.eqv, PyData.eqvAll]
  | cons z r => simp [dStrs, PyData.eqv, PyData.eqvAll]
theorem st_neNil {K : PySem.W.Frag} {H : Hp} {Q : VK} {a b : Addr} {ws : List Str} (h : ∀ z ∈ ws, Nm z) (h1 : H a = some (.lst (ws.map V.str))) (h2 : H b = some (.lst [])) (q : Q (.bl (!decide (ws = []))) H) : rNeD K (.ref a) (.ref b) H Q :=
  ⟨dStrs ws, dStrs [], dp_strs (sqL_of h1), dp_strs (ws := []) (sqL_of h2), sh_strs h, sh_strs (fun _ z => nomatch z), by rw [eqv_nil]; exact q⟩
def strF (p : Str → Bool) : V → Option V
  | .str z => if p z = true then some (.str z) else none
  | _ => none
theorem fm_filter (p : Str → Bool) : ∀ ls : List Str, (ls.map V.str).filterMap (strF p) = (ls.filter p).map V.str
  | [] => rfl
  | z :: r => by
    rw [List.map_cons, List.filterMap_cons, fm_filter p r]
    cases h : p z with
    | true =>
      have e : strF p (.str z) = some (.str z) := if_pos h
      rw [e, List.filter_cons_of_pos h, List.map_cons]
    | false =>
      have e : strF p (.str z) = none := if_neg (by rw [h]; decide)
      rw [e, List.filter_cons_of_neg (by rw [h]; decide)]
theorem strF_yes {p : Str → Bool} {z : Str} (h : p z = true) : strF p (.str z) = some (.str z) := if_pos h
theorem strF_no {p : Str → Bool} {z : Str} (h : p z = false) : strF p (.str z) = none := if_neg (by rw [h]; decide)
end TB
namespace TB
open PySem PySem.Spec PyProof.Rows L2 LamX NdefX
theorem st_sortLam {σ : L2.St} {H : Hp} {Q : VK} {K : PySem.W.Frag} {P : Addr} {q : Str} {N : List Str} {js : List Nat} {tb : TE} {t : TA} (h : t σ H fun vs H1 => ∃ (a : Addr) (xs : List V) (kf : V → Int × Int), vs = [.ref a] ∧ SqT K H1 a xs ∧ (∀ x ∈ xs, ∃ b, x = V.ref b) ∧ TabS H1 P q ∧
  (∀ x ∈ xs, ∀ H', ExtN H1 H' → ∀ Q' : VK, (∀ p, H' p = none → Q' (.ref p) (upd H' p (.tup [.int (kf x).1, .int (kf x).2]))) → tb (startF N [x] (js.map (slotAt σ))) H' Q') ∧
  ∀ (ys : List V) (D : Addr) (H' : Hp), ys.Perm xs → SrtO.Srtd (ltP kf) ys → Tg P q H1 H' → H1 D = none → H' D = some (.lst ys) → Q (.ref D) H') : tSortLam K P q N js tb t σ H Q := h
theorem st_catP {H : Hp} {Q : VK} {K : PySem.W.Frag} {a b : Addr} {xs ys : List V} (h1 : H a = some (.tup xs)) (h2 : H b = some (.tup ys)) (n : xs.length + ys.length ≤ sizeLine) (ny : ys ≠ [])
    (k : ∀ p H', (∀ c o, H c = some o → H' c = some o) → (NoT H → NoT H') → H' p = some (.tup (xs ++ ys)) → Q (.ref p) H') : rCatA K (.ref a) (.ref b) H Q := by
  refine ⟨a, b, xs, ys, rfl, rfl, sqT_of h1, sqT_of h2, n, fun e => ?_, fun _ e => absurd e ny, fun _ _ p np => ?_⟩
  · refine k b H (fun _ _ z => z) id ?_
    rw [e]
    exact h2
  · exact k p _ (fun c o z => old_upd np z) (fun z => z.upd trivial) upd_same
theorem prs_map {H : Hp} {g : V → Pr} : ∀ {ys : List V}, (∀ y ∈ ys, ∃ t, y = .ref t ∧ H t = some (.tup [.str (g y).1, .str (g y).2])) → Prs H ys (ys.map g)
  | [], _ => .nil
  | y :: r, h => .cons (h y List.mem_cons_self) (prs_map fun z hz => h z (List.mem_cons_of_mem _ hz))
/-- the new list of pairs -/
theorem OrdOk.add {ls : List Str} {ps qs : List Pr} {a b : Str} (h : OrdOk ls ps) (ha : a ∈ ls) (hb : b ∈ ls) (hn : (a, b) ∉ ps) (pm : qs.Perm (ps ++ [(a, b)])) (sr : SortP ls qs) : OrdOk ls qs ∧ ∀ z, z ∈ qs ↔ z ∈ ps ∨ z = (a, b) := by
  have mm : ∀ z, z ∈ qs ↔ z ∈ ps ∨ z = (a, b) := by
    intro z
    rw [pm.mem_iff, List.mem_append, List.mem_singleton]
  refine ⟨⟨h.nd, h.nm, h.len, fun p hp => ?_, ?_, sr⟩, mm⟩
  · rcases (mm p).mp hp with e | e
    · exact h.mem p e
    · rw [e]
      exact ⟨ha, hb⟩
  · refine pm.nodup_iff.mpr (List.nodup_append.mpr ⟨h.pnd, by simp, fun u hu v hv e => hn ?_⟩)
    rw [List.mem_singleton.mp hv] at e
    rw [← e]
    exact hu
end TB
namespace TB
open PySem PySem.Spec PyProof.Rows L2 LamX NdefX
theorem st_tupF {H : Hp} {Q : VK} {K : PySem.W.Frag} {a : Addr} {ls : List Str} (h : SqL K H a (ls.map V.str) ∨ LkAt H a ls) (k : ∀ (l : Addr) (H' : Hp), Same H H' → (NoT H → NoT H') → LkAt H' l ls → Q (.ref l) H') : rTupF K [.ref a] H Q := by
  rcases h with h | h
  · exact ⟨a, ls, rfl, Or.inl ⟨h, fun l o nl d => k l _ (fun _ _ e => old_upd nl e) (fun z => z.upd trivial) ⟨o, d, upd_same⟩⟩⟩
  · exact ⟨a, ls, rfl, Or.inr ⟨h, k a H (fun _ _ e => e) id h⟩⟩
theorem TabS.mutI {T p C dx : Addr} {q : Str} {H : Hp} {o : HO} {fs : List (Str × V)} (t : TabS H T q) (n : H p = some (.ins C dx fs)) : TabS (upd H p o) T q := by
  obtain ⟨tb, h1, h2, h3⟩ := t
  refine ⟨tb, oth_upd (ne_of h1 n (fun z => nomatch z)) h1, h2, fun pos cv hc => ?_⟩
  obtain ⟨c, e, h⟩ := h3 pos cv hc
  exact ⟨c, e, oth_upd (ne_of h n (fun z => nomatch z)) h⟩
end TB
namespace TB
open PySem PySem.Spec PyProof.Rows L2 LamX NdefX
section
variable {X : Cx} {pos : Pos}
theorem kUnl (K : PySem.W.Frag) (n : Nat) {tg : Expr} {t : TGs} (h : PG X tg (gUnl X.K n t)) (hK : X.K = K := by rfl) : PG X tg (gUnl K n t) := by subst hK; exact h
theorem cr_sortedK (K : PySem.W.Frag) (hK : X.K = K := by rfl) : CallR X (.builtin "sorted") (rSortedI K) := by subst hK; exact cr_sortedI
end
theorem ixS_get {ls : List Str} {z : Str} {i : Nat} (nd : ls.Nodup) (h : ls[i]? = some z) : ixS ls z = i := by
  have h1 := ixS_at (List.mem_of_getElem? h)
  obtain ⟨hi, e⟩ := List.getElem?_eq_some_iff.mp h
  obtain ⟨hj, e2⟩ := List.getElem?_eq_some_iff.mp h1.1
  rcases Nat.lt_trichotomy (ixS ls z) i with c | c | c
  · exact absurd (e2.trans e.symm) (List.pairwise_iff_getElem.mp nd _ _ hj hi c)
  · exact c
  · exact absurd (e.trans e2.symm) (List.pairwise_iff_getElem.mp nd _ _ hi hj c)
end TB
namespace TB
open PySem PySem.Spec PyProof.Rows L2 LamX NdefX
theorem Tg.own {T p : Addr} {q : Str} {H H' : Hp} {ys zs : List V} (a : Tg T q H H') (n : H p = Option.none) (l : H' p = some (.lst ys)) : Tg T q H (upd H' p (.lst zs)) := ⟨a.kp.own n, TB.TabS.mut a.tab l, fun z => (a.nt z).lst⟩
theorem Tg.newL {T p : Addr} {q : Str} {H H' : Hp} {xs : List V} (a : Tg T q H H') (n : H' p = Option.none) : Tg T q H (upd H' p (.lst xs)) := a.new n trivial
end TB
namespace TB
open PySem PySem.Spec PyProof.Rows L2 LamX NdefX
section
variable {K : PySem.W.Frag} {a : Addr} {xs : List V} {g g1 : TG} {tt tt1 : TT} {wi1 : TI} {te : TE} {vs vs1 : List Nat} {σ : L2.St} {H1 : Hp} {Q : VK}
def PileR (H : Hp) : List V → List Str → Prop := Paired fun (x : V) (z : Str) => ∃ (u : Addr) (v : V), x = .ref u ∧ H u = some (.tup [.str z, v])
theorem PileR.len {H : Hp} {rs : List V} {zs : List Str} (h : PileR H rs zs) : rs.length = zs.length := Paired.length h
theorem PileR.keep {H H' : Hp} {rs : List V} {zs : List Str} (h : PileR H rs zs) (k : ∀ b xs, H b = some (.tup xs) → H' b = some (.tup xs)) : PileR H' rs zs := Paired.mapP h fun x p ⟨t, v, e, z⟩ => ⟨t, v, e, k _ _ z⟩
theorem PileR.take {H : Hp} : ∀ {rs : List V} {zs : List Str} (n : Nat), PileR H rs zs → PileR H (rs.take n) (zs.take n)
  | _, _, 0, _ => .nil
  | _, _, n + 1, .nil => .nil
  | _, _, n + 1, .cons a r => .cons a (PileR.take n r)
/-- the lock of x -/
def lockOf (H : Hp) (x : V) : V := match x with
  | .ref t => match H t with
    | some (.tup [z, _]) => z
    | _ => .non
  | _ => .non
theorem lockOf_eq {H : Hp} {t : Addr} {z v : V} (h : H t = some (.tup [z, v])) : lockOf H (.ref t) = z := by
  show (match H t with
    | some (.tup [z, _]) => z
    | _ => V.non) = z
  rw [h]
theorem PileR.locks {H : Hp} : ∀ {rs : List V} {zs : List Str}, PileR H rs zs → rs.map (lockOf H) = zs.map V.str
  | _, _, .nil => rfl
  | _, _, .cons ⟨t, v, e, z⟩ r => by rw [List.map_cons, List.map_cons, PileR.locks r, e, lockOf_eq z]
theorem PileR.mem {H : Hp} : ∀ {rs : List V} {zs : List Str}, PileR H rs zs → ∀ x ∈ rs, ∃ (t : Addr) (z : Str) (v : V), x = .ref t ∧ H t = some (.tup [.str z, v])
  | _, _, .nil, x, hx => nomatch hx
  | _, _, .cons ⟨t, v, e, z⟩ r, x, hx => by
    rcases List.mem_cons.mp hx with q | q
    · exact ⟨t, _, v, q.trans e, z⟩
    · exact PileR.mem r x q
end
end TB
namespace TB
open PySem PySem.Spec PyProof.Rows L2 LamX NdefX
/-- C(k = v, ..), the names ks -/
structure MakK (P : Program) (w : World) (K : PySem.W.Frag) (mg : Str → Option Value) (base : Heap) (k : Nat) (x : Str) (C : Addr) (sp : Sp) (ks : List Str) (gV : List V → List V → List V) : Prop where
  kex : ∃ (f : Addr) (fd : FuncData) (ps : List Str) (g : List Value → List Value → List Value), Mk K C f ∧ FnOk P w K mg base C8.CX0 k f fd ps sp ∧ mg x = some (.ref C) ∧ KBn K fd ps 1 ks g gV
theorem pe_mkK {X : Cx} {k j : Nat} {x : Str} {C : Addr} {sp : Sp} {ks : List Str} {gV : List V → List V → List V} {kws : List Keyword} {tk : TA} {p pos : Pos} (c : MakK X.prog X.w X.K X.mg X.base k x C sp ks gV) (hr : Room j X.A) (hk : k + 1 ≤ j) (hg : Gl X x) (hkw : PK X kws tk)
    (hall : (backToKw pos (keywordEach kws X.env)).all (·.1.isSome) = true := by rfl) (hks : (backToKw pos (keywordEach kws X.env)).filterMap (·.1) = ks := by rfl) (hdb : (x == ("__debug__" : Str)) = false := by decide)
    (hpl : ((backTo pos (starEach [] X.env)).any (·.1) || (backToKw pos (keywordEach kws X.env)).any (·.1.isNone)) = false := by rfl) : PE X (.Call (.Name x p) [] kws pos) (tMakeK C 0 ks.length sp gV C8.E0 tNil tk) := by
  obtain ⟨f, fd, ps, g, M, F, hm, hb⟩ := c.kex
  exact pe_makeK0 M F (hr.mono hk) hg hm hb pass0 hkw hall hks hdb hpl
structure LifC (K : PySem.W.Frag) (C : Addr) : Prop where
  cls : Cls K C
  n1 : NoAttr K C "place"
  n2 : NoAttr K C "hand"
  n3 : NoAttr K C "drafts"
  n4 : NoAttr K C "called"
def spLifeI (C : Addr) : Sp := fun vs H Q _ => ∃ (x dx : Addr) (v1 v2 v3 v4 : V), vs = [.ref x, v1, v2, v3, v4] ∧ H x = some (.ins C dx []) ∧ Q .non (upd H x (.ins C dx [("place", v1), ("hand", v2), ("drafts", v3), ("called", v4)]))
end TB
namespace TB
open PySem PySem.Spec PyProof.Rows L2 LamX NdefX
end TB
namespace TB
open PySem PySem.Spec PyProof.Rows L2 LamX NdefX
/-- the code object of a def of the text -/
theorem code_of {K : PySem.W.Frag} {x qual : Str} {params : Arguments} {body : List Stmt} {scope : Scope} {dvs : List V} {kws : List (Str × V)} {p : Str × Option Str} {fd : FuncData} (F : FunD K x qual params body scope dvs kws (He.fAd K p) fd) : fd.code = .ref (He.codeOf K p) := by
  obtain ⟨oc, od, dV, kV, doc, pm, an, cdv, ct, osl, rfl, lk, hcd, _, _⟩ := F.ex
  obtain ⟨c, rfl⟩ := He.codeIn_ref hcd
  rw [He.codeOf_eq lk rfl]
/-- the keyword default x of the def at f, if it is an object -/
def kwAt (f : Str × Option Str) (x : Str) (K : PySem.W.Frag) : Addr := match K.lookup (He.fAd K f) with
  | some ⟨_, _, .func fd, _⟩ => (match fd.kwdefaults with
    | .ref D => (match PySem.W.nsIn K D x with
      | some (some (.ref a)) => a
      | _ => 0)
    | _ => 0)
  | _ => 0
/-- a tuple of none -/
def nilB (a : PySem.W.Frag → Addr) (K : PySem.W.Frag) : Bool := match K.lookup (a K) with
  | some ⟨.type c, _, .seq its _, _⟩ => decide (c = "tuple") && decide (its.toList = [])
  | _ => false
theorem nilB_ok {a : PySem.W.Frag → Addr} {K : PySem.W.Frag} (h : nilB a K = true) (H : Hp) : SqT K H (a K) [] := by
  unfold nilB at h
  cases q : K.lookup (a K) with
  | none =>
    rw [q] at h
    exact nomatch h
  | some o =>
    obtain ⟨oc, od, dt, osl⟩ := o
    rw [q] at h
    cases oc with
    | type c =>
      cases dt with
      | seq its n =>
        have h2 : (decide (c = "tuple") && decide (its.toList = [])) = true := h
        rw [Bool.and_eq_true, decide_eq_true_iff, decide_eq_true_iff] at h2
        refine Or.inr ⟨_, its, n, q, congrArg Value.type h2.1, rfl, ?_, ?_⟩
        · rw [← Array.length_toList, h2.2]
          exact Nat.zero_le _
        · rw [h2.2]
          exact .nil
      | _ => exact nomatch h
    | _ => exact nomatch (show (_ : Bool) = true from h)
end TB
namespace TB
open PySem PySem.Spec PyProof.Rows L2 LamX NdefX
theorem TabS_nil {H : Hp} {T : Addr} {q : Str} (h : H T = some (.tbl #[])) : TabS H T q := TabS.nil h
theorem ne_tab {K : PySem.W.Frag} {H : Hp} {a T : Addr} {xs : List V} (h : SqL K H a xs) (t : H T = some (.tbl #[])) (n : K.lookup T = none) : a ≠ T := by
  rintro rfl
  rcases h with (e | ⟨o, e⟩) | ⟨o, its, m, e, _⟩
  · rw [t] at e
    exact nomatch e
  · rw [t] at e
    exact nomatch e
  · rw [n] at e
    exact nomatch e
/-- Life(place=, hand=, called=): drafts by default -/
def gLife {α : Type} (us mv ws : List α) : List α := match us, mv, ws with
  | [x], [d], [p, h, c] => [x, p, h, d, c]
  | _, _, _ => []
theorem gLife_rel {vs mz zs : List V} {us mv ws : List Value} (h1 : Vals vs us) (h2 : Vals mz mv) (h3 : Vals zs ws) : Vals (gLife vs mz zs) (gLife us mv ws) := by
  match vs, us, mz, mv, zs, ws, h1, h2, h3 with
  | [_], [_], [_], [_], [_, _, _], [_, _, _], .cons a .nil, .cons b .nil, .cons p (.cons h (.cons c .nil)) => exact .cons a (.cons p (.cons h (.cons b (.cons c .nil))))
  | [], [], _, _, _, _, _, _, _ => exact .nil
  | _ :: _ :: _, _ :: _ :: _, _, _, _, _, _, _, _ => exact .nil
  | [_], [_], [], [], _, _, _, _, _ => exact .nil
  | [_], [_], _ :: _ :: _, _ :: _ :: _, _, _, _, _, _ => exact .nil
  | [_], [_], [_], [_], [], [], _, _, _ => exact .nil
  | [_], [_], [_], [_], [_], [_], _, _, _ => exact .nil
  | [_], [_], [_], [_], [_, _], [_, _], _, _, _ => exact .nil
  | [_], [_], [_], [_], _ :: _ :: _ :: _ :: _, _ :: _ :: _ :: _ :: _, _, _, _ => exact .nil
end TB
namespace TB
open PySem PySem.Spec PyProof.Rows L2 LamX NdefX
/-- how many stay: those ahead of the first that is among fs -/
def stayOf (zs fs : List Str) : Nat := (zs.takeWhile fun z => !decide (z ∈ fs)).length
def spLocks (C : Addr) : Sp := fun vs H Q _ => ∃ (x : Addr) (ls : List Str) (ps : List Pr), vs = [.ref x] ∧ OrdAt C H x ls ps ∧ ∀ l, H l = none → Q (.ref l) (upd H l (.lst (ls.map V.str)))
end TB
namespace TB
open PySem PySem.Spec PyProof.Rows L2 LamX NdefX
end TB
namespace TB
open PySem PySem.Spec PyProof.Rows L2 LamX NdefX
end TB
namespace TB
open PySem PySem.Spec PyProof.Rows L2 LamX NdefX
/-- the search by a list of pairs, within one turn: the pairs seen so far are qs -/
structure JInv (ls : List Str) (ps qs : List Pr) (a l : Str) (fs lf : List Str) : Prop where
  nd : fs.Nodup
  sub : ∀ z ∈ fs, Rch ps a z
  ins : ∀ z ∈ fs, z ∈ ls
  lft : ∀ z ∈ lf, z = a ∨ z ∈ fs
  me : l = a ∨ l ∈ fs
  cl : ∀ z, z = a ∨ z ∈ fs → z ≠ l → z ∈ lf ∨ ∀ c, (z, c) ∈ ps → c ∈ fs
  own : ∀ c, (l, c) ∈ qs → c ∈ fs
theorem JInv.start {ls : List Str} {ps : List Pr} {a l : Str} {fs lf : List Str} (b : BInv ls ps a fs (lf ++ [l])) : JInv ls ps [] a l fs lf := by
  refine ⟨b.nd, b.sub, b.ins, fun z hz => b.lft z (List.mem_append_left _ hz), b.lft l (List.mem_append_right _ (List.mem_singleton.mpr rfl)), fun z hz hn => ?_, (fun _ z => nomatch z)⟩
  rcases b.cl z hz with e | e
  · rcases List.mem_append.mp e with e2 | e2
    · exact Or.inl e2
    · exact absurd (List.mem_singleton.mp e2) hn
  · exact Or.inr e
theorem JInv.skip {ls : List Str} {ps qs : List Pr} {a l : Str} {fs lf : List Str} (b : JInv ls ps qs a l fs lf) {p : Pr} (h : p.1 = l → p.2 ∈ fs) : JInv ls ps (qs ++ [p]) a l fs lf := by
  refine ⟨b.nd, b.sub, b.ins, b.lft, b.me, b.cl, fun c hc => ?_⟩
  rcases List.mem_append.mp hc with e | e
  · exact b.own c e
  · have e2 := List.mem_singleton.mp e
    have e3 := h (by rw [← e2])
    rw [← e2] at e3
    exact e3
theorem JInv.done {ls : List Str} {ps : List Pr} {a l : Str} {fs lf : List Str} (b : JInv ls ps ps a l fs lf) : BInv ls ps a fs lf := by
  refine ⟨b.nd, b.sub, b.ins, b.lft, fun z hz => ?_⟩
  by_cases c : z = l
  · rw [c]
    exact Or.inr b.own
  · exact b.cl z hz c
end TB
namespace TB
open PySem PySem.Spec PyProof.Rows L2 LamX NdefX
theorem Prs.get {H : Hp} : ∀ {rs : List V} {ps : List Pr} {j : Nat} {x : V}, Prs H rs ps → rs[j]? = some x → ∃ (t : Addr) (p : Pr), x = .ref t ∧ ps[j]? = some p ∧ H t = some (.tup [.str p.1, .str p.2])
  | _, _, j, x, .nil, h => nomatch (show (none : Option V) = some x from h)
  | _, _, 0, x, .cons (b := p) ⟨t, e, z⟩ r, h => ⟨t, p, (Option.some.inj h).symm.trans e, rfl, z⟩
  | _, _, j + 1, x, .cons a r, h => Prs.get (j := j) r h
end TB
namespace TB
open PySem PySem.Spec PyProof.Rows L2 LamX NdefX
end TB
namespace TB
open PySem PySem.Spec PyProof.Rows L2 LamX NdefX
theorem shown_tuple_le {B : Nat} {ds : List PyData} (h : ∀ d ∈ ds, d.shown.length ≤ B) : (PyData.tuple ds).shown.length ≤ ds.length * B + 2 * ds.length + 3 := by
  have e : (PyData.tuple ds).shown = tupleText (ds.map fun d => d.shown) := by
    simp only [PyData.shown]
    rw [show ds = ds.map id from (List.map_id ds).symm, shownAll_map]
    simp
  rw [e]
  have h1 := tupleText_len_le (ds.map fun d => d.shown)
  rw [List.map_map, List.length_map] at h1
  have h2 : (ds.map ((fun x : Str => x.length) ∘ fun d => d.shown)).sum ≤ ds.length * B := sum_le fun x hx => h x hx
  omega
end TB
namespace TB
open PySem PySem.Spec PyProof.Rows L2 LamX NdefX
end TB
namespace L3
open PySem PySem.Spec PyProof.Rows L2 TB LamX
/-- a thing that is told by a relation of its own, which growing heaps keep -/
structure Opq where
  R : Hp → V → Prop
  mono : ∀ {F F' : Hp} {v : V}, Same F F' → R F v → R F' v
/-- plain data -/
inductive D where
  | non | bl (b : Bool) | int (i : Int) | str (z : Str) | ty (n : String)
  | lst (ds : List D) | tup (ds : List D) | ins (C : Addr) (ns : List Str) (ds : List D) | dic (ks : List Key) (ds : List D) | op (p : Opq)
section
variable (K : PySem.W.Frag) (F : Hp)
mutual
/-- v is this data in F -/
def Rp : D → V → Prop
  | .non, v => v = .non
  | .bl b, v => v = .bl b
  | .int i, v => v = .int i
  | .str z, v => v = .str z
  | .ty n, v => v = .ty n
  | .lst ds, v => ∃ a vs, v = .ref a ∧ F a = some (.lst vs) ∧ RpL ds vs
  | .tup ds, v => ∃ a vs, v = .ref a ∧ SqT K F a vs ∧ RpL ds vs
  | .ins C ns ds, v => ∃ a dx vs, v = .ref a ∧ F a = some (.ins C dx (ns.zip vs)) ∧ F dx = some (.own a) ∧ RpL ds vs
  | .dic ks ds, v => ∃ a vs, v = .ref a ∧ F a = some (.dK (ks.zip vs)) ∧ RpL ds vs
  | .op p, v => p.R F v
def RpL : List D → List V → Prop
  | [], vs => vs = []
  | d :: ds, vs => ∃ v r, vs = v :: r ∧ Rp d v ∧ RpL ds r
end
end
theorem Same.refl (F : Hp) : Same F F := fun _ _ h => h
theorem tr {F F1 F2 : Hp} (a : Same F F1) (b : Same F1 F2) : Same F F2 := fun _ _ h => b _ _ (a _ _ h)
section
variable {K : PySem.W.Frag} {F F' : Hp}
theorem sqL_mono {a : Addr} {vs : List V} (s : Same F F') (h : SqL K F a vs) : SqL K F' a vs := by
  rcases h with (h | ⟨o, h⟩) | h
  · exact Or.inl (Or.inl (s _ _ h))
  · exact Or.inl (Or.inr ⟨o, s _ _ h⟩)
  · exact Or.inr h
theorem sqT_mono {a : Addr} {vs : List V} (s : Same F F') (h : SqT K F a vs) : SqT K F' a vs := by
  rcases h with (h | ⟨o, h⟩) | h
  · exact Or.inl (Or.inl (s _ _ h))
  · exact Or.inl (Or.inr ⟨o, s _ _ h⟩)
  · exact Or.inr h
mutual
theorem Rp.mono (s : Same F F') : ∀ {d : D} {v : V}, Rp K F d v → Rp K F' d v
  | .non, v, h => h
  | .bl _, v, h => h
  | .int _, v, h => h
  | .str _, v, h => h
  | .ty _, v, h => h
  | .lst ds, v, h => by
    obtain ⟨a, vs, e, q, r⟩ := h
    exact ⟨a, vs, e, s _ _ q, RpL.mono s r⟩
  | .tup ds, v, h => by
    obtain ⟨a, vs, e, q, r⟩ := h
    exact ⟨a, vs, e, sqT_mono s q, RpL.mono s r⟩
  | .ins C ns ds, v, h => by
    obtain ⟨a, dx, vs, e, q, q2, r⟩ := h
    exact ⟨a, dx, vs, e, s _ _ q, s _ _ q2, RpL.mono s r⟩
  | .dic ks ds, v, h => by
    obtain ⟨a, vs, e, q, r⟩ := h
    exact ⟨a, vs, e, s _ _ q, RpL.mono s r⟩
  | .op p, v, h => p.mono s h
theorem RpL.mono (s : Same F F') : ∀ {ds : List D} {vs : List V}, RpL K F ds vs → RpL K F' ds vs
  | [], vs, h => h
  | d :: ds, vs, h => by
    obtain ⟨v, r, e, q, t⟩ := h
    exact ⟨v, r, e, Rp.mono s q, RpL.mono s t⟩
end
theorem RpL.len : ∀ {ds : List D} {vs : List V}, RpL K F ds vs → vs.length = ds.length
  | [], vs, h => by
    have e : vs = [] := h
    rw [e]
    rfl
  | d :: ds, vs, h => by
    obtain ⟨v, r, rfl, q, t⟩ := h
    rw [List.length_cons, List.length_cons, RpL.len t]
theorem RpL.nil : RpL K F [] [] := rfl
theorem RpL.cons {d : D} {ds : List D} {v : V} {vs : List V} (h : Rp K F d v) (t : RpL K F ds vs) : RpL K F (d :: ds) (v :: vs) := ⟨v, vs, rfl, h, t⟩
theorem RpL.app : ∀ {ds es : List D} {vs ws : List V}, RpL K F ds vs → RpL K F es ws → RpL K F (ds ++ es) (vs ++ ws)
  | [], es, vs, ws, h, k => by
    have e : vs = [] := h
    rw [e]
    exact k
  | d :: ds, es, vs, ws, h, k => by
    obtain ⟨v, r, rfl, q, t⟩ := h
    exact ⟨v, r ++ ws, rfl, q, RpL.app t k⟩
theorem RpL.get : ∀ {ds : List D} {vs : List V} {i : Nat} {v : V}, RpL K F ds vs → vs[i]? = some v → ∃ d, ds[i]? = some d ∧ Rp K F d v
  | [], vs, i, v, h, e => by
    have z : vs = [] := h
    rw [z] at e
    simp at e
  | d :: ds, vs, 0, v, h, e => by
    obtain ⟨w, r, rfl, q, t⟩ := h
    obtain rfl : w = v := by simpa using e
    exact ⟨d, rfl, q⟩
  | d :: ds, vs, i + 1, v, h, e => by
    obtain ⟨w, r, rfl, q, t⟩ := h
    exact RpL.get (i := i) t (by simpa using e)
theorem RpL.get' : ∀ {ds : List D} {vs : List V} {i : Nat} {d : D}, RpL K F ds vs → ds[i]? = some d → ∃ v, vs[i]? = some v ∧ Rp K F d v
  | [], vs, i, d, h, e => by simp at e
  | d :: ds, vs, 0, d', h, e => by
    obtain ⟨w, r, rfl, q, t⟩ := h
    obtain rfl : d = d' := by simpa using e
    exact ⟨w, rfl, q⟩
  | d :: ds, vs, i + 1, d', h, e => by
    obtain ⟨w, r, rfl, q, t⟩ := h
    exact RpL.get' (i := i) t (by simpa using e)
theorem RpL.take : ∀ {ds : List D} {vs : List V} (n : Nat), RpL K F ds vs → RpL K F (ds.take n) (vs.take n)
  | _, _, 0, _ => rfl
  | [], vs, n + 1, h => by
    have z : vs = [] := h
    rw [z]
    rfl
  | d :: ds, vs, n + 1, h => by
    obtain ⟨w, r, rfl, q, t⟩ := h
    exact ⟨w, r.take n, rfl, q, RpL.take n t⟩
theorem RpL.drop : ∀ {ds : List D} {vs : List V} (n : Nat), RpL K F ds vs → RpL K F (ds.drop n) (vs.drop n)
  | _, _, 0, h => h
  | [], vs, n + 1, h => by
    have z : vs = [] := h
    rw [z]
    rfl
  | d :: ds, vs, n + 1, h => by
    obtain ⟨w, r, rfl, q, t⟩ := h
    exact RpL.drop n t
theorem RpL.set : ∀ {ds : List D} {vs : List V} {d : D} {v : V} (n : Nat), RpL K F ds vs → Rp K F d v → RpL K F (ds.set n d) (vs.set n v)
  | [], vs, d, v, n, h, k => by
    have z : vs = [] := h
    rw [z]
    rfl
  | d :: ds, vs, d', v, 0, h, k => by
    obtain ⟨w, r, rfl, q, t⟩ := h
    exact ⟨v, r, rfl, k, t⟩
  | d :: ds, vs, d', v, n + 1, h, k => by
    obtain ⟨w, r, rfl, q, t⟩ := h
    exact ⟨w, r.set n v, rfl, q, RpL.set n t k⟩
theorem RpL.erase : ∀ {ds : List D} {vs : List V} (n : Nat), RpL K F ds vs → RpL K F (ds.eraseIdx n) (vs.eraseIdx n)
  | [], vs, n, h => by
    have z : vs = [] := h
    rw [z]
    rfl
  | d :: ds, vs, 0, h => by
    obtain ⟨w, r, rfl, q, t⟩ := h
    exact t
  | d :: ds, vs, n + 1, h => by
    obtain ⟨w, r, rfl, q, t⟩ := h
    exact ⟨w, r.eraseIdx n, rfl, q, RpL.erase n t⟩
theorem RpL.map {α : Type} {f : α → D} {g : α → V} (h : ∀ x, Rp K F (f x) (g x)) : ∀ l : List α, RpL K F (l.map f) (l.map g)
  | [] => rfl
  | x :: l => ⟨g x, l.map g, rfl, h x, RpL.map h l⟩
/-- flat items are the same everywhere -/
theorem RpL.maps {α : Type} {f : α → D} {g : α → V} (h : ∀ F x v, Rp K F (f x) v → v = g x) : ∀ {l : List α} {vs : List V}, RpL K F (l.map f) vs → vs = l.map g
  | [], vs, e => e
  | x :: l, vs, e => by
    obtain ⟨v, r, rfl, q, t⟩ := e
    rw [h F x v q, RpL.maps h t]
    rfl
theorem RpL.strs {l : List Str} {vs : List V} (h : RpL K F (l.map D.str) vs) : vs = l.map V.str := RpL.maps (f := D.str) (g := V.str) (fun _ _ _ e => e) h
theorem RpL.ints {l : List Int} {vs : List V} (h : RpL K F (l.map D.int) vs) : vs = l.map V.int := RpL.maps (f := D.int) (g := V.int) (fun _ _ _ e => e) h
end
/-- no heap is asked about d -/
def D.flat : D → Bool
  | .non => true
  | .bl _ => true
  | .int _ => true
  | .str _ => true
  | .ty _ => true
  | _ => false
theorem Rp.flat {K : PySem.W.Frag} {F G : Hp} {d : D} {v : V} (f : d.flat = true) (h : Rp K F d v) : Rp K G d v := by
  cases d <;> first | exact h | exact nomatch f
theorem RpL.flat {K : PySem.W.Frag} {F G : Hp} : ∀ {ds : List D} {vs : List V}, (∀ d ∈ ds, d.flat = true) → RpL K F ds vs → RpL K G ds vs
  | [], vs, _, h => h
  | d :: ds, vs, f, h => by
    obtain ⟨v, r, rfl, q, t⟩ := h
    exact ⟨v, r, rfl, Rp.flat (f d List.mem_cons_self) q, RpL.flat (fun e he => f e (List.mem_cons_of_mem _ he)) t⟩
/-- what is known of a slot: nothing; data that stays; an own list that may be changed (fr: made in this call) -/
inductive PV where
  | un | val (d : D) | own (fr : Bool) (ds : List D)
abbrev PSt := List PV
/-- where one stands: fixed for a call; N: new since the call; F0, H0: what stood as it began (or another moment), B0: what may be changed of that -/
structure Sx where
  K : PySem.W.Frag
  tb : List (Addr × Str)
structure Ct where
  X : Sx
  N : Addr → Prop
  I0 : List Addr
  F0 : Hp
  H0 : Hp
  B0 : List Addr
abbrev Ct.K (c : Ct) : PySem.W.Frag := c.X.K
abbrev Ct.tb (c : Ct) : List (Addr × Str) := c.X.tb
/-- a thing that never changes -/
def Imm : HO → Prop
  | .tup _ => True
  | .frz _ _ => True
  | _ => False
/-- a list made in this call, or one handed in to be changed -/
def FrOk (c : Ct) (fr : Bool) (p : Addr) : Prop := (fr = true → c.N p) ∧ (fr = false → p ∈ c.I0)
/-- no table -/
def NoTb (c : Ct) (b : Addr) : Prop := ∀ x ∈ c.tb, b ≠ x.1
def Slot (c : Ct) (F H : Hp) (ov : Option (Option V)) : PV → Prop
  | .un => True
  | .val d => ∃ v, ov = some (some v) ∧ Rp c.K F d v
  | .own fr ds => ∃ p vs, ov = some (some (.ref p)) ∧ F p = none ∧ H p = some (.lst vs) ∧ RpL c.K F ds vs ∧ FrOk c fr p ∧ (p ∈ c.B0 ∨ c.H0 p = none)
structure Rel (c : Ct) (F H : Hp) (σ : L2.St) (ρ : PSt) : Prop where
  len : σ.length = ρ.length
  sub : Same F H
  slot : ∀ (i : Nat) (pv : PV), ρ[i]? = some pv → Slot c F H σ[i]? pv
  sep : ∀ (i j : Nat) (f1 : Bool) (o1 : List D) (f2 : Bool) (o2 : List D) (p : Addr), ρ[i]? = some (.own f1 o1) → ρ[j]? = some (.own f2 o2) → σ[i]? = some (some (.ref p)) → σ[j]? = some (some (.ref p)) → i = j
  nt : NoT H
  tab : ∀ x ∈ c.tb, TabS H x.1 x.2
  tabF : ∀ x ∈ c.tb, F x.1 = none
  fr : Same c.F0 F
  kp : ∀ b o, c.H0 b = some o → b ∉ c.B0 → NoTb c b → H b = some o
  dom : ∀ b, H b = none → c.H0 b = none
  nw : ∀ b o, F b = some o → c.F0 b = some o ∨ c.H0 b = none ∨ (b ∈ c.B0 ∧ c.N b) ∨ Imm o
  new : ∀ p, H p = none → c.N p
section
variable {c : Ct} {F H F' H' : Hp} {σ : L2.St} {ρ : PSt}
theorem Slot.mono {ov : Option (Option V)} (s : Same F F') : ∀ {pv : PV}, (∀ fr ds p, pv = .own fr ds → ov = some (some (.ref p)) → F' p = none ∧ ∀ vs, H p = some (.lst vs) → H' p = some (.lst vs)) → Slot c F H ov pv → Slot c F' H' ov pv
  | .un, _, h => trivial
  | .val d, _, h => by
    obtain ⟨v, e, r⟩ := h
    exact ⟨v, e, r.mono s⟩
  | .own fr ds, k, h => by
    obtain ⟨p, vs, e, f, l, r, n, m⟩ := h
    obtain ⟨k1, k2⟩ := k fr ds p rfl e
    exact ⟨p, vs, e, k1, k2 vs l, r.mono s, n, m⟩
theorem Rel.ownAt (R : Rel c F H σ ρ) {i : Nat} {f : Bool} {ds : List D} {p : Addr} (h : ρ[i]? = some (.own f ds)) (e : σ[i]? = some (some (.ref p))) : F p = none ∧ ∃ vs, H p = some (.lst vs) := by
  obtain ⟨q, vs, e2, f, l, _⟩ := R.slot i _ h
  rw [e] at e2
  obtain rfl : p = q := by injection e2 with e2; injection e2 with e2; injection e2
  exact ⟨f, vs, l⟩
theorem Rel.fnone (R : Rel c F H σ ρ) {p : Addr} (h : H p = none) : F p = none := by
  cases e : F p with
  | none => rfl
  | some o => rw [R.sub _ _ e] at h; exact nomatch h
theorem Rel.notab (R : Rel c F H σ ρ) {p : Addr} {o : HO} (h : H p = some o) (n : ∀ ps, o ≠ .tbl ps) : NoTb c p := by
  intro x hx e
  obtain ⟨tb, e2, _⟩ := R.tab x hx
  rw [← e, h] at e2
  exact n _ (Option.some.inj e2)
/-- a new thing that stays -/
theorem Rel.alloc (R : Rel c F H σ ρ) {p : Addr} {o : HO} (np : H p = none) (no : noT o) : Rel c (upd F p o) (upd H p o) σ ρ := by
  have nF := R.fnone np
  have sF : Same F (upd F p o) := fun _ _ e => old_upd nF e
  have sH : Same H (upd H p o) := fun _ _ e => old_upd np e
  refine ⟨R.len, fun b u e => ?_, fun i pv h => (R.slot i pv h).mono sF fun fr ds q e1 e2 => ?_, R.sep, R.nt.upd no, fun x hx => (R.tab x hx).ext sH, fun x hx => ?_, fun _ _ e => sF _ _ (R.fr _ _ e), fun b u e n m => sH _ _ (R.kp b u e n m), fun b e => R.dom b (nil_upd e).2, fun b u e => ?_, fun q e => R.new q (nil_upd e).2⟩
  · by_cases q : b = p
    · subst q
      rw [upd_same] at e ⊢
      exact e
    · rw [upd_ne q] at e ⊢
      exact R.sub _ _ e
  · subst e1
    obtain ⟨f, vs, l⟩ := R.ownAt h e2
    have ne : q ≠ p := ne_of_none l np
    exact ⟨by rw [upd_ne ne]; exact f, fun ws lw => old_upd np lw⟩
  · obtain ⟨tb, e2, _⟩ := R.tab x hx
    rw [upd_ne (ne_of_none e2 np)]
    exact R.tabF x hx
  · by_cases q : b = p
    · subst q
      exact Or.inr (Or.inl (R.dom _ np))
    · rw [upd_ne q] at e
      exact R.nw b u e
/-- a new list that nobody has yet -/
theorem Rel.allocH (R : Rel c F H σ ρ) {p : Addr} {o : HO} (np : H p = none) (no : noT o) : Rel c F (upd H p o) σ ρ := by
  have sH : Same H (upd H p o) := fun _ _ e => old_upd np e
  refine ⟨R.len, fun b u e => sH _ _ (R.sub _ _ e), fun i pv h => (R.slot i pv h).mono (Same.refl F) fun fr ds q e1 e2 => ?_, R.sep, R.nt.upd no, fun x hx => (R.tab x hx).ext sH, R.tabF, R.fr, fun b u e n m => sH _ _ (R.kp b u e n m), fun b e => R.dom b (nil_upd e).2, R.nw, fun q e => R.new q (nil_upd e).2⟩
  subst e1
  exact ⟨(R.ownAt h e2).1, fun ws lw => old_upd np lw⟩
/-- nobody's list changed -/
theorem Rel.mutH (R : Rel c F H σ ρ) {p : Addr} {xs ys : List V} (hp : H p = some (.lst xs)) (hF : F p = none) (hb : p ∈ c.B0 ∨ c.H0 p = none) (hn : ∀ (i : Nat) (f : Bool) (ds : List D), ρ[i]? = some (.own f ds) → σ[i]? ≠ some (some (.ref p))) : Rel c F (upd H p (.lst ys)) σ ρ := by
  have nF : ∀ b o, F b = some o → b ≠ p := fun b o e z => by rw [z, hF] at e; exact nomatch e
  refine ⟨R.len, fun b u e => oth_upd (nF b u e) (R.sub _ _ e), fun i pv h => (R.slot i pv h).mono (Same.refl F) fun fr ds q e1 e2 => ?_, R.sep, R.nt.lst, fun x hx => TB.TabS.mut (R.tab x hx) hp, R.tabF, R.fr, fun b u e n m => ?_, fun b e => R.dom b (nil_upd e).2, R.nw, fun q e => R.new q (nil_upd e).2⟩
  · subst e1
    have ne : q ≠ p := fun z => hn i fr ds h (by rw [← z]; exact e2)
    exact ⟨(R.ownAt h e2).1, fun ws lw => oth_upd ne lw⟩
  · refine oth_upd (fun z => ?_) (R.kp b u e n m)
    rw [z] at e n
    rcases hb with hb | hb
    · exact n hb
    · rw [hb] at e
      exact nomatch e
/-- a slot that is set to data -/
theorem Rel.setVal (R : Rel c F H σ ρ) {i : Nat} {d : D} {v : V} (h : Rp c.K F d v) : Rel c F H (σ.set i (some v)) (ρ.set i (.val d)) := by
  refine ⟨by rw [List.length_set, List.length_set]; exact R.len, R.sub, fun j pv hj => ?_, fun j k f1 o1 f2 o2 p h1 h2 e1 e2 => ?_, R.nt, R.tab, R.tabF, R.fr, R.kp, R.dom, R.nw, R.new⟩
  · by_cases q : i = j
    · subst q
      have hl : i < ρ.length := by
        have := (List.getElem?_eq_some_iff.mp hj).1
        rw [List.length_set] at this
        exact this
      rw [List.getElem?_set_self hl] at hj
      obtain rfl := Option.some.inj hj
      exact ⟨v, by rw [List.getElem?_set_self (by rw [R.len]; exact hl)], h⟩
    · rw [List.getElem?_set_ne q] at hj ⊢
      exact R.slot j pv hj
  · by_cases q1 : i = j
    · subst q1
      have hl := (List.getElem?_eq_some_iff.mp h1).1
      rw [List.length_set] at hl
      rw [List.getElem?_set_self hl] at h1
      exact nomatch h1
    · by_cases q2 : i = k
      · subst q2
        have hl := (List.getElem?_eq_some_iff.mp h2).1
        rw [List.length_set] at hl
        rw [List.getElem?_set_self hl] at h2
        exact nomatch h2
      · rw [List.getElem?_set_ne q1] at h1 e1
        rw [List.getElem?_set_ne q2] at h2 e2
        exact R.sep j k f1 o1 f2 o2 p h1 h2 e1 e2
/-- a slot of which no more is known -/
theorem Rel.forget (R : Rel c F H σ ρ) (i : Nat) : Rel c F H σ (ρ.set i .un) := by
  refine ⟨by rw [List.length_set]; exact R.len, R.sub, fun j pv hj => ?_, fun j k f1 o1 f2 o2 p h1 h2 e1 e2 => ?_, R.nt, R.tab, R.tabF, R.fr, R.kp, R.dom, R.nw, R.new⟩
  · by_cases q : i = j
    · subst q
      have hl := (List.getElem?_eq_some_iff.mp hj).1
      rw [List.length_set] at hl
      rw [List.getElem?_set_self hl] at hj
      obtain rfl := Option.some.inj hj
      exact trivial
    · rw [List.getElem?_set_ne q] at hj
      exact R.slot j pv hj
  · have g : ∀ (j : Nat) (f : Bool) (o : List D), (ρ.set i PV.un)[j]? = some (PV.own f o) → ρ[j]? = some (PV.own f o) := by
      intro j f o hj
      by_cases q : i = j
      · subst q
        have hl := (List.getElem?_eq_some_iff.mp hj).1
        rw [List.length_set] at hl
        rw [List.getElem?_set_self hl] at hj
        exact nomatch hj
      · rw [List.getElem?_set_ne q] at hj
        exact hj
    exact R.sep j k f1 o1 f2 o2 p (g _ _ _ h1) (g _ _ _ h2) e1 e2
/-- a slot that is set to nobody's new list -/
theorem Rel.setOwn (R : Rel c F H σ ρ) {i : Nat} {p : Addr} {vs : List V} {ds : List D} (hp : H p = some (.lst vs)) (hF : F p = none) (hr : RpL c.K F ds vs) (hN : c.N p) (hb : p ∈ c.B0 ∨ c.H0 p = none) (hn : ∀ (i : Nat) (f : Bool) (ds : List D), ρ[i]? = some (.own f ds) → σ[i]? ≠ some (some (.ref p))) :
    Rel c F H (σ.set i (some (.ref p))) (ρ.set i (.own true ds)) := by
  refine ⟨by rw [List.length_set, List.length_set]; exact R.len, R.sub, fun j pv hj => ?_, fun j k f1 o1 f2 o2 q h1 h2 e1 e2 => ?_, R.nt, R.tab, R.tabF, R.fr, R.kp, R.dom, R.nw, R.new⟩
  · by_cases q : i = j
    · subst q
      have hl := (List.getElem?_eq_some_iff.mp hj).1
      rw [List.length_set] at hl
      rw [List.getElem?_set_self hl] at hj
      obtain rfl := Option.some.inj hj
      exact ⟨p, vs, by rw [List.getElem?_set_self (by rw [R.len]; exact hl)], hF, hp, hr, ⟨fun _ => hN, fun z => nomatch z⟩, hb⟩
    · rw [List.getElem?_set_ne q] at hj ⊢
      exact R.slot j pv hj
  · have hl1 := (List.getElem?_eq_some_iff.mp e1).1
    have hl2 := (List.getElem?_eq_some_iff.mp e2).1
    rw [List.length_set] at hl1 hl2
    by_cases q1 : i = j
    · subst q1
      by_cases q2 : i = k
      · exact q2
      · rw [List.getElem?_set_self hl1] at e1
        rw [List.getElem?_set_ne q2] at h2 e2
        obtain rfl : p = q := by injection e1 with e1; injection e1 with e1; injection e1
        exact absurd e2 (hn k f2 o2 h2)
    · rw [List.getElem?_set_ne q1] at h1 e1
      by_cases q2 : i = k
      · subst q2
        rw [List.getElem?_set_self hl2] at e2
        obtain rfl : p = q := by injection e2 with e2; injection e2 with e2; injection e2
        exact absurd e1 (hn j f1 o1 h1)
      · rw [List.getElem?_set_ne q2] at h2 e2
        exact R.sep j k f1 o1 f2 o2 q h1 h2 e1 e2
theorem Rel.noOwn (R : Rel c F H σ ρ) {p : Addr} (h : H p = none) : ∀ (i : Nat) (f : Bool) (ds : List D), ρ[i]? = some (.own f ds) → σ[i]? ≠ some (some (.ref p)) := by
  intro i f ds hi e
  obtain ⟨_, vs, l⟩ := R.ownAt hi e
  rw [h] at l
  exact nomatch l
/-- nobody's list is kept as it stands -/
theorem Rel.keepL (R : Rel c F H σ ρ) {p : Addr} {vs : List V} (hp : H p = some (.lst vs)) (hF : F p = none) (hn : ∀ (i : Nat) (f : Bool) (ds : List D), ρ[i]? = some (.own f ds) → σ[i]? ≠ some (some (.ref p))) (hb : c.H0 p = none ∨ (p ∈ c.B0 ∧ c.N p)) : Rel c (upd F p (.lst vs)) H σ ρ := by
  have sF : Same F (upd F p (.lst vs)) := fun _ _ e => old_upd hF e
  refine ⟨R.len, fun b u e => ?_, fun i pv h => (R.slot i pv h).mono sF fun fr ds q e1 e2 => ?_, R.sep, R.nt, R.tab, fun x hx => ?_, fun _ _ e => sF _ _ (R.fr _ _ e), R.kp, R.dom, fun b u e => ?_, R.new⟩
  · by_cases q : b = p
    · subst q
      rw [upd_same] at e
      rw [hp]
      exact e
    · rw [upd_ne q] at e
      exact R.sub _ _ e
  · subst e1
    have ne : q ≠ p := fun z => hn i fr ds h (by rw [← z]; exact e2)
    exact ⟨by rw [upd_ne ne]; exact (R.ownAt h e2).1, fun _ l => l⟩
  · obtain ⟨tb, e2, _⟩ := R.tab x hx
    rw [upd_ne (ne_of e2 hp (fun z => nomatch z))]
    exact R.tabF x hx
  · by_cases q : b = p
    · subst q
      exact Or.inr (hb.elim Or.inl (fun z => Or.inr (Or.inl z)))
    · rw [upd_ne q] at e
      exact R.nw b u e
/-- an own list changed -/
theorem Rel.mutOwn (R : Rel c F H σ ρ) {i : Nat} {f : Bool} {ds es : List D} {p : Addr} {ys : List V} (h : ρ[i]? = some (.own f ds)) (e : σ[i]? = some (some (.ref p))) (hr : RpL c.K F es ys) : Rel c F (upd H p (.lst ys)) σ (ρ.set i (.own f es)) := by
  obtain ⟨q, vs, e2, hF, hp, hr0, hN, hb⟩ := R.slot i _ h
  rw [e] at e2
  obtain rfl : p = q := by injection e2 with e2; injection e2 with e2; injection e2
  have R2 := (R.forget i).mutH (ys := ys) hp hF hb (fun j f2 d2 h2 e2 => by
    by_cases q : i = j
    · subst q
      have hl := (List.getElem?_eq_some_iff.mp h2).1
      rw [List.length_set] at hl
      rw [List.getElem?_set_self hl] at h2
      exact nomatch h2
    · rw [List.getElem?_set_ne q] at h2
      exact q (R.sep i j _ _ _ _ p h h2 e e2))
  have hl := (List.getElem?_eq_some_iff.mp h).1
  refine ⟨by rw [List.length_set]; exact R.len, R2.sub, fun j pv hj => ?_, fun j k f1 o1 f2 o2 q h1 h2 e1 e2 => ?_, R2.nt, R2.tab, R2.tabF, R2.fr, R2.kp, R2.dom, R2.nw, R2.new⟩
  · by_cases q : i = j
    · subst q
      rw [List.getElem?_set_self hl] at hj
      obtain rfl := Option.some.inj hj
      exact ⟨p, ys, e, hF, upd_same, hr, hN, hb⟩
    · rw [List.getElem?_set_ne q] at hj
      exact R2.slot j pv (by rw [List.getElem?_set_ne q]; exact hj)
  · have g : ∀ (j : Nat) (f1 : Bool) (o : List D), (ρ.set i (PV.own f es))[j]? = some (PV.own f1 o) → ∃ f2 o2, ρ[j]? = some (PV.own f2 o2) := by
      intro j f1 o hj
      by_cases q : i = j
      · subst q
        exact ⟨_, _, h⟩
      · rw [List.getElem?_set_ne q] at hj
        exact ⟨_, _, hj⟩
    obtain ⟨_, _, g1⟩ := g _ _ _ h1
    obtain ⟨_, _, g2⟩ := g _ _ _ h2
    exact R.sep j k _ _ _ _ q g1 g2 e1 e2
/-- an own list that stays as it is from now on -/
theorem Rel.freeze (R : Rel c F H σ ρ) {i : Nat} {ds : List D} {p : Addr} (h : ρ[i]? = some (.own true ds)) (e : σ[i]? = some (some (.ref p))) :
    ∃ vs, Rel c (upd F p (.lst vs)) H σ (ρ.set i (.val (.lst ds))) ∧ Same F (upd F p (.lst vs)) ∧ Rp c.K (upd F p (.lst vs)) (.lst ds) (.ref p) := by
  obtain ⟨q, vs, e2, hF, hp, hr0, hN, hb⟩ := R.slot i _ h
  rw [e] at e2
  obtain rfl : p = q := by injection e2 with e2; injection e2 with e2; injection e2
  have sF : Same F (upd F p (.lst vs)) := fun _ _ e => old_upd hF e
  have R2 := (R.forget i).keepL hp hF (fun j f2 d2 h2 e2 => by
    by_cases q : i = j
    · subst q
      have hl := (List.getElem?_eq_some_iff.mp h2).1
      rw [List.length_set] at hl
      rw [List.getElem?_set_self hl] at h2
      exact nomatch h2
    · rw [List.getElem?_set_ne q] at h2
      exact q (R.sep i j _ _ _ _ p h h2 e e2)) (hb.elim (fun z => Or.inr ⟨z, hN.1 rfl⟩) Or.inl)
  have rp : Rp c.K (upd F p (.lst vs)) (.lst ds) (.ref p) := ⟨p, vs, rfl, upd_same, hr0.mono sF⟩
  have R3 := R2.setVal (i := i) rp
  have es : σ.set i (some (.ref p)) = σ := by
    obtain ⟨hl, e3⟩ := List.getElem?_eq_some_iff.mp e
    rw [← e3]
    exact List.set_getElem_self hl
  rw [es, List.set_set] at R3
  exact ⟨vs, R3, sF, rp⟩
def ownB (σ : L2.St) (ρ : PSt) : List Addr := (List.range ρ.length).filterMap fun (i : Nat) => match (ρ[i]? : Option PV), (σ[i]? : Option (Option V)) with
  | some (PV.own _ _), some (some (V.ref p)) => some p
  | _, _ => none
theorem mem_ownB {p : Addr} : p ∈ ownB σ ρ ↔ ∃ (i : Nat) (f : Bool) (ds : List D), ρ[i]? = some (.own f ds) ∧ σ[i]? = some (some (.ref p)) := by
  unfold ownB
  rw [List.mem_filterMap]
  constructor
  · rintro ⟨i, _, e⟩
    revert e
    match h1 : ρ[i]?, h2 : σ[i]? with
    | some (.own f ds), some (some (.ref q)) =>
      intro e
      obtain rfl := Option.some.inj e
      exact ⟨i, f, ds, h1, h2⟩
    | none, _ => intro e; exact nomatch e
    | some .un, _ => intro e; exact nomatch e
    | some (.val _), _ => intro e; exact nomatch e
    | some (.own f ds), none => intro e; exact nomatch e
    | some (.own f ds), some none => intro e; exact nomatch e
    | some (.own f ds), some (some .non) => intro e; exact nomatch e
    | some (.own f ds), some (some (.bl _)) => intro e; exact nomatch e
    | some (.own f ds), some (some (.int _)) => intro e; exact nomatch e
    | some (.own f ds), some (some (.str _)) => intro e; exact nomatch e
    | some (.own f ds), some (some (.byt _)) => intro e; exact nomatch e
    | some (.own f ds), some (some (.flt _)) => intro e; exact nomatch e
    | some (.own f ds), some (some (.ty _)) => intro e; exact nomatch e
  · rintro ⟨i, f, ds, h1, h2⟩
    refine ⟨i, List.mem_range.mpr (List.getElem?_eq_some_iff.mp h1).1, ?_⟩
    rw [h1, h2]
/-- the same place, told from this moment on -/
def Ct.at (c : Ct) (F H : Hp) (B : List Addr) : Ct := ⟨c.X, c.N, c.I0, F, H, B⟩
theorem Rel.here (R : Rel c F H σ ρ) : Rel (c.at F H (ownB σ ρ)) F H σ ρ := by
  refine ⟨R.len, R.sub, fun i pv h => ?_, R.sep, R.nt, R.tab, R.tabF, Same.refl F, fun b o e _ _ => e, fun b e => e, fun b o e => Or.inl e, R.new⟩
  have z := R.slot i pv h
  match pv, h, z with
  | .un, _, _ => exact trivial
  | .val d, _, z => exact z
  | .own f ds, h, ⟨p, vs, e, hF, hp, hr, hN, _⟩ => exact ⟨p, vs, e, hF, hp, hr, hN, Or.inl (mem_ownB.mpr ⟨i, f, ds, h, e⟩)⟩
theorem Rel.trans {σ' : L2.St} {ρ' : PSt} (R : Rel c F H σ ρ) (R' : Rel (c.at F H (ownB σ ρ)) F' H' σ' ρ') : Rel c F' H' σ' ρ' := by
  have hB : ∀ p, p ∈ ownB σ ρ → p ∈ c.B0 ∨ c.H0 p = none := by
    intro p hp
    obtain ⟨i, f, ds, h1, h2⟩ := mem_ownB.mp hp
    obtain ⟨q, vs, e2, _, _, _, _, hb⟩ := R.slot i _ h1
    rw [h2] at e2
    obtain rfl : p = q := by injection e2 with e2; injection e2 with e2; injection e2
    exact hb
  refine ⟨R'.len, R'.sub, fun i pv h => ?_, R'.sep, R'.nt, R'.tab, R'.tabF, fun _ _ e => R'.fr _ _ (R.fr _ _ e), fun b o e n m => ?_, fun b e => R.dom b (R'.dom b e), fun b o e => ?_, R'.new⟩
  · have z := R'.slot i pv h
    match pv, h, z with
    | .un, _, _ => exact trivial
    | .val d, _, z => exact z
    | .own f ds, h, ⟨p, vs, e, hF, hp, hr, hN, hb⟩ => exact ⟨p, vs, e, hF, hp, hr, hN, hb.elim (hB p) (fun z => Or.inr (R.dom p z))⟩
  · refine R'.kp b o (R.kp b o e n m) (fun z => ?_) m
    rcases hB b z with z2 | z2
    · exact n z2
    · rw [z2] at e
      exact nomatch e
  · rcases R'.nw b o e with z | z | ⟨z1, z2⟩ | z
    · exact R.nw b o z
    · exact Or.inr (Or.inl (R.dom b z))
    · rcases hB b z1 with z3 | z3
      · exact Or.inr (Or.inr (Or.inl ⟨z3, z2⟩))
      · exact Or.inr (Or.inl z3)
    · exact Or.inr (Or.inr (Or.inr z))
/-- a thing that stands by itself is kept -/
theorem Rel.keeps {σ' : L2.St} {ρ' : PSt} {B : List Addr} (R' : Rel (c.at F H B) F' H' σ' ρ') {b : Addr} {o : HO} (e : H b = some o) (n : b ∉ B) (t : NoTb c b) : H' b = some o := R'.kp b o e n t
/-- what a call leaves -/
def Step (X : Sx) (B : List Addr) (F H F' H' : Hp) : Prop := Rel ⟨X, fun p => H p = none, [], F, H, B⟩ F' H' [] []
theorem Step.own (s : Step c.X [] F H F' H') (R : Rel c F H σ ρ) : Rel c F' H' σ ρ := by
  have kp : ∀ b o, H b = some o → (∀ ps, o ≠ .tbl ps) → H' b = some o := fun b o e n => s.kp b o e (by simp) (R.notab e n)
  refine ⟨R.len, s.sub, fun i pv h => (R.slot i pv h).mono s.fr fun fr ds q e1 e2 => ?_, R.sep, s.nt, s.tab, s.tabF, fun _ _ e => s.fr _ _ (R.fr _ _ e), fun b o e n m => s.kp b o (R.kp b o e n m) (by simp) m, fun b e => R.dom b (s.dom b e), fun b o e => ?_, fun p e => R.new p (s.dom p e)⟩
  · subst e1
    obtain ⟨f, vs, l⟩ := R.ownAt h e2
    refine ⟨?_, fun ws lw => kp _ _ lw (fun ps => by simp)⟩
    cases e : F' q with
    | none => rfl
    | some o =>
      rcases s.nw q o e with z | z | ⟨z, _⟩ | z
      · have z2 : F q = some o := z
        rw [f] at z2
        exact nomatch z2
      · have z2 : H q = none := z
        rw [l] at z2
        exact nomatch z2
      · exact nomatch z
      · have z2 := s.sub _ _ e
        rw [kp _ _ l (fun ps => by simp)] at z2
        cases z2
        exact z.elim
  · rcases s.nw b o e with z | z | ⟨z, _⟩ | z
    · exact R.nw b o z
    · exact Or.inr (Or.inl (R.dom b z))
    · exact nomatch z
    · exact Or.inr (Or.inr (Or.inr z))
/-- the things of a call forgotten -/
theorem Step.back {G : Hp} (s : Step c.X [] G H F' H') (R : Rel c F H σ ρ) : Rel c F H' σ ρ := by
  have kp : ∀ b o, H b = some o → (∀ ps, o ≠ .tbl ps) → H' b = some o := fun b o e n => s.kp b o e (by simp) (R.notab e n)
  refine ⟨R.len, fun b o e => ?_, fun i pv h => (R.slot i pv h).mono (Same.refl F) fun fr ds q e1 e2 => ?_, R.sep, s.nt, s.tab, R.tabF, R.fr, fun b o e n m => s.kp b o (R.kp b o e n m) (by simp) m, fun b e => R.dom b (s.dom b e), R.nw, fun p e => R.new p (s.dom p e)⟩
  · refine s.kp b o (R.sub b o e) (by simp) (fun x hx z => ?_)
    rw [z, R.tabF x hx] at e
    exact nomatch e
  · subst e1
    exact ⟨(R.ownAt h e2).1, fun ws lw => kp _ _ lw (fun ps => by simp)⟩
end
end L3
namespace L3
open PySem PySem.Spec PyProof.Rows L2 TB LamX
/-- a value on the way: data, or the own list in a slot -/
inductive Rv where
  | val (d : D) | cell (i : Nat)
abbrev QE := PSt → (Rv → PSt → Prop) → Prop
abbrev QD := PSt → (D → PSt → Prop) → Prop
abbrev QN := PSt → (List D → PSt → Prop) → Prop
abbrev QT := PSt → (Bool → PSt → Prop) → Prop
abbrev QA := PSt → (List Rv → PSt → Prop) → Prop
abbrev QO := PSt → (Option Int → PSt → Prop) → Prop
abbrev QI := PSt → (List D → PSt → Prop) → Prop
abbrev QG := D → PSt → (PSt → Prop) → Prop
abbrev QGs := List D → PSt → (PSt → Prop) → Prop
inductive Rs where
  | val (d : D) | new (ds : List D)
structure PEnds where
  nx : PSt → Prop
  rt : Rs → PSt → Prop
  bk : PSt → Prop := fun _ => False
  ct : PSt → Prop := fun _ => False
abbrev QS := PEnds → PSt → Prop
def rdP : Option PV → Option D
  | some (.val d) => some d
  | some (.own _ ds) => some (.lst ds)
  | _ => none
def rdR (ρ : PSt) : Rv → Option D
  | .val d => some d
  | .cell i => rdP ρ[i]?
def cons2 : Option D → Option (List D) → Option (List D)
  | some d, some ds => some (d :: ds)
  | _, _ => none
def rdL (ρ : PSt) : List Rv → Option (List D)
  | [] => some []
  | r :: rs => cons2 (rdR ρ r) (rdL ρ rs)
/-- v is this data now -/
def Rn (K : PySem.W.Frag) (F H : Hp) : D → V → Prop
  | .lst ds, v => ∃ p vs, v = .ref p ∧ H p = some (.lst vs) ∧ RpL K F ds vs
  | d, v => Rp K F d v
def RnL (K : PySem.W.Frag) (F H : Hp) : List D → List V → Prop
  | [], vs => vs = []
  | d :: ds, vs => ∃ v r, vs = v :: r ∧ Rn K F H d v ∧ RnL K F H ds r
theorem Rn.of {K : PySem.W.Frag} {F H : Hp} (s : Same F H) {d : D} {v : V} (h : Rp K F d v) : Rn K F H d v := by
  cases d <;> first
    | exact h
    | (obtain ⟨a, vs, e, q, r⟩ := h
       exact ⟨a, vs, e, s _ _ q, r⟩)
def RV (c : Ct) (F : Hp) (σ : L2.St) : Rv → V → Prop
  | .val d, v => Rp c.K F d v
  | .cell i, v => σ[i]? = some (some v)
def RVL (c : Ct) (F : Hp) (σ : L2.St) : List Rv → List V → Prop
  | [], vs => vs = []
  | r :: rs, vs => ∃ v t, vs = v :: t ∧ RV c F σ r v ∧ RVL c F σ rs t
section
variable {c : Ct} {F F' H : Hp} {σ : L2.St} {ρ : PSt}
theorem RV.mono (s : Same F F') : ∀ {r : Rv} {v : V}, RV c F σ r v → RV c F' σ r v
  | .val d, v, h => Rp.mono s h
  | .cell i, v, h => h
theorem RVL.mono (s : Same F F') : ∀ {r : List Rv} {v : List V}, RVL c F σ r v → RVL c F' σ r v
  | [], v, h => h
  | r :: rs, v, h => by
    obtain ⟨w, t, rfl, q, k⟩ := h
    exact ⟨w, t, rfl, q.mono s, RVL.mono s k⟩
theorem RV.rn (R : Rel c F H σ ρ) : ∀ {r : Rv} {v : V} {d : D}, RV c F σ r v → rdR ρ r = some d → Rn c.K F H d v
  | .val d, v, d', h, e => by
    obtain rfl := Option.some.inj e
    exact Rn.of R.sub h
  | .cell i, v, d', h, e => by
    have h2 : σ[i]? = some (some v) := h
    have e : rdP ρ[i]? = some d' := e
    cases hi : ρ[i]? with
    | none => rw [hi] at e; exact nomatch e
    | some pv =>
      rw [hi] at e
      match pv, hi, e with
      | .un, _, e => exact nomatch e
      | .val d, hi, e =>
        obtain rfl : d = d' := Option.some.inj e
        obtain ⟨w, e2, r⟩ := R.slot i _ hi
        rw [h2] at e2
        obtain rfl : v = w := Option.some.inj (Option.some.inj e2)
        exact Rn.of R.sub r
      | .own f ds, hi, e =>
        obtain rfl : D.lst ds = d' := Option.some.inj e
        obtain ⟨p, vs, e2, hF, hp, hr, _⟩ := R.slot i _ hi
        rw [h2] at e2
        obtain rfl : v = .ref p := Option.some.inj (Option.some.inj e2)
        exact ⟨p, vs, rfl, hp, hr⟩
theorem RVL.rn (R : Rel c F H σ ρ) : ∀ {rs : List Rv} {vs : List V} {ds : List D}, RVL c F σ rs vs → rdL ρ rs = some ds → RnL c.K F H ds vs
  | [], vs, ds, h, e => by
    obtain rfl := Option.some.inj e
    exact h
  | r :: rs, vs, ds, h, e => by
    obtain ⟨v, t, rfl, q, k⟩ := h
    have e : cons2 (rdR ρ r) (rdL ρ rs) = some ds := e
    cases h1 : rdR ρ r with
    | none => rw [h1] at e; exact nomatch e
    | some d =>
      cases h2 : rdL ρ rs with
      | none => rw [h1, h2] at e; exact nomatch e
      | some ds' =>
        rw [h1, h2] at e
        obtain rfl : d :: ds' = ds := Option.some.inj e
        exact ⟨v, t, rfl, q.rn R h1, RVL.rn R k h2⟩
end
/-- nobody's own list is at p -/
def Nob (σ : L2.St) (ρ : PSt) (p : Addr) : Prop := ∀ (i : Nat) (f : Bool) (ds : List D), ρ[i]? = some (.own f ds) → σ[i]? ≠ some (some (.ref p))
/-- a new list of ds at p that nobody has -/
structure NewL (c : Ct) (F H : Hp) (σ : L2.St) (ρ : PSt) (p : Addr) (ds : List D) : Prop where
  l : ∃ vs, H p = some (.lst vs) ∧ RpL c.K F ds vs
  f : F p = none
  n : c.N p
  b : c.H0 p = none ∨ (p ∈ c.B0 ∧ c.N p)
  o : Nob σ ρ p
theorem NewL.b2 {c : Ct} {F H : Hp} {σ : L2.St} {ρ : PSt} {p : Addr} {ds : List D} (n : NewL c F H σ ρ p ds) : p ∈ c.B0 ∨ c.H0 p = none := n.b.elim Or.inr (fun z => Or.inl z.1)
theorem NewL.keep {c : Ct} {F H : Hp} {σ : L2.St} {ρ : PSt} {p : Addr} {ds : List D} (n : NewL c F H σ ρ p ds) (R : Rel c F H σ ρ) : ∃ vs, Rel c (upd F p (.lst vs)) H σ ρ ∧ Same F (upd F p (.lst vs)) ∧ Rp c.K (upd F p (.lst vs)) (.lst ds) (.ref p) := by
  obtain ⟨vs, hp, hr⟩ := n.l
  have sF : Same F (upd F p (.lst vs)) := fun _ _ e => old_upd n.f e
  exact ⟨vs, R.keepL hp n.f n.o n.b, sF, p, vs, rfl, upd_same, hr.mono sF⟩
theorem NewL.made {c : Ct} {F H : Hp} {σ : L2.St} {ρ : PSt} {p : Addr} {ds : List D} {vs : List V} (R : Rel c F H σ ρ) (np : H p = none) (hr : RpL c.K F ds vs) : Rel c F (upd H p (.lst vs)) σ ρ ∧ NewL c F (upd H p (.lst vs)) σ ρ p ds :=
  ⟨R.allocH np trivial, ⟨vs, upd_same, hr⟩, R.fnone np, R.new p np, Or.inl (R.dom p np), R.noOwn np⟩
/-- what is to follow is carried -/
def LiE (X : Sx) (te : TE) (pe : QE) : Prop := ∀ (c : Ct), c.X = X → ∀ (σ : L2.St) (F H : Hp) (ρ : PSt) (Q : VK) (Q3 : Rv → PSt → Prop), Rel c F H σ ρ →
  (∀ r ρ' v F' H', Rel c F' H' σ ρ' → Same F F' → RV c F' σ r v → Q3 r ρ' → Q v H') → pe ρ Q3 → te σ H Q
def LiD (X : Sx) (te : TE) (pd : QD) : Prop := ∀ (c : Ct), c.X = X → ∀ (σ : L2.St) (F H : Hp) (ρ : PSt) (Q : VK) (Q3 : D → PSt → Prop), Rel c F H σ ρ →
  (∀ d ρ' v F' H', Rel c F' H' σ ρ' → Same F F' → Rp c.K F' d v → Q3 d ρ' → Q v H') → pd ρ Q3 → te σ H Q
def LiN (X : Sx) (te : TE) (pn : QN) : Prop := ∀ (c : Ct), c.X = X → ∀ (σ : L2.St) (F H : Hp) (ρ : PSt) (Q : VK) (Q3 : List D → PSt → Prop), Rel c F H σ ρ →
  (∀ ds ρ' p F' H', Rel c F' H' σ ρ' → Same F F' → NewL c F' H' σ ρ' p ds → Q3 ds ρ' → Q (.ref p) H') → pn ρ Q3 → te σ H Q
def LiT (X : Sx) (tt : TT) (pt : QT) : Prop := ∀ (c : Ct), c.X = X → ∀ (σ : L2.St) (F H : Hp) (ρ : PSt) (Q : Bool → Hp → Prop) (Q3 : Bool → PSt → Prop), Rel c F H σ ρ →
  (∀ b ρ' F' H', Rel c F' H' σ ρ' → Same F F' → Q3 b ρ' → Q b H') → pt ρ Q3 → tt σ H Q
def LiA (X : Sx) (ta : TA) (pa : QA) : Prop := ∀ (c : Ct), c.X = X → ∀ (σ : L2.St) (F H : Hp) (ρ : PSt) (Q : List V → Hp → Prop) (Q3 : List Rv → PSt → Prop), Rel c F H σ ρ →
  (∀ rs ρ' vs F' H', Rel c F' H' σ ρ' → Same F F' → RVL c F' σ rs vs → Q3 rs ρ' → Q vs H') → pa ρ Q3 → ta σ H Q
def LiO (X : Sx) (to : TO) (po : QO) : Prop := ∀ (c : Ct), c.X = X → ∀ (σ : L2.St) (F H : Hp) (ρ : PSt) (Q : Option Int → Hp → Prop) (Q3 : Option Int → PSt → Prop), Rel c F H σ ρ →
  (∀ i ρ' F' H', Rel c F' H' σ ρ' → Same F F' → Q3 i ρ' → Q i H') → po ρ Q3 → to σ H Q
/-- the walk J yields these items -/
def Wd (X : Sx) (J : It) (F : Hp) (ds : List D) : Prop := ∀ (i : Nat) (c' : Ct) (σ : L2.St) (ρ : PSt) (F1 H1 : Hp), c'.X = X → Same F F1 → Rel c' F1 H1 σ ρ →
  (∀ d, ds[i]? = some d → J.go i H1 ∧ ∀ x H', J.yld i H1 x H' → Same H1 H' ∧ ∃ F', Rel c' F' H' σ ρ ∧ Same F1 F' ∧ Rp X.K F' d x) ∧ (ds[i]? = none → J.stop i H1)
def LiI (X : Sx) (wi : TI) (pi : QI) : Prop := ∀ (c : Ct), c.X = X → ∀ (σ : L2.St) (F H : Hp) (ρ : PSt) (R : It → Hp → Prop) (Q3 : List D → PSt → Prop), Rel c F H σ ρ →
  (∀ ds ρ' J F' H', Rel c F' H' σ ρ' → Same F F' → Wd X J F' ds → Q3 ds ρ' → R J H') → pi ρ Q3 → wi σ H R
/-- ts: the slots that it sets -/
def LiG (X : Sx) (g : TG) (pg : QG) (ts : List Nat) : Prop := ∀ (c : Ct), c.X = X → ∀ (σ : L2.St) (F H : Hp) (ρ : PSt) (d : D) (v : V) (R : L2.St → Hp → Prop) (Q3 : PSt → Prop), Rel c F H σ ρ → Rp c.K F d v →
  (∀ ρ' σ' F' H', Rel c F' H' σ' ρ' → Same F F' → σ'.length = σ.length → (∀ i, i ∉ ts → σ'[i]? = σ[i]?) → Q3 ρ' → R σ' H') → pg d ρ Q3 → g v σ H R
def LiGs (X : Sx) (g : TGs) (pg : QGs) (ts : List Nat) : Prop := ∀ (c : Ct), c.X = X → ∀ (σ : L2.St) (F H : Hp) (ρ : PSt) (ds : List D) (vs : List V) (R : L2.St → Hp → Prop) (Q3 : PSt → Prop), Rel c F H σ ρ → RpL c.K F ds vs →
  (∀ ρ' σ' F' H', Rel c F' H' σ' ρ' → Same F F' → σ'.length = σ.length → (∀ i, i ∉ ts → σ'[i]? = σ[i]?) → Q3 ρ' → R σ' H') → pg ds ρ Q3 → g vs σ H R
def RsOk (c : Ct) (F H : Hp) (σ : L2.St) (ρ : PSt) : Rs → V → Prop
  | .val d, v => Rp c.K F d v
  | .new ds, v => ∃ p, v = .ref p ∧ NewL c F H σ ρ p ds
structure Agr (c : Ct) (F : Hp) (D : Ends) (P : PEnds) : Prop where
  nx : ∀ σ' F' H' ρ', Rel c F' H' σ' ρ' → Same F F' → P.nx ρ' → D.nx σ' H'
  rt : ∀ σ' F' H' ρ' v r, Rel c F' H' σ' ρ' → Same F F' → RsOk c F' H' σ' ρ' r v → P.rt r ρ' → D.rt v H'
  bk : ∀ σ' F' H' ρ', Rel c F' H' σ' ρ' → Same F F' → P.bk ρ' → D.bk σ' H'
  ct : ∀ σ' F' H' ρ', Rel c F' H' σ' ρ' → Same F F' → P.ct ρ' → D.ct σ' H'
theorem Agr.mono {c : Ct} {F F' : Hp} {D : Ends} {P : PEnds} (a : Agr c F D P) (s : Same F F') : Agr c F' D P :=
  ⟨fun σ' G H' ρ' R q => a.nx σ' G H' ρ' R (tr s q), fun σ' G H' ρ' v r R q => a.rt σ' G H' ρ' v r R (tr s q), fun σ' G H' ρ' R q => a.bk σ' G H' ρ' R (tr s q), fun σ' G H' ρ' R q => a.ct σ' G H' ρ' R (tr s q)⟩
def LiS (X : Sx) (ts : TS) (ps : QS) : Prop := ∀ (c : Ct), c.X = X → ∀ (σ : L2.St) (F H : Hp) (ρ : PSt) (D : Ends) (P : PEnds), Rel c F H σ ρ → Agr c F D P → ps P ρ → ts D σ H
def qVarP (i : Nat) (Q : Rv → Prop) : Option PV → Prop
  | some (.val d) => Q (.val d)
  | some (.own _ _) => Q (.cell i)
  | _ => False
def qVar (i : Nat) : QE := fun ρ Q => qVarP i (fun r => Q r ρ) ρ[i]?
theorem li_var {X : Sx} {i : Nat} : LiE X (tVar i) (qVar i) := by
  intro c hX σ F H ρ Q Q3 R hq h
  have h : qVarP i (fun r => Q3 r ρ) ρ[i]? := h
  cases hi : ρ[i]? with
  | none => rw [hi] at h; exact h.elim
  | some pv =>
    rw [hi] at h
    match pv, hi, h with
    | .un, _, h => exact h.elim
    | .val d, hi, h =>
      obtain ⟨v, e, r⟩ := R.slot i _ hi
      exact ⟨v, e, hq (.val d) _ v F H R (Same.refl F) r h⟩
    | .own f ds, hi, h =>
      obtain ⟨p, vs, e, _⟩ := R.slot i _ hi
      exact ⟨.ref p, e, hq (.cell i) _ (.ref p) F H R (Same.refl F) e h⟩
def vD : V → Option D
  | .non => some .non
  | .bl b => some (.bl b)
  | .int i => some (.int i)
  | .str z => some (.str z)
  | .ty n => some (.ty n)
  | _ => none
def some1 {α : Type} (Q : α → Prop) : Option α → Prop
  | some d => Q d
  | none => False
def some2 {α β : Type} (Q : α → β → Prop) : Option α → Option β → Prop
  | some d, some e => Q d e
  | _, _ => False
def qC (v : V) : QE := fun ρ Q => some1 (fun d => Q (.val d) ρ) (vD v)
theorem li_c {X : Sx} {v : V} : LiE X (tC v) (qC v) := by
  intro c hX σ F H ρ Q Q3 R hq h
  match v, h with
  | .non, h => exact hq (.val .non) _ _ F H R (Same.refl F) rfl h
  | .bl b, h => exact hq (.val (.bl b)) _ _ F H R (Same.refl F) rfl h
  | .int b, h => exact hq (.val (.int b)) _ _ F H R (Same.refl F) rfl h
  | .str b, h => exact hq (.val (.str b)) _ _ F H R (Same.refl F) rfl h
  | .ty b, h => exact hq (.val (.ty b)) _ _ F H R (Same.refl F) rfl h
  | .byt _, h => exact h.elim
  | .flt _, h => exact h.elim
  | .ref _, h => exact h.elim
/-- what is kept: the own list is one no more -/
def escP (ρ : PSt) (i : Nat) (Q : D → PSt → Prop) : Option PV → Prop
  | some (.val d) => Q d ρ
  | some (.own true ds) => Q (.lst ds) (ρ.set i (.val (.lst ds)))
  | _ => False
def escR (ρ : PSt) (Q : D → PSt → Prop) : Rv → Prop
  | .val d => Q d ρ
  | .cell i => escP ρ i Q ρ[i]?
def qEsc (pe : QE) : QD := fun ρ Q => pe ρ fun r ρ' => escR ρ' Q r
theorem li_esc {X : Sx} {te : TE} {pe : QE} (h : LiE X te pe) : LiD X te (qEsc pe) := by
  intro c hX σ F H ρ Q Q3 R hq hp
  refine h c hX σ F H ρ Q _ R ?_ hp
  intro r ρ' v F' H' R' s rv q
  match r, rv, q with
  | .val d, rv, q => exact hq d ρ' v F' H' R' s rv q
  | .cell i, rv, q =>
    have rv2 : σ[i]? = some (some v) := rv
    have q : escP ρ' i Q3 ρ'[i]? := q
    cases hi : ρ'[i]? with
    | none => rw [hi] at q; exact q.elim
    | some pv =>
      rw [hi] at q
      match pv, hi, q with
      | .un, hi, q => exact q.elim
      | .val d, hi, q =>
        obtain ⟨w, e2, r⟩ := R'.slot i _ hi
        rw [rv2] at e2
        obtain rfl : v = w := Option.some.inj (Option.some.inj e2)
        exact hq d ρ' v F' H' R' s r q
      | .own false ds, hi, q => exact q.elim
      | .own true ds, hi, q =>
        obtain ⟨p, vs, e2, _⟩ := R'.slot i _ hi
        rw [rv2] at e2
        obtain rfl : v = .ref p := Option.some.inj (Option.some.inj e2)
        obtain ⟨vs, R2, s2, r2⟩ := R'.freeze hi rv2
        exact hq _ _ _ _ H' R2 (tr s s2) r2 q
def qKeep (pn : QN) : QE := fun ρ Q => pn ρ fun ds ρ' => Q (.val (.lst ds)) ρ'
theorem li_keep {X : Sx} {te : TE} {pn : QN} (h : LiN X te pn) : LiE X te (qKeep pn) := by
  intro c hX σ F H ρ Q Q3 R hq hp
  refine h c hX σ F H ρ Q _ R ?_ hp
  intro ds ρ' p F' H' R' s n q
  obtain ⟨vs, R2, s2, r2⟩ := n.keep R'
  exact hq (.val (.lst ds)) _ _ _ H' R2 (tr s s2) r2 q
def qNil : QA := fun ρ Q => Q [] ρ
def qCons (pe : QE) (pa : QA) : QA := fun ρ Q => pe ρ fun r ρ1 => pa ρ1 fun rs ρ2 => Q (r :: rs) ρ2
theorem li_nil {X : Sx} : LiA X tNil qNil := by
  intro c hX σ F H ρ Q Q3 R hq h
  exact hq [] ρ [] F H R (Same.refl F) rfl h
theorem li_cons {X : Sx} {te : TE} {ta : TA} {pe : QE} {pa : QA} (h1 : LiE X te pe) (h2 : LiA X ta pa) : LiA X (tCons te ta) (qCons pe pa) := by
  intro c hX σ F H ρ Q Q3 R hq h
  refine h1 c hX σ F H ρ _ _ R ?_ h
  intro r ρ1 v F1 H1 R1 s1 rv q1
  refine h2 c hX σ F1 H1 ρ1 _ _ R1 ?_ q1
  intro rs ρ2 vs F2 H2 R2 s2 rvs q2
  exact hq (r :: rs) ρ2 (v :: vs) F2 H2 R2 (tr s1 s2) ⟨v, vs, rfl, rv.mono s2, rvs⟩ q2
/-- all kept -/
abbrev QAD := PSt → (List D → PSt → Prop) → Prop
def LiAD (X : Sx) (ta : TA) (pa : QAD) : Prop := ∀ (c : Ct), c.X = X → ∀ (σ : L2.St) (F H : Hp) (ρ : PSt) (Q : List V → Hp → Prop) (Q3 : List D → PSt → Prop), Rel c F H σ ρ →
  (∀ ds ρ' vs F' H', Rel c F' H' σ ρ' → Same F F' → RpL c.K F' ds vs → Q3 ds ρ' → Q vs H') → pa ρ Q3 → ta σ H Q
def qNilD : QAD := fun ρ Q => Q [] ρ
def qConsD (pe : QD) (pa : QAD) : QAD := fun ρ Q => pe ρ fun d ρ1 => pa ρ1 fun ds ρ2 => Q (d :: ds) ρ2
theorem li_nilD {X : Sx} : LiAD X tNil qNilD := by
  intro c hX σ F H ρ Q Q3 R hq h
  exact hq [] ρ [] F H R (Same.refl F) rfl h
theorem li_consD {X : Sx} {te : TE} {ta : TA} {pe : QD} {pa : QAD} (h1 : LiD X te pe) (h2 : LiAD X ta pa) : LiAD X (tCons te ta) (qConsD pe pa) := by
  intro c hX σ F H ρ Q Q3 R hq h
  refine h1 c hX σ F H ρ _ _ R ?_ h
  intro d ρ1 v F1 H1 R1 s1 rv q1
  refine h2 c hX σ F1 H1 ρ1 _ _ R1 ?_ q1
  intro ds ρ2 vs F2 H2 R2 s2 rvs q2
  exact hq (d :: ds) ρ2 (v :: vs) F2 H2 R2 (tr s1 s2) ⟨v, vs, rfl, rv.mono s2, rvs⟩ q2
def qLst (pa : QAD) : QN := fun ρ Q => pa ρ fun ds ρ' => ds.length ≤ sizeLine ∧ Q ds ρ'
theorem li_lst {X : Sx} {ta : TA} {pa : QAD} (h : LiAD X ta pa) : LiN X (tLst ta) (qLst pa) := by
  intro c hX σ F H ρ Q Q3 R hq hp
  refine h c hX σ F H ρ _ _ R ?_ hp
  intro ds ρ' vs F' H' R' s r ⟨z, q⟩
  refine ⟨by rw [r.len]; exact z, fun p np => ?_⟩
  obtain ⟨R2, n2⟩ := NewL.made R' np r
  exact hq ds ρ' p F' _ R2 s n2 q
def qTup (pa : QAD) : QD := fun ρ Q => pa ρ fun ds ρ' => ds.length ≤ sizeLine ∧ Q (.tup ds) ρ'
theorem li_tup {X : Sx} {ta : TA} {pa : QAD} (h : LiAD X ta pa) : LiD X (tTup ta) (qTup pa) := by
  intro c hX σ F H ρ Q Q3 R hq hp
  refine h c hX σ F H ρ _ _ R ?_ hp
  intro ds ρ' vs F' H' R' s r ⟨z, q⟩
  refine ⟨by rw [r.len]; exact z, fun p np => ?_⟩
  have s2 : Same F' (upd F' p (.tup vs)) := fun _ _ e => old_upd (R'.fnone np) e
  exact hq (.tup ds) ρ' (.ref p) _ _ (R'.alloc np trivial) (tr s s2) ⟨p, vs, rfl, sqT_of upd_same, r.mono s2⟩ q
abbrev O2 := D → D → (D → Prop) → Prop
def LiR (X : Sx) (r : R2) (r3 : O2) : Prop := ∀ (c : Ct), c.X = X → ∀ (σ : L2.St) (F H : Hp) (ρ : PSt) (x y : V) (dx dy : D) (Q : VK) (Q3 : D → Prop), Rel c F H σ ρ → Rn c.K F H dx x → Rn c.K F H dy y →
  (∀ d v F' H', Rel c F' H' σ ρ → Same F F' → Rp c.K F' d v → Q3 d → Q v H') → r3 dx dy Q3 → r x y H Q
def qOp (r3 : O2) (pa pb : QE) : QE := fun ρ Q => pa ρ fun x ρ1 => pb ρ1 fun y ρ2 => some2 (fun dx dy => r3 dx dy fun d => Q (.val d) ρ2) (rdR ρ2 x) (rdR ρ2 y)
theorem li_op {X : Sx} {r : R2} {r3 : O2} {ta tb : TE} {pa pb : QE} (hr : LiR X r r3) (ha : LiE X ta pa) (hb : LiE X tb pb) : LiE X (tOp r ta tb) (qOp r3 pa pb) := by
  intro c hX σ F H ρ Q Q3 R hq h
  refine ha c hX σ F H ρ _ _ R ?_ h
  intro x ρ1 v F1 H1 R1 s1 rv q1
  refine hb c hX σ F1 H1 ρ1 _ _ R1 ?_ q1
  intro y ρ2 w F2 H2 R2 s2 rw2 q2
  cases h1 : rdR ρ2 x with
  | none => rw [h1] at q2; exact q2.elim
  | some dx =>
    cases h2 : rdR ρ2 y with
    | none => rw [h1, h2] at q2; exact q2.elim
    | some dy =>
      rw [h1, h2] at q2
      exact hr c hX σ F2 H2 ρ2 v w dx dy Q _ R2 ((rv.mono s2).rn R2 h1) (rw2.rn R2 h2) (fun d u F' H' R' s r q => hq (.val d) _ _ _ _ R' (tr (tr s1 s2) s) r q) q2
abbrev O2N := D → D → (List D → Prop) → Prop
def LiRN (X : Sx) (r : R2) (r3 : O2N) : Prop := ∀ (c : Ct), c.X = X → ∀ (σ : L2.St) (F H : Hp) (ρ : PSt) (x y : V) (dx dy : D) (Q : VK) (Q3 : List D → Prop), Rel c F H σ ρ → Rn c.K F H dx x → Rn c.K F H dy y →
  (∀ ds p F' H', Rel c F' H' σ ρ → Same F F' → NewL c F' H' σ ρ p ds → Q3 ds → Q (.ref p) H') → r3 dx dy Q3 → r x y H Q
def qOpN (r3 : O2N) (pa pb : QE) : QN := fun ρ Q => pa ρ fun x ρ1 => pb ρ1 fun y ρ2 => some2 (fun dx dy => r3 dx dy fun d => Q d ρ2) (rdR ρ2 x) (rdR ρ2 y)
theorem li_opN {X : Sx} {r : R2} {r3 : O2N} {ta tb : TE} {pa pb : QE} (hr : LiRN X r r3) (ha : LiE X ta pa) (hb : LiE X tb pb) : LiN X (tOp r ta tb) (qOpN r3 pa pb) := by
  intro c hX σ F H ρ Q Q3 R hq h
  refine ha c hX σ F H ρ _ _ R ?_ h
  intro x ρ1 v F1 H1 R1 s1 rv q1
  refine hb c hX σ F1 H1 ρ1 _ _ R1 ?_ q1
  intro y ρ2 w F2 H2 R2 s2 rw2 q2
  cases h1 : rdR ρ2 x with
  | none => rw [h1] at q2; exact q2.elim
  | some dx =>
    cases h2 : rdR ρ2 y with
    | none => rw [h1, h2] at q2; exact q2.elim
    | some dy =>
      rw [h1, h2] at q2
      exact hr c hX σ F2 H2 ρ2 v w dx dy Q _ R2 ((rv.mono s2).rn R2 h1) (rw2.rn R2 h2) (fun d u F' H' R' s r q => hq d _ _ _ _ R' (tr (tr s1 s2) s) r q) q2
abbrev O1 := D → (D → Prop) → Prop
def LiU (X : Sx) (r : V → Hp → VK → Prop) (r3 : O1) : Prop := ∀ (c : Ct), c.X = X → ∀ (σ : L2.St) (F H : Hp) (ρ : PSt) (x : V) (dx : D) (Q : VK) (Q3 : D → Prop), Rel c F H σ ρ → Rn c.K F H dx x →
  (∀ d v F' H', Rel c F' H' σ ρ → Same F F' → Rp c.K F' d v → Q3 d → Q v H') → r3 dx Q3 → r x H Q
def qUn (r3 : O1) (pa : QE) : QE := fun ρ Q => pa ρ fun x ρ1 => some1 (fun dx => r3 dx fun d => Q (.val d) ρ1) (rdR ρ1 x)
theorem li_un {X : Sx} {r : V → Hp → VK → Prop} {r3 : O1} {ta : TE} {pa : QE} (hr : LiU X r r3) (ha : LiE X ta pa) : LiE X (tUn r ta) (qUn r3 pa) := by
  intro c hX σ F H ρ Q Q3 R hq h
  refine ha c hX σ F H ρ _ _ R ?_ h
  intro x ρ1 v F1 H1 R1 s1 rv q1
  cases h1 : rdR ρ1 x with
  | none => rw [h1] at q1; exact q1.elim
  | some dx =>
    rw [h1] at q1
    exact hr c hX σ F1 H1 ρ1 v dx Q _ R1 (rv.rn R1 h1) (fun d u F' H' R' s r q => hq (.val d) _ _ _ _ R' (tr s1 s) r q) q1
abbrev OL := List D → (D → Prop) → Prop
def LiC (X : Sx) (r : List V → Hp → VK → Prop) (r3 : OL) : Prop := ∀ (c : Ct), c.X = X → ∀ (σ : L2.St) (F H : Hp) (ρ : PSt) (xs : List V) (dxs : List D) (Q : VK) (Q3 : D → Prop), Rel c F H σ ρ → RnL c.K F H dxs xs →
  (∀ d v F' H', Rel c F' H' σ ρ → Same F F' → Rp c.K F' d v → Q3 d → Q v H') → r3 dxs Q3 → r xs H Q
def qCB (r3 : OL) (pa : QA) : QE := fun ρ Q => pa ρ fun xs ρ1 => some1 (fun ds => r3 ds fun d => Q (.val d) ρ1) (rdL ρ1 xs)
theorem li_cb {X : Sx} {r : List V → Hp → VK → Prop} {r3 : OL} {ta : TA} {pa : QA} (hr : LiC X r r3) (ha : LiA X ta pa) : LiE X (tCB r ta) (qCB r3 pa) := by
  intro c hX σ F H ρ Q Q3 R hq h
  refine ha c hX σ F H ρ _ _ R ?_ h
  intro x ρ1 v F1 H1 R1 s1 rv q1
  cases h1 : rdL ρ1 x with
  | none => rw [h1] at q1; exact q1.elim
  | some dx =>
    rw [h1] at q1
    exact hr c hX σ F1 H1 ρ1 v dx Q _ R1 (rv.rn R1 h1) (fun d u F' H' R' s r q => hq (.val d) _ _ _ _ R' (tr s1 s) r q) q1
abbrev OLN := List D → (List D → Prop) → Prop
def LiCN (X : Sx) (r : List V → Hp → VK → Prop) (r3 : OLN) : Prop := ∀ (c : Ct), c.X = X → ∀ (σ : L2.St) (F H : Hp) (ρ : PSt) (xs : List V) (dxs : List D) (Q : VK) (Q3 : List D → Prop), Rel c F H σ ρ → RnL c.K F H dxs xs →
  (∀ d p F' H', Rel c F' H' σ ρ → Same F F' → NewL c F' H' σ ρ p d → Q3 d → Q (.ref p) H') → r3 dxs Q3 → r xs H Q
def qCBN (r3 : OLN) (pa : QA) : QN := fun ρ Q => pa ρ fun xs ρ1 => some1 (fun ds => r3 ds fun d => Q d ρ1) (rdL ρ1 xs)
theorem li_cbN {X : Sx} {r : List V → Hp → VK → Prop} {r3 : OLN} {ta : TA} {pa : QA} (hr : LiCN X r r3) (ha : LiA X ta pa) : LiN X (tCB r ta) (qCBN r3 pa) := by
  intro c hX σ F H ρ Q Q3 R hq h
  refine ha c hX σ F H ρ _ _ R ?_ h
  intro x ρ1 v F1 H1 R1 s1 rv q1
  cases h1 : rdL ρ1 x with
  | none => rw [h1] at q1; exact q1.elim
  | some dx =>
    rw [h1] at q1
    exact hr c hX σ F1 H1 ρ1 v dx Q _ R1 (rv.rn R1 h1) (fun d u F' H' R' s r q => hq d _ _ _ _ R' (tr s1 s) r q) q1
def isBl (Q : Bool → Prop) : Rv → Prop
  | .val (.bl b) => Q b
  | _ => False
def isInt (Q : Int → Prop) : Rv → Prop
  | .val (.int b) => Q b
  | _ => False
theorem isBl_is {Q : Bool → Prop} : ∀ {r : Rv}, isBl Q r → ∃ b, r = .val (.bl b) ∧ Q b
  | .val (.bl b), h => ⟨b, rfl, h⟩
theorem isInt_is {Q : Int → Prop} : ∀ {r : Rv}, isInt Q r → ∃ b, r = .val (.int b) ∧ Q b
  | .val (.int b), h => ⟨b, rfl, h⟩
def qTest (pe : QE) : QT := fun ρ Q => pe ρ fun r ρ' => isBl (fun b => Q b ρ') r
theorem li_tB {X : Sx} {te : TE} {pe : QE} (h : LiE X te pe) : LiT X (tB te) (qTest pe) := by
  intro c hX σ F H ρ Q Q3 R hq hp
  refine h c hX σ F H ρ _ _ R ?_ hp
  intro r ρ' v F' H' R' s rv q
  obtain ⟨b, rfl, q⟩ := isBl_is q
  exact ⟨b, rv, hq b ρ' F' H' R' s q⟩
theorem li_test {X : Sx} {te : TE} {pe : QE} (h : LiE X te pe) : LiT X (tTest te) (qTest pe) := li_tB h
def qOr (p q : QT) : QT := fun ρ Q => p ρ fun b ρ1 => if b = true then Q true ρ1 else q ρ1 Q
theorem li_or {X : Sx} {t u : TT} {p q : QT} (h1 : LiT X t p) (h2 : LiT X u q) : LiT X (tOr t u) (qOr p q) := by
  intro c hX σ F H ρ Q Q3 R hq hp
  refine h1 c hX σ F H ρ _ _ R ?_ hp
  intro b ρ1 F1 H1 R1 s1 q1
  cases b with
  | true => exact hq true ρ1 F1 H1 R1 s1 q1
  | false => exact h2 c hX σ F1 H1 ρ1 _ _ R1 (fun b ρ2 F2 H2 R2 s2 q2 => hq b ρ2 F2 H2 R2 (tr s1 s2) q2) q1
def qNoPart : QO := fun ρ Q => Q none ρ
def qPart (pe : QE) : QO := fun ρ Q => pe ρ fun r ρ' => isInt (fun i => Q (some i) ρ') r
theorem li_nopart {X : Sx} : LiO X tNoPart qNoPart := by
  intro c hX σ F H ρ Q Q3 R hq hp
  exact hq _ ρ F H R (Same.refl F) hp
theorem li_part {X : Sx} {te : TE} {pe : QE} (h : LiE X te pe) : LiO X (tPart te) (qPart pe) := by
  intro c hX σ F H ρ Q Q3 R hq hp
  refine h c hX σ F H ρ _ _ R ?_ hp
  intro r ρ1 v F1 H1 R1 s1 rv q1
  obtain ⟨k, rfl, q1⟩ := isInt_is q1
  exact ⟨k, rv, hq _ ρ1 F1 H1 R1 s1 q1⟩
def LiSlN (X : Sx) (r : V → Option Int → Option Int → Hp → VK → Prop) (r3 : D → Option Int → Option Int → (List D → Prop) → Prop) : Prop := ∀ (c : Ct), c.X = X → ∀ (σ : L2.St) (F H : Hp) (ρ : PSt) (x : V) (dx : D) (lo hi : Option Int) (Q : VK) (Q3 : List D → Prop), Rel c F H σ ρ → Rn c.K F H dx x →
  (∀ d p F' H', Rel c F' H' σ ρ → Same F F' → NewL c F' H' σ ρ p d → Q3 d → Q (.ref p) H') → r3 dx lo hi Q3 → r x lo hi H Q
def qSlN (r3 : D → Option Int → Option Int → (List D → Prop) → Prop) (pe : QE) (pl ph : QO) : QN := fun ρ Q => pe ρ fun x ρ1 => pl ρ1 fun lo ρ2 => ph ρ2 fun hi ρ3 => some1 (fun dx => r3 dx lo hi fun d => Q d ρ3) (rdR ρ3 x)
theorem li_slN {X : Sx} {r : V → Option Int → Option Int → Hp → VK → Prop} {r3 : D → Option Int → Option Int → (List D → Prop) → Prop} {te : TE} {tl th : TO} {pe : QE} {pl ph : QO} (hr : LiSlN X r r3) (h1 : LiE X te pe) (h2 : LiO X tl pl) (h3 : LiO X th ph) : LiN X (L2.tSl r te tl th) (qSlN r3 pe pl ph) := by
  intro c hX σ F H ρ Q Q3 R hq hp
  refine h1 c hX σ F H ρ _ _ R ?_ hp
  intro x ρ1 v F1 H1 R1 s1 rv q1
  refine h2 c hX σ F1 H1 ρ1 _ _ R1 ?_ q1
  intro lo ρ2 F2 H2 R2 s2 q2
  refine h3 c hX σ F2 H2 ρ2 _ _ R2 ?_ q2
  intro hi ρ3 F3 H3 R3 s3 q3
  cases hx : rdR ρ3 x with
  | none => rw [hx] at q3; exact q3.elim
  | some dx =>
    rw [hx] at q3
    exact hr c hX σ F3 H3 ρ3 v dx lo hi Q _ R3 (((rv.mono s2).mono s3).rn R3 hx) (fun d u F' H' R' s r q => hq d _ _ _ _ R' (tr (tr (tr s1 s2) s3) s) r q) q3
end L3
namespace L3
open PySem PySem.Spec PyProof.Rows L2 TB LamX
open C8 (tCut)
def gqName (i : Nat) : QG := fun d ρ Q => Q (ρ.set i (.val d))
def gqNil : QGs := fun ds ρ Q => ds = [] ∧ Q ρ
def gqCons (g : QG) (gs : QGs) : QGs := fun ds ρ Q => ∃ d r, ds = d :: r ∧ g d ρ fun ρ' => gs r ρ' Q
def gqTup (n : Nat) (gs : QGs) : QG := fun d ρ Q => ∃ ds, d = .tup ds ∧ ds.length = n ∧ gs ds ρ Q
section
variable {X : Sx}
theorem lg_name {i : Nat} : LiG X (gName i) (gqName i) [i] := by
  intro c hX σ F H ρ d v R Q3 Re h hq hp
  refine hq _ _ F H (Re.setVal (i := i) h) (Same.refl F) (List.length_set) (fun j hj => ?_) hp
  rw [List.getElem?_set_ne (fun e => hj (by rw [e]; exact List.mem_singleton.mpr rfl))]
theorem lg_nil : LiGs X gNil gqNil [] := by
  intro c hX σ F H ρ ds vs R Q3 Re h hq hp
  obtain ⟨rfl, q⟩ := hp
  have e : vs = [] := h
  exact ⟨e, hq _ _ F H Re (Same.refl F) rfl (fun _ _ => rfl) q⟩
theorem lg_cons {g : TG} {gs : TGs} {p : QG} {ps : QGs} {t1 t2 : List Nat} (h1 : LiG X g p t1) (h2 : LiGs X gs ps t2) : LiGs X (gCons g gs) (gqCons p ps) (t1 ++ t2) := by
  intro c hX σ F H ρ ds vs R Q3 Re h hq hp
  obtain ⟨d, r, rfl, q⟩ := hp
  obtain ⟨v, ws, rfl, k1, k2⟩ := h
  refine ⟨v, ws, rfl, ?_⟩
  refine h1 c hX σ F H ρ d v _ _ Re k1 ?_ q
  intro ρ1 σ1 F1 H1 R1 s1 l1 e1 q1
  refine h2 c hX σ1 F1 H1 ρ1 r ws _ _ R1 (k2.mono s1) ?_ q1
  intro ρ2 σ2 F2 H2 R2 s2 l2 e2 q2
  refine hq ρ2 σ2 F2 H2 R2 (tr s1 s2) (l2.trans l1) (fun i hi => ?_) q2
  rw [e2 i (fun z => hi (List.mem_append_right _ z)), e1 i (fun z => hi (List.mem_append_left _ z))]
theorem lg_tup {n : Nat} {gs : TGs} {ps : QGs} {t : List Nat} (h1 : LiGs X gs ps t) : LiG X (gTup X.K n gs) (gqTup n ps) t := by
  intro c hX σ F H ρ d v R Q3 Re h hq hp
  obtain ⟨ds, rfl, hn, q⟩ := hp
  obtain ⟨a, vs, rfl, sq, r⟩ := h
  subst hX
  exact ⟨a, vs, rfl, sqT_mono Re.sub sq, by rw [r.len]; exact hn, h1 c rfl σ F H ρ ds vs R Q3 Re r hq q⟩
def sNext : QS := fun P ρ => P.nx ρ
def sSeq (p q : QS) : QS := fun P ρ => p { P with nx := q P } ρ
def sDrop (pe : QE) : QS := fun P ρ => pe ρ fun _ ρ' => P.nx ρ'
def sRet (pd : QD) : QS := fun P ρ => pd ρ fun d ρ' => P.rt (.val d) ρ'
def sRetNew (pn : QN) : QS := fun P ρ => pn ρ fun ds ρ' => P.rt (.new ds) ρ'
def retP (ρ : PSt) (i : Nat) (P : PEnds) : Option PV → Prop
  | some (.val d) => P.rt (.val d) ρ
  | some (.own true ds) => P.rt (.new ds) (ρ.set i .un)
  | _ => False
def sRetV (i : Nat) : QS := fun P ρ => retP ρ i P ρ[i]?
def sIf (pt : QT) (p q : QS) : QS := fun P ρ => pt ρ fun b ρ1 => if b = true then p P ρ1 else q P ρ1
def sAsg (pd : QD) (g : QG) : QS := fun P ρ => pd ρ fun d ρ1 => g d ρ1 P.nx
def sOwn (pn : QN) (i : Nat) : QS := fun P ρ => pn ρ fun ds ρ1 => P.nx (ρ1.set i (.own true ds))
/-- the reading of an assignment to a name whose list will be changed -/
def tAsgN (te : TE) (i : Nat) : TS := tAsg te (gName i)
theorem ls_next : LiS X tNext sNext := fun c hX σ F H ρ D P R a h => a.nx σ F H ρ R (Same.refl F) h
theorem ls_never : LiS X tNever (fun _ _ => False) := fun c hX σ F H ρ D P R a h => h.elim
theorem ls_seq {t u : TS} {p q : QS} (h1 : LiS X t p) (h2 : LiS X u q) : LiS X (tSeq t u) (sSeq p q) := by
  intro c hX σ F H ρ D P R a h
  exact h1 c hX σ F H ρ _ { P with nx := q P } R ⟨fun σ' F' H' ρ' R' s z => h2 c hX σ' F' H' ρ' D P R' (a.mono s) z, a.rt, a.bk, a.ct⟩ h
theorem ls_drop {te : TE} {pe : QE} (h1 : LiE X te pe) : LiS X (tDrop te) (sDrop pe) := by
  intro c hX σ F H ρ D P R a h
  exact h1 c hX σ F H ρ _ _ R (fun r ρ' v F' H' R' s rv q => a.nx σ F' H' ρ' R' s q) h
theorem ls_ret {te : TE} {pd : QD} (h1 : LiD X te pd) : LiS X (tRet te) (sRet pd) := by
  intro c hX σ F H ρ D P R a h
  exact h1 c hX σ F H ρ _ _ R (fun d ρ' v F' H' R' s rv q => a.rt σ F' H' ρ' v (.val d) R' s rv q) h
theorem ls_retNew {te : TE} {pn : QN} (h1 : LiN X te pn) : LiS X (tRet te) (sRetNew pn) := by
  intro c hX σ F H ρ D P R a h
  exact h1 c hX σ F H ρ _ _ R (fun ds ρ' p F' H' R' s rv q => a.rt σ F' H' ρ' (.ref p) (.new ds) R' s ⟨p, rfl, rv⟩ q) h
theorem ls_retV {i : Nat} : LiS X (tRet (tVar i)) (sRetV i) := by
  intro c hX σ F H ρ D P R a h
  have h : retP ρ i P ρ[i]? := h
  cases hi : ρ[i]? with
  | none => rw [hi] at h; exact h.elim
  | some pv =>
    rw [hi] at h
    match pv, hi, h with
    | .un, hi, h => exact h.elim
    | .val d, hi, h =>
      obtain ⟨v, e, r⟩ := R.slot i _ hi
      exact ⟨v, e, a.rt σ F H ρ v (.val d) R (Same.refl F) r h⟩
    | .own false ds, hi, h => exact h.elim
    | .own true ds, hi, h =>
      obtain ⟨p, vs, e, hF, hp, hr, hN, hb⟩ := R.slot i _ hi
      refine ⟨.ref p, e, a.rt σ F H (ρ.set i .un) (.ref p) (.new ds) (R.forget i) (Same.refl F) ⟨p, rfl, ⟨vs, hp, hr⟩, hF, hN.1 rfl, hb.elim (fun z => Or.inr ⟨z, hN.1 rfl⟩) Or.inl, fun j f2 d2 h2 e2 => ?_⟩ h⟩
      by_cases q : i = j
      · subst q
        have hl := (List.getElem?_eq_some_iff.mp h2).1
        rw [List.length_set] at hl
        rw [List.getElem?_set_self hl] at h2
        exact nomatch h2
      · rw [List.getElem?_set_ne q] at h2
        exact q (R.sep i j _ _ _ _ p hi h2 e e2)
theorem ls_if {tc : TT} {t u : TS} {pt : QT} {p q : QS} (h0 : LiT X tc pt) (h1 : LiS X t p) (h2 : LiS X u q) : LiS X (tIfS tc t u) (sIf pt p q) := by
  intro c hX σ F H ρ D P R a h
  refine h0 c hX σ F H ρ _ _ R ?_ h
  intro b ρ' F' H' R' s q
  cases b with
  | true => exact h1 c hX σ F' H' ρ' D P R' (a.mono s) q
  | false => exact h2 c hX σ F' H' ρ' D P R' (a.mono s) q
theorem ls_asg {te : TE} {g : TG} {pd : QD} {pg : QG} {t : List Nat} (h1 : LiD X te pd) (h2 : LiG X g pg t) : LiS X (tAsg te g) (sAsg pd pg) := by
  intro c hX σ F H ρ D P R a h
  refine h1 c hX σ F H ρ _ _ R ?_ h
  intro d ρ' v F' H' R' s rv q
  exact h2 c hX σ F' H' ρ' d v _ _ R' rv (fun ρ2 σ2 F2 H2 R2 s2 _ _ q2 => a.nx σ2 F2 H2 ρ2 R2 (tr s s2) q2) q
theorem ls_own {te : TE} {i : Nat} {pn : QN} (h1 : LiN X te pn) : LiS X (tAsgN te i) (sOwn pn i) := by
  intro c hX σ F H ρ D P R a h
  refine h1 c hX σ F H ρ _ _ R ?_ h
  intro ds ρ' p F' H' R' s n q
  obtain ⟨vs, hp, hr⟩ := n.l
  exact a.nx _ F' H' _ (R'.setOwn hp n.f hr n.n n.b2 n.o) s q
def ForP (ds : List D) (g : QG) (p : QS) (P : PEnds) (ρ : PSt) : Prop := ∃ W : Nat → PSt → Prop, W 0 ρ ∧ ∀ i ρ, W i ρ → (ds[i]? = none → P.nx ρ) ∧ ∀ d, ds[i]? = some d → g d ρ fun ρ1 => p { P with nx := W (i + 1), ct := W (i + 1), bk := P.nx } ρ1
def sFor (pi : QI) (g : QG) (p : QS) : QS := fun P ρ => pi ρ fun ds ρ1 => ForP ds g p P ρ1
theorem ls_for {wi : TI} {g : TG} {tb : TS} {pi : QI} {pg : QG} {p : QS} {t : List Nat} (h0 : LiI X wi pi) (h1 : LiG X g pg t) (h2 : LiS X tb p) : LiS X (tFor wi g tb) (sFor pi pg p) := by
  intro c hX σ F H ρ D P R a h
  refine h0 c hX σ F H ρ _ _ R ?_ h
  rintro ds ρ1 J F1 H1 R1 s1 wd ⟨W, w0, turn⟩
  refine ⟨fun i m σ' H' => m = ds.length - i ∧ ∃ F' ρ', Rel c F' H' σ' ρ' ∧ Same F1 F' ∧ W i ρ', ⟨_, rfl, F1, ρ1, R1, Same.refl F1, w0⟩, ?_⟩
  rintro i m σ2 H2 ⟨rfl, F2, ρ2, R2, s2, q2⟩
  obtain ⟨w1, w2⟩ := wd i c σ2 ρ2 F2 H2 hX s2 R2
  obtain ⟨t1, t2⟩ := turn i ρ2 q2
  cases e1 : ds[i]? with
  | none => exact Or.inl ⟨w2 e1, a.nx σ2 F2 H2 ρ2 R2 (tr s1 s2) (t1 e1)⟩
  | some d =>
    obtain ⟨go, yl⟩ := w1 d e1
    have hlt := (List.getElem?_eq_some_iff.mp e1).1
    refine Or.inr ⟨go, fun σ' H' => ∃ F' ρ', Rel c F' H' σ' ρ' ∧ Same F1 F' ∧ W (i + 1) ρ', fun σ' H' ⟨F', ρ', R', s', q'⟩ => ⟨ds.length - (i + 1), by omega, rfl, F', ρ', R', s', q'⟩, ?_⟩
    intro x H3 hy
    obtain ⟨_, F3, R3, s3, rp⟩ := yl x H3 hy
    refine h1 c hX σ2 F3 H3 ρ2 d x _ _ R3 (by rw [← hX] at rp; exact rp) ?_ (t2 d e1)
    intro ρ4 σ4 F4 H4 R4 s4 _ _ q4
    have sA : Same F F4 := tr (tr (tr s1 s2) s3) s4
    refine h2 c hX σ4 F4 H4 ρ4 _ _ R4 ⟨?_, ?_, ?_, ?_⟩ q4
    · intro σ' F' H' ρ' R' s' q'
      exact ⟨F', ρ', R', tr (tr (tr s2 s3) s4) s', q'⟩
    · intro σ' F' H' ρ' v r R' s' ro q'
      exact a.rt σ' F' H' ρ' v r R' (tr sA s') ro q'
    · intro σ' F' H' ρ' R' s' q'
      exact a.nx σ' F' H' ρ' R' (tr sA s') q'
    · intro σ' F' H' ρ' R' s' q'
      exact ⟨F', ρ', R', tr (tr (tr s2 s3) s4) s', q'⟩
def iqSeq (pe : QE) : QI := fun ρ Q => qEsc pe ρ fun d ρ' => ∃ ds, d = .lst ds ∧ Q ds ρ'
theorem wd_list {a : Addr} {vs : List V} {ds : List D} {F : Hp} (h : SqL X.K F a vs) (r : RpL X.K F ds vs) : Wd X (Itl X.K a) F ds := by
  intro i c' σ ρ F1 H1 hX s R
  have hs := sqL_mono (tr s R.sub) h
  refine ⟨fun d e => ?_, fun e => ?_⟩
  · obtain ⟨v, e2, rp⟩ := r.get' e
    refine ⟨⟨vs, v, hs, e2⟩, ?_⟩
    rintro x H' ⟨rfl, hx⟩
    have ex := hx vs hs
    rw [e2] at ex
    obtain rfl := Option.some.inj ex
    exact ⟨Same.refl _, F1, R, Same.refl _, rp.mono s⟩
  · refine ⟨vs, hs, ?_⟩
    rw [r.len]
    exact List.getElem?_eq_none_iff.mp e
theorem wd_range {lo : Int} {n : Nat} {F : Hp} : Wd X (Itr lo n) F ((List.range n).map fun (i : Nat) => D.int (lo + i)) := by
  intro i c' σ ρ F1 H1 hX s R
  refine ⟨fun d e => ?_, fun e => ?_⟩
  · have hl := (List.getElem?_eq_some_iff.mp e).1
    rw [List.length_map, List.length_range] at hl
    rw [List.getElem?_map, List.getElem?_range hl] at e
    obtain rfl := Option.some.inj e
    refine ⟨hl, ?_⟩
    rintro x H' ⟨rfl, rfl⟩
    exact ⟨Same.refl _, F1, R, Same.refl _, rfl⟩
  · have := List.getElem?_eq_none_iff.mp e
    rw [List.length_map, List.length_range] at this
    exact this
theorem wd_enum {a : Addr} {vs : List V} {ds : List D} {F : Hp} (h : SqL X.K F a vs) (r : RpL X.K F ds vs) : Wd X (Ite X.K a) F (ds.zipIdx.map fun p => D.tup [.int (p.2 : Nat), p.1]) := by
  intro i c' σ ρ F1 H1 hX s R
  have hs := sqL_mono (tr s R.sub) h
  refine ⟨fun d e => ?_, fun e => ?_⟩
  · rw [List.getElem?_map, List.getElem?_zipIdx] at e
    cases e3 : ds[i]? with
    | none => rw [e3] at e; exact nomatch e
    | some d0 =>
      rw [e3] at e
      obtain rfl := Option.some.inj e
      obtain ⟨v, e2, rp⟩ := r.get' e3
      refine ⟨⟨vs, v, hs, e2⟩, ?_⟩
      rintro x H' ⟨T, y, rfl, nT, rfl, hx⟩
      have ex := hx vs hs
      rw [e2] at ex
      obtain rfl := Option.some.inj ex
      have sF : Same F1 (upd F1 T (.tup [.int (i : Nat), v])) := fun _ _ e => old_upd (R.fnone nT) e
      refine ⟨fun _ _ e => old_upd nT e, _, R.alloc nT trivial, sF, T, _, rfl, sqT_of upd_same, ?_⟩
      refine ⟨_, _, rfl, ?_, _, _, rfl, (rp.mono s).mono sF, rfl⟩
      show V.int _ = V.int _
      rw [Nat.zero_add]
  · refine ⟨vs, hs, ?_⟩
    rw [r.len]
    have := List.getElem?_eq_none_iff.mp e
    rw [List.length_map, List.length_zipIdx] at this
    exact this
theorem lii_list {te : TE} {pe : QE} (h1 : LiE X te pe) : LiI X (iList X.K te) (iqSeq pe) := by
  intro c hX σ F H ρ R Q3 Re hq hp
  refine li_esc h1 c hX σ F H ρ _ _ Re ?_ hp
  rintro d ρ' v F' H' R' s rp ⟨ds, rfl, q⟩
  subst hX
  obtain ⟨a, vs, rfl, sq, r⟩ := rp
  exact ⟨a, rfl, ⟨vs, sqL_of (R'.sub _ _ sq)⟩, hq ds ρ' _ F' H' R' s (wd_list (sqL_of sq) r) q⟩
def iqEnum (pa : QAD) : QI := fun ρ Q => pa ρ fun as ρ' => ∃ ds, as = [.lst ds] ∧ Q (ds.zipIdx.map fun p => D.tup [.int (p.2 : Nat), p.1]) ρ'
theorem lii_enum {ta : TA} {pa : QAD} (h1 : LiAD X ta pa) : LiI X (iEnum X.K ta) (iqEnum pa) := by
  intro c hX σ F H ρ R Q3 Re hq hp
  refine h1 c hX σ F H ρ _ _ Re ?_ hp
  rintro ds ρ' vs F' H' R' s rp ⟨es, rfl, q⟩
  subst hX
  obtain ⟨v, t, rfl, ⟨a, ws, rfl, sq, r⟩, e⟩ := rp
  obtain rfl : t = [] := e
  exact ⟨a, ws, rfl, sqL_of (R'.sub _ _ sq), hq _ ρ' _ F' H' R' s (wd_enum (sqL_of sq) r) q⟩
def iqRng1 (pa : QA) : QI := fun ρ Q => pa ρ fun as ρ' => ∃ j : Int, rdL ρ' as = some [.int j] ∧ -(2 ^ 62) ≤ j ∧ j < 2 ^ 62 ∧ Q ((List.range j.toNat).map fun (i : Nat) => D.int (0 + i)) ρ'
theorem lii_rng1 {ta : TA} {pa : QA} (h1 : LiA X ta pa) : LiI X (iRng1 ta) (iqRng1 pa) := by
  intro c hX σ F H ρ R Q3 Re hq hp
  refine h1 c hX σ F H ρ _ _ Re ?_ hp
  rintro rs ρ' vs F' H' R' s rv ⟨j, e, b1, b2, q⟩
  obtain ⟨v, t, rfl, r1, r2⟩ := rv.rn R' e
  obtain rfl : t = [] := r2
  obtain rfl : v = .int j := r1
  exact ⟨j, rfl, b1, b2, hq _ ρ' _ F' H' R' s wd_range q⟩
end
end L3
namespace L3
open PySem PySem.Spec PyProof.Rows L2 TB LamX
def wipeP (ρ : PSt) : List Nat → PSt
  | [] => ρ
  | v :: vs => (wipeP ρ vs).set v .un
def dropO : Option PV → PV
  | some (.val d) => .val d
  | _ => .un
def backP (ρ ρ' : PSt) : List Nat → PSt
  | [] => ρ'
  | v :: vs => (backP ρ ρ' vs).set v (dropO ρ[v]?)
theorem wipeP_len (ρ : PSt) : ∀ vs, (wipeP ρ vs).length = ρ.length
  | [] => rfl
  | v :: vs => by rw [wipeP, List.length_set, wipeP_len ρ vs]
theorem backP_len (ρ ρ' : PSt) : ∀ vs, (backP ρ ρ' vs).length = ρ'.length
  | [] => rfl
  | v :: vs => by rw [backP, List.length_set, backP_len ρ ρ' vs]
theorem wipeP_get {ρ : PSt} {i : Nat} {pv : PV} : ∀ {vs : List Nat}, (wipeP ρ vs)[i]? = some pv → pv = .un ∨ (ρ[i]? = some pv ∧ i ∉ vs)
  | [], h => Or.inr ⟨h, by simp⟩
  | v :: vs, h => by
    unfold wipeP at h
    by_cases hi : v = i
    · subst hi
      by_cases hv : v < (wipeP ρ vs).length
      · rw [List.getElem?_set_self hv] at h
        exact Or.inl (Option.some.inj h).symm
      · rw [List.getElem?_eq_none (by simpa using hv)] at h; cases h
    · rw [List.getElem?_set_ne hi] at h
      rcases wipeP_get h with e | ⟨h1, h2⟩
      · exact Or.inl e
      · exact Or.inr ⟨h1, by simp only [List.mem_cons, not_or]; exact ⟨fun e => hi e.symm, h2⟩⟩
theorem backP_get {ρ ρ' : PSt} {i : Nat} {pv : PV} : ∀ {vs : List Nat}, (backP ρ ρ' vs)[i]? = some pv → (i ∈ vs ∧ pv = dropO ρ[i]?) ∨ (ρ'[i]? = some pv ∧ i ∉ vs)
  | [], h => Or.inr ⟨h, by simp⟩
  | v :: vs, h => by
    unfold backP at h
    by_cases hi : v = i
    · subst hi
      by_cases hv : v < (backP ρ ρ' vs).length
      · rw [List.getElem?_set_self hv] at h
        exact Or.inl ⟨List.mem_cons_self, (Option.some.inj h).symm⟩
      · rw [List.getElem?_eq_none (by simpa using hv)] at h; cases h
    · rw [List.getElem?_set_ne hi] at h
      rcases backP_get h with ⟨e1, e2⟩ | ⟨h1, h2⟩
      · exact Or.inl ⟨List.mem_cons_of_mem _ e1, e2⟩
      · exact Or.inr ⟨h1, by simp only [List.mem_cons, not_or]; exact ⟨fun e => hi e.symm, h2⟩⟩
theorem wipe_out' {σ : L2.St} {i : Nat} : ∀ {vs : List Nat}, i ∉ vs → (wipe σ vs)[i]? = σ[i]?
  | [], _ => rfl
  | v :: vs, h => by
    unfold wipe
    rw [List.getElem?_set_ne (fun e => h (by rw [e]; exact List.mem_cons_self))]
    exact wipe_out' (fun e => h (List.mem_cons_of_mem _ e))
theorem wipe_in {σ : L2.St} {i : Nat} : ∀ {vs : List Nat}, i ∈ vs → i < σ.length → (wipe σ vs)[i]? = some none
  | [], h, _ => nomatch h
  | v :: vs, h, hl => by
    unfold wipe
    by_cases e : v = i
    · subst e
      rw [List.getElem?_set_self (by rw [wipe_length]; exact hl)]
    · rw [List.getElem?_set_ne e]
      exact wipe_in ((List.mem_cons.mp h).resolve_left (fun z => e z.symm)) hl
/-- slots apart from vs alike -/
theorem wipe_eq {σ σ' : L2.St} {vs : List Nat} (hl : σ'.length = σ.length) (h : ∀ i, i ∉ vs → σ'[i]? = (wipe σ vs)[i]?) : wipe σ' vs = wipe σ vs := by
  apply List.ext_getElem?
  intro i
  by_cases hi : i ∈ vs
  · by_cases hb : i < σ.length
    · rw [wipe_in hi (by rw [hl]; exact hb), wipe_in hi hb]
    · rw [List.getElem?_eq_none (by rw [wipe_length, hl]; omega), List.getElem?_eq_none (by rw [wipe_length]; omega)]
  · rw [wipe_out' hi]
    exact h i hi
section
variable {X : Sx} {c : Ct} {F H F' H' : Hp} {σ : L2.St} {ρ : PSt}
theorem Rel.wipe (R : Rel c F H σ ρ) (vs : List Nat) : Rel c F H (L2.wipe σ vs) (wipeP ρ vs) := by
  refine ⟨by rw [wipe_length, wipeP_len]; exact R.len, R.sub, fun i pv h => ?_, fun i j f1 o1 f2 o2 p h1 h2 e1 e2 => ?_, R.nt, R.tab, R.tabF, R.fr, R.kp, R.dom, R.nw, R.new⟩
  · rcases wipeP_get h with rfl | ⟨h1, h2⟩
    · exact trivial
    · rw [wipe_out' h2]
      exact R.slot i pv h1
  · rcases wipeP_get h1 with e | ⟨h3, h4⟩
    · exact nomatch e
    · rcases wipeP_get h2 with e | ⟨h5, h6⟩
      · exact nomatch e
      · rw [wipe_out' h4] at e1
        rw [wipe_out' h6] at e2
        exact R.sep i j _ _ _ _ p h3 h5 e1 e2
theorem Rel.backS {σ2 : L2.St} {ρ2 : PSt} {vs : List Nat} (R : Rel c F H σ ρ) (s : Same F F') (R2 : Rel c F' H' σ2 ρ2) (hw : L2.wipe σ2 vs = L2.wipe σ vs) : Rel c F' H' σ (backP ρ ρ2 vs) := by
  have hl : σ2.length = σ.length := by
    have := congrArg List.length hw
    rw [wipe_length, wipe_length] at this
    exact this
  have hs : ∀ i, i ∉ vs → σ2[i]? = σ[i]? := fun i hi => by
    have : (L2.wipe σ2 vs)[i]? = (L2.wipe σ vs)[i]? := by rw [hw]
    rw [wipe_out' hi, wipe_out' hi] at this
    exact this
  refine ⟨by rw [backP_len, ← R2.len]; exact hl.symm, R2.sub, fun i pv h => ?_, fun i j f1 o1 f2 o2 p h1 h2 e1 e2 => ?_, R2.nt, R2.tab, R2.tabF, R2.fr, R2.kp, R2.dom, R2.nw, R2.new⟩
  · rcases backP_get h with ⟨hi, rfl⟩ | ⟨h1, h2⟩
    · cases e : ρ[i]? with
      | none => exact trivial
      | some q =>
        match q, e with
        | .un, _ => exact trivial
        | .own _ _, _ => exact trivial
        | .val d, e =>
          obtain ⟨v, e1, r⟩ := R.slot i _ e
          exact ⟨v, e1, r.mono s⟩
    · rw [← hs i h2]
      exact R2.slot i pv h1
  · have g : ∀ (i : Nat) (f : Bool) (o : List D), (backP ρ ρ2 vs)[i]? = some (PV.own f o) → ρ2[i]? = some (PV.own f o) ∧ i ∉ vs := by
      intro i f o h
      rcases backP_get h with ⟨hi, e⟩ | z
      · cases e2 : ρ[i]? with
        | none => rw [e2] at e; exact nomatch e
        | some q =>
          rw [e2] at e
          cases q <;> exact nomatch e
      · exact z
    obtain ⟨g1, n1⟩ := g _ _ _ h1
    obtain ⟨g2, n2⟩ := g _ _ _ h2
    rw [← hs i n1] at e1
    rw [← hs j n2] at e2
    exact R2.sep i j _ _ _ _ p g1 g2 e1 e2
def LcP (ds : List D) (g : QG) (pt : QT) (pe : QD) (vs : List Nat) (ρ0 : PSt) (Q : List D → PSt → Prop) : Prop := ∃ W : Nat → List D → PSt → Prop, W 0 [] ρ0 ∧ ∀ i acc ρ, W i acc ρ → (ds[i]? = none → Q acc ρ) ∧
  ∀ d, ds[i]? = some d → g d (wipeP ρ vs) fun ρ2 => pt ρ2 fun b ρ3 => if b = true then pe ρ3 fun e ρ4 => acc.length < sizeLine ∧ W (i + 1) (acc ++ [e]) (backP ρ ρ4 vs) else W (i + 1) acc (backP ρ ρ3 vs)
def qLc (pi : QI) (g : QG) (pt : QT) (pe : QD) (vs : List Nat) : QN := fun ρ Q => pi ρ fun ds ρ1 => LcP ds g pt pe vs ρ1 Q
theorem li_lc {wi : TI} {g : TG} {tt : TT} {te : TE} {vs : List Nat} {pi : QI} {pg : QG} {pt : QT} {pe : QD} {t : List Nat} (h0 : LiI X wi pi) (h1 : LiG X g pg t) (h2 : LiT X tt pt) (h3 : LiD X te pe) (ht : ∀ i ∈ t, i ∈ vs) : LiN X (tLc wi g tt te vs) (qLc pi pg pt pe vs) := by
  intro c hX σ F H ρ Q Q3 R hq h
  refine h0 c hX σ F H ρ _ _ R ?_ h
  rintro ds ρ1 J F1 H1 R1 s1 wd ⟨W, w0, turn⟩
  intro A nA
  obtain ⟨RA, nwA⟩ := NewL.made (vs := []) (ds := []) R1 nA rfl
  refine ⟨fun i m H' => m = ds.length - i ∧ ∃ F' ρ' acc, Rel c F' H' σ ρ' ∧ Same F1 F' ∧ NewL c F' H' σ ρ' A acc ∧ W i acc ρ', ⟨_, rfl, F1, ρ1, [], RA, Same.refl F1, nwA, w0⟩, ?_⟩
  rintro i m H2 ⟨rfl, F2, ρ2, acc, R2, s2, n2, w2⟩
  have nobA : A ∉ ownB σ ρ2 := by
    intro z
    obtain ⟨j, f, o, g1, g2⟩ := mem_ownB.mp z
    exact n2.o j f o g1 g2
  have R2h := R2.here
  have hXh : (c.at F2 H2 (ownB σ ρ2)).X = X := hX
  obtain ⟨ws, hA2, rA2⟩ := n2.l
  have ntb : NoTb c A := R2.notab hA2 (fun ps => by simp)
  obtain ⟨d1, d2⟩ := wd i _ σ ρ2 F2 H2 hXh s2 R2h
  obtain ⟨t1, t2⟩ := turn i acc ρ2 w2
  cases e1 : ds[i]? with
  | none => exact Or.inl ⟨d2 e1, hq acc ρ2 A F2 H2 R2 (tr s1 s2) n2 (t1 e1)⟩
  | some d =>
    obtain ⟨go, yl⟩ := d1 d e1
    have hlt := (List.getElem?_eq_some_iff.mp e1).1
    refine Or.inr ⟨go, fun H' => ∃ F' ρ' acc, Rel c F' H' σ ρ' ∧ Same F1 F' ∧ NewL c F' H' σ ρ' A acc ∧ W (i + 1) acc ρ', fun H' ⟨F', ρ', acc', R', s', n', w'⟩ => ⟨ds.length - (i + 1), by omega, rfl, F', ρ', acc', R', s', n', w'⟩, ?_⟩
    intro x H3 hy
    obtain ⟨sH3, F3, R3, s3, rp⟩ := yl x H3 hy
    have Rw := R3.wipe vs
    -- what holds behind an evaluation
    have after : ∀ {F4 H4 : Hp} {σ4 : L2.St} {ρ4 : PSt}, Rel (c.at F2 H2 (ownB σ ρ2)) F4 H4 σ4 ρ4 → L2.wipe σ4 vs = L2.wipe σ vs → Rel c F4 H4 σ (backP ρ2 ρ4 vs) ∧ NewL c F4 H4 σ (backP ρ2 ρ4 vs) A acc ∧ Same F2 F4 := by
      intro F4 H4 σ4 ρ4 R4 hw
      have sF : Same F2 F4 := R4.fr
      have RR := R2.backS sF (R2.trans R4) hw
      have hA4 : H4 A = some (.lst ws) := R4.kp A _ hA2 nobA ntb
      refine ⟨RR, ⟨⟨ws, hA4, rA2.mono sF⟩, ?_, n2.n, n2.b, fun j f o hj ej => ?_⟩, sF⟩
      · cases e : F4 A with
        | none => rfl
        | some o =>
          rcases R4.nw A o e with z | z | ⟨z, _⟩ | z
          · have z2 : F2 A = some o := z
            rw [n2.f] at z2
            exact nomatch z2
          · have z2 : H2 A = none := z
            rw [hA2] at z2
            exact nomatch z2
          · exact absurd z nobA
          · have z2 := R4.sub _ _ e
            rw [hA4] at z2
            cases z2
            exact z.elim
      · rcases backP_get hj with ⟨_, e⟩ | ⟨h4, h5⟩
        · cases e2 : ρ2[j]? with
          | none => rw [e2] at e; exact nomatch e
          | some q =>
            rw [e2] at e
            cases q <;> exact nomatch e
        · have e4 : σ4[j]? = some (some (.ref A)) := by
            have : (L2.wipe σ4 vs)[j]? = (L2.wipe σ vs)[j]? := by rw [hw]
            rw [wipe_out' h5, wipe_out' h5] at this
            rw [this]
            exact ej
          obtain ⟨p, us, ep, _, _, _, _, hb⟩ := R4.slot j _ h4
          rw [e4] at ep
          obtain rfl : A = p := by injection ep with ep; injection ep with ep; injection ep
          rcases hb with z | z
          · exact nobA z
          · have z2 : H2 A = none := z
            rw [hA2] at z2
            exact nomatch z2
    refine h1 _ hXh (L2.wipe σ vs) F3 H3 (wipeP ρ2 vs) d x _ _ Rw (by rw [← hX] at rp; exact rp) ?_ (t2 d e1)
    intro ρ4 σ4 F4 H4 R4 s4 l4 o4 q4
    have hw4 : L2.wipe σ4 vs = L2.wipe σ vs := by
      refine wipe_eq (by rw [l4, wipe_length]) (fun j hj => ?_)
      rw [o4 j (fun z => hj (ht j z))]
    refine ⟨hw4, ?_⟩
    refine h2 _ hXh σ4 F4 H4 ρ4 _ _ R4 ?_ q4
    intro b ρ5 F5 H5 R5 s5 q5
    cases b with
    | false =>
      obtain ⟨R6, n6, s6⟩ := after R5 hw4
      exact ⟨F5, _, acc, R6, tr s2 s6, n6, q5⟩
    | true =>
      refine h3 _ hXh σ4 F5 H5 ρ5 _ _ R5 ?_ q5
      rintro e ρ6 v F6 H6 R6 s6 rv ⟨hz, q6⟩
      obtain ⟨R7, n7, s7⟩ := after R6 hw4
      obtain ⟨us, hA7, rA7⟩ := n7.l
      have rA8 : RpL c.K F6 (acc ++ [e]) (us ++ [v]) := rA7.app ⟨v, [], rfl, rv, rfl⟩
      refine ⟨us, hA7, by rw [rA7.len]; exact hz, F6, _, acc ++ [e], R7.mutH hA7 n7.f n7.b2 n7.o, tr s2 s7, ⟨⟨us ++ [v], upd_same, rA8⟩, n7.f, n7.n, n7.b, n7.o⟩, q6⟩
abbrev PSp := List D → (Rs → Option (List D) → Prop) → Prop
def ioB (io : Option Nat) (vs : List V) : List Addr := match io with
  | none => []
  | some j => match vs[j]? with
    | some (.ref p) => [p]
    | _ => []
structure Entry (X : Sx) (io : Option Nat) (F H : Hp) (vs : List V) (ds : List D) : Prop where
  sub : Same F H
  nt : NoT H
  tab : ∀ x ∈ X.tb, TabS H x.1 x.2
  tabF : ∀ x ∈ X.tb, F x.1 = none
  len : vs.length = ds.length
  arg : ∀ (j : Nat) (d : D) (v : V), ds[j]? = some d → vs[j]? = some v → io ≠ some j → Rp X.K F d v
  ioA : ∀ j, io = some j → ∃ p ws es, vs[j]? = some (.ref p) ∧ ds[j]? = some (.lst es) ∧ F p = none ∧ H p = some (.lst ws) ∧ RpL X.K F es ws
def RsX (X : Sx) (H F' H' : Hp) : Rs → V → Prop
  | .val d, v => Rp X.K F' d v
  | .new es, v => ∃ p ws, v = .ref p ∧ F' p = none ∧ H p = none ∧ H' p = some (.lst ws) ∧ RpL X.K F' es ws
structure Exit (X : Sx) (io : Option Nat) (F H : Hp) (vs : List V) (F' H' : Hp) (r : Rs) (out : Option (List D)) (v : V) : Prop where
  step : Step X (ioB io vs) F H F' H'
  res : RsX X H F' H' r v
  out : ∀ j p, io = some j → vs[j]? = some (.ref p) → ∃ es ws, out = some es ∧ H' p = some (.lst ws) ∧ RpL X.K F' es ws
def lsp (X : Sx) (io : Option Nat) (P : PSp) : Sp := fun vs H Q _ => ∃ F ds Q3, Entry X io F H vs ds ∧ P ds Q3 ∧ ∀ r out v F' H', Exit X io F H vs F' H' r out v → Q3 r out → Q v H'
def st0 (N : List Str) (ds : List D) : PSt := ds.map PV.val ++ List.replicate (N.length - ds.length) PV.un
def own0 (ρ : PSt) (j : Nat) : Option D → PSt
  | some (.lst es) => ρ.set j (.own false es)
  | _ => ρ
def start3 (N : List Str) (ds : List D) : Option Nat → PSt
  | none => st0 N ds
  | some j => own0 (st0 N ds) j ds[j]?
def endO (Q : Option (List D) → Prop) : Option PV → Prop
  | some (.own false es) => Q (some es)
  | _ => False
def endP (io : Option Nat) (r : Rs) (ρ : PSt) (Q3 : Rs → Option (List D) → Prop) : Prop := match io with
  | none => Q3 r none
  | some j => endO (Q3 r) ρ[j]?
def ends3 (io : Option Nat) (Q3 : Rs → Option (List D) → Prop) : PEnds := { nx := fun ρ => endP io (.val .non) ρ Q3, rt := fun r ρ => endP io r ρ Q3 }
theorem Rel.empty {N : Addr → Prop} {I I' : List Addr} {F0 H0 : Hp} {B0 : List Addr} (R : Rel ⟨X, N, I, F0, H0, B0⟩ F H σ ρ) : Rel ⟨X, N, I', F0, H0, B0⟩ F H [] [] := ⟨rfl, R.sub, fun i pv h => by simp at h, fun i j f1 o1 f2 o2 p h => by simp at h, R.nt, R.tab, R.tabF, R.fr, R.kp, R.dom, R.nw, R.new⟩
theorem start_get {N : List Str} {vs : List V} {j : Nat} (h : j < vs.length) : (L2.start N vs)[j]? = (vs[j]?).map some := by
  unfold L2.start
  rw [List.getElem?_append_left (by rw [List.length_map]; exact h), List.getElem?_map]
theorem st0_get {N : List Str} {ds : List D} {j : Nat} {pv : PV} (h : (st0 N ds)[j]? = some pv) : pv = .un ∨ ∃ d, ds[j]? = some d ∧ pv = .val d := by
  unfold st0 at h
  by_cases hj : j < ds.length
  · rw [List.getElem?_append_left (by rw [List.length_map]; exact hj), List.getElem?_map] at h
    rw [List.getElem?_eq_getElem hj] at h ⊢
    exact Or.inr ⟨_, rfl, (Option.some.inj h).symm⟩
  · rw [List.getElem?_append_right (by rw [List.length_map]; omega)] at h
    exact Or.inl (List.eq_of_mem_replicate (List.mem_of_getElem? h))
theorem entry_rel {N : List Str} {io : Option Nat} {vs : List V} {ds : List D} (e : Entry X io F H vs ds) : Rel ⟨X, fun p => H p = none, ioB io vs, F, H, ioB io vs⟩ F H (L2.start N vs) (start3 N ds io) := by
  have l0 : (L2.start N vs).length = (st0 N ds).length := by
    unfold L2.start st0
    rw [List.length_append, List.length_append, List.length_map, List.length_map, List.length_replicate, List.length_replicate, e.len]
  have l1 : (start3 N ds io).length = (st0 N ds).length := by
    match io with
    | none => rfl
    | some j =>
      show (own0 (st0 N ds) j ds[j]?).length = _
      cases h : ds[j]? with
      | none => rfl
      | some d =>
        cases d <;> first
          | rfl
          | exact List.length_set
  have get : ∀ (j : Nat) (pv : PV), (start3 N ds io)[j]? = some pv → pv = .un ∨ (∃ d, ds[j]? = some d ∧ pv = .val d ∧ io ≠ some j) ∨ ∃ es, io = some j ∧ ds[j]? = some (.lst es) ∧ pv = .own false es := by
    intro j pv h
    match hio : io with
    | none =>
      rcases st0_get h with z | ⟨d, z1, z2⟩
      · exact Or.inl z
      · exact Or.inr (Or.inl ⟨d, z1, z2, (fun q => nomatch q)⟩)
    | some k =>
      obtain ⟨p, ws, es, v1, v2, _⟩ := e.ioA k rfl
      have h2 : (own0 (st0 N ds) k ds[k]?)[j]? = some pv := h
      rw [v2] at h2
      have h3 : ((st0 N ds).set k (.own false es))[j]? = some pv := h2
      by_cases q : k = j
      · subst q
        have hl := (List.getElem?_eq_some_iff.mp h3).1
        rw [List.length_set] at hl
        rw [List.getElem?_set_self hl] at h3
        exact Or.inr (Or.inr ⟨es, rfl, v2, (Option.some.inj h3).symm⟩)
      · rw [List.getElem?_set_ne q] at h3
        rcases st0_get h3 with z | ⟨d, z1, z2⟩
        · exact Or.inl z
        · exact Or.inr (Or.inl ⟨d, z1, z2, fun w => q (Option.some.inj w)⟩)
  have vget : ∀ (j : Nat) (d : D), ds[j]? = some d → ∃ v, vs[j]? = some v ∧ (L2.start N vs)[j]? = some (some v) := by
    intro j d h
    have hj : j < vs.length := by
      rw [e.len]
      exact (List.getElem?_eq_some_iff.mp h).1
    refine ⟨vs[j], List.getElem?_eq_getElem hj, ?_⟩
    rw [start_get hj, List.getElem?_eq_getElem hj]
    rfl
  refine ⟨l0.trans l1.symm, e.sub, fun j pv h => ?_, fun i j f1 o1 f2 o2 p h1 h2 e1 e2 => ?_, e.nt, e.tab, e.tabF, Same.refl F, fun b o z _ _ => z, fun b z => z, fun b o z => Or.inl z, fun p z => z⟩
  · rcases get j pv h with rfl | ⟨d, z1, rfl, z3⟩ | ⟨es, z1, z2, rfl⟩
    · exact trivial
    · obtain ⟨v, v1, v2⟩ := vget j d z1
      exact ⟨v, v2, e.arg j d v z1 v1 z3⟩
    · obtain ⟨p, ws, es', v1, v2, v3, v4, v5⟩ := e.ioA j z1
      rw [z2] at v2
      obtain rfl : es = es' := by injection v2 with v2; injection v2
      obtain ⟨v, w1, w2⟩ := vget j _ z2
      rw [v1] at w1
      obtain rfl := Option.some.inj w1
      have hin : p ∈ ioB io vs := by
        subst z1
        unfold ioB
        simp only [v1]
        exact List.mem_singleton.mpr rfl
      exact ⟨p, ws, w2, v3, v4, v5, ⟨(fun q => nomatch q), fun _ => hin⟩, Or.inl hin⟩
  · rcases get i _ h1 with z | ⟨d, _, z, _⟩ | ⟨es, z1, _, _⟩
    · exact nomatch z
    · exact nomatch z
    · rcases get j _ h2 with z | ⟨d, _, z, _⟩ | ⟨es', z3, _, _⟩
      · exact nomatch z
      · exact nomatch z
      · rw [z1] at z3
        exact Option.some.inj z3
/-- a whole def -/
theorem run3 {t : TS} {p : QS} {N : List Str} {io : Option Nat} {P : PSp} {vs : List V} {Q : VK} {E : XK} (hl : LiS X t p) (hp : ∀ ds Q3, P ds Q3 → p (ends3 io Q3) (start3 N ds io)) (h : lsp X io P vs H Q E) : t { nx := fun _ H' => Q .non H', rt := Q } (L2.start N vs) H := by
  obtain ⟨F, ds, Q3, en, hP, hQ⟩ := h
  have R := entry_rel (N := N) en
  have fin : ∀ σ' F' H' ρ' v r, Rel ⟨X, fun p => H p = none, ioB io vs, F, H, ioB io vs⟩ F' H' σ' ρ' → RsOk ⟨X, fun p => H p = none, ioB io vs, F, H, ioB io vs⟩ F' H' σ' ρ' r v → endP io r ρ' Q3 → Q v H' := by
    intro σ' F' H' ρ' v r R' ro q
    have res : RsX X H F' H' r v := by
      match r, ro with
      | .val d, ro => exact ro
      | .new es, ⟨p, e, n⟩ =>
        obtain ⟨ws, h1, h2⟩ := n.l
        exact ⟨p, ws, e, n.f, n.n, h1, h2⟩
    cases hio : io with
    | none =>
      subst hio
      exact hQ r none v F' H' ⟨R'.empty, res, (fun j p z => nomatch z)⟩ q
    | some j =>
      subst hio
      have q2 : endO (Q3 r) ρ'[j]? := q
      cases hj : ρ'[j]? with
      | none => rw [hj] at q2; exact q2.elim
      | some pv =>
        rw [hj] at q2
        match pv, hj, q2 with
        | .un, _, q2 => exact q2.elim
        | .val _, _, q2 => exact q2.elim
        | .own true _, _, q2 => exact q2.elim
        | .own false es, hj, q2 =>
          refine hQ r (some es) v F' H' ⟨R'.empty, res, fun j' p z1 z2 => ?_⟩ q2
          obtain rfl : j = j' := Option.some.inj z1
          obtain ⟨p', ws, e1, e2, e3, e4, e5, _⟩ := R'.slot j _ hj
          have e6 : p' ∈ ioB (some j) vs := e5.2 rfl
          unfold ioB at e6
          simp only [z2] at e6
          obtain rfl := List.mem_singleton.mp e6
          exact ⟨es, ws, rfl, e3, e4⟩
  refine hl _ rfl (L2.start N vs) F H (start3 N ds io) _ (ends3 io Q3) R ⟨?_, ?_, fun _ _ _ _ _ _ z => z.elim, fun _ _ _ _ _ _ z => z.elim⟩ (hp ds Q3 hP)
  · intro σ' F' H' ρ' R' _ q
    exact fin σ' F' H' ρ' .non (.val .non) R' rfl q
  · intro σ' F' H' ρ' v r R' _ ro q
    exact fin σ' F' H' ρ' v r R' ro q
theorem lsp_len {io : Option Nat} {P : PSp} {n : Nat} (h : ∀ ds Q3, P ds Q3 → ds.length = n) : ∀ vs H Q E, lsp X io P vs H Q E → vs.length = n := by
  rintro vs H Q E ⟨F, ds, Q3, en, hP, _⟩
  rw [en.len]
  exact h ds Q3 hP
def isCell : Rv → Bool
  | .cell _ => true
  | .val _ => false
def resOk (hc : Bool) : Rs → (D → Prop) → Prop
  | .val d, Q => (hc = false ∨ d.flat = true) ∧ Q d
  | .new es, Q => (hc = false ∨ ∀ e ∈ es, e.flat = true) ∧ Q (.lst es)
def qCall (P : PSp) (pa : QA) : QE := fun ρ Q => pa ρ fun rs ρ1 => some1 (fun ds => P ds fun r _ => resOk (rs.any isCell) r fun d => Q (.val d) ρ1) (rdL ρ1 rs)
/-- all own lists as they stand, for a while -/
def snap (F H : Hp) (σ : L2.St) (ρ : PSt) : Hp := open Classical in fun b => if b ∈ ownB σ ρ then H b else F b
theorem snap_sub (R : Rel c F H σ ρ) : Same F (snap F H σ ρ) := by
  intro b o e
  unfold snap
  split
  · exact R.sub _ _ e
  · exact e
theorem snap_le (R : Rel c F H σ ρ) : Same (snap F H σ ρ) H := by
  intro b o e
  unfold snap at e
  split at e
  · exact e
  · exact R.sub _ _ e
theorem snap_rp (R : Rel c F H σ ρ) {r : Rv} {v : V} {d : D} (h : RV c F σ r v) (e : rdR ρ r = some d) : Rp c.K (snap F H σ ρ) d v := by
  match r, h, e with
  | .val d', h, e =>
    obtain rfl : d' = d := Option.some.inj e
    exact Rp.mono (snap_sub R) h
  | .cell i, h, e =>
    have h2 : σ[i]? = some (some v) := h
    have e2 : rdP ρ[i]? = some d := e
    cases hi : ρ[i]? with
    | none => rw [hi] at e2; exact nomatch e2
    | some pv =>
      rw [hi] at e2
      match pv, hi, e2 with
      | .un, _, e2 => exact nomatch e2
      | .val d', hi, e2 =>
        obtain rfl : d' = d := Option.some.inj e2
        obtain ⟨w, e3, r⟩ := R.slot i _ hi
        rw [h2] at e3
        obtain rfl : v = w := Option.some.inj (Option.some.inj e3)
        exact r.mono (snap_sub R)
      | .own f ds, hi, e2 =>
        obtain rfl : D.lst ds = d := Option.some.inj e2
        obtain ⟨p, vs, e3, hF, hp, hr, _⟩ := R.slot i _ hi
        rw [h2] at e3
        obtain rfl : v = .ref p := Option.some.inj (Option.some.inj e3)
        refine ⟨p, vs, rfl, ?_, hr.mono (snap_sub R)⟩
        unfold snap
        rw [if_pos (mem_ownB.mpr ⟨i, f, ds, hi, h2⟩)]
        exact hp
theorem rdL_len {ρ : PSt} : ∀ {rs : List Rv} {ds : List D}, rdL ρ rs = some ds → rs.length = ds.length
  | [], ds, e => by
    obtain rfl : [] = ds := Option.some.inj e
    rfl
  | r :: rs, ds, e => by
    have e : cons2 (rdR ρ r) (rdL ρ rs) = some ds := e
    cases h1 : rdR ρ r with
    | none => rw [h1] at e; exact nomatch e
    | some d =>
      cases h2 : rdL ρ rs with
      | none => rw [h1, h2] at e; exact nomatch e
      | some ds' =>
        rw [h1, h2] at e
        obtain rfl : d :: ds' = ds := Option.some.inj e
        rw [List.length_cons, List.length_cons, rdL_len h2]
theorem rdL_get {ρ : PSt} : ∀ {rs : List Rv} {vs : List V} {ds : List D} {j : Nat} {d : D} {v : V}, rdL ρ rs = some ds → RVL c F σ rs vs → ds[j]? = some d → vs[j]? = some v → ∃ r, rs[j]? = some r ∧ rdR ρ r = some d ∧ RV c F σ r v
  | [], vs, ds, j, d, v, e, h, h1, h2 => by
    obtain rfl : [] = ds := Option.some.inj e
    simp at h1
  | r :: rs, vs, ds, j, d, v, e, h, h1, h2 => by
    obtain ⟨w, t, rfl, q, k⟩ := h
    have e : cons2 (rdR ρ r) (rdL ρ rs) = some ds := e
    cases g1 : rdR ρ r with
    | none => rw [g1] at e; exact nomatch e
    | some d' =>
      cases g2 : rdL ρ rs with
      | none => rw [g1, g2] at e; exact nomatch e
      | some ds' =>
        rw [g1, g2] at e
        obtain rfl : d' :: ds' = ds := Option.some.inj e
        cases j with
        | zero =>
          obtain rfl : d' = d := by simpa using h1
          obtain rfl : w = v := by simpa using h2
          exact ⟨r, rfl, g1, q⟩
        | succ j => exact rdL_get (j := j) g2 k (by simpa using h1) (by simpa using h2)
theorem RVL.len : ∀ {rs : List Rv} {vs : List V}, RVL c F σ rs vs → vs.length = rs.length
  | [], vs, h => by
    obtain rfl : vs = [] := h
    rfl
  | r :: rs, vs, h => by
    obtain ⟨w, t, rfl, q, k⟩ := h
    rw [List.length_cons, List.length_cons, RVL.len k]
theorem noCell : ∀ {rs : List Rv}, rs.any isCell = false → ∀ r ∈ rs, isCell r = false := by
  intro rs h r hr
  rw [List.any_eq_false] at h
  simpa using h r hr
/-- entering a call -/
theorem enter (R : Rel c F H σ ρ) {rs : List Rv} {vs : List V} {ds : List D} (rv : RVL c F σ rs vs) (e : rdL ρ rs = some ds) : Entry c.X none (snap F H σ ρ) H vs ds :=
  ⟨snap_le R, R.nt, R.tab, fun x hx => by
    unfold snap
    rw [if_neg, R.tabF x hx]
    intro z
    obtain ⟨i, f, o, h1, h2⟩ := mem_ownB.mp z
    obtain ⟨_, ws, l⟩ := R.ownAt h1 h2
    obtain ⟨tb, e2, _⟩ := R.tab x hx
    rw [l] at e2
    exact (nomatch e2), by rw [rv.len, rdL_len e], fun j d v h1 h2 _ => by
    obtain ⟨r, _, g1, g2⟩ := rdL_get e rv h1 h2
    exact snap_rp R g2 g1, fun j z => nomatch z⟩
theorem enterV (R : Rel c F H σ ρ) {rs : List Rv} {vs : List V} {ds : List D} (rv : RVL c F σ rs vs) (e : rdL ρ rs = some ds) (nc : rs.any isCell = false) : Entry c.X none F H vs ds :=
  ⟨R.sub, R.nt, R.tab, R.tabF, by rw [rv.len, rdL_len e], fun j d v h1 h2 _ => by
    obtain ⟨r, g0, g1, g2⟩ := rdL_get e rv h1 h2
    match r, g0, g1, g2 with
    | .val d', _, g1, g2 =>
      obtain rfl : d' = d := Option.some.inj g1
      exact g2
    | .cell i, g0, _, _ => exact (nomatch (noCell nc _ (List.mem_of_getElem? g0))), fun j z => nomatch z⟩
theorem new_of (R : Rel c F H σ ρ) (R2 : Rel c F' H' σ ρ) {p : Addr} {ws : List V} {es : List D} (hn : H p = none) (hp : H' p = some (.lst ws)) (hF : F' p = none) (hr : RpL c.K F' es ws) : NewL c F' H' σ ρ p es :=
  ⟨⟨ws, hp, hr⟩, hF, R.new p hn, Or.inl (R.dom p hn), R.noOwn hn⟩
theorem li_call {P : PSp} {ta : TA} {pa : QA} {E : XK} (h1 : LiA X ta pa) : LiE X (tCall (lsp X none P) [] E ta) (qCall P pa) := by
  intro c hX σ F H ρ Q Q3 R hq h
  subst hX
  refine h1 c rfl σ F H ρ _ _ R ?_ h
  intro rs ρ1 vs F1 H1 R1 s1 rv q1
  rw [List.append_nil]
  cases e : rdL ρ1 rs with
  | none => rw [e] at q1; exact q1.elim
  | some ds =>
    rw [e] at q1
    have q1 : P ds fun r _ => resOk (rs.any isCell) r fun d => Q3 (.val d) ρ1 := q1
    by_cases nc : rs.any isCell = false
    · refine ⟨F1, ds, _, enterV R1 rv e nc, q1, ?_⟩
      intro r out v F' H' ex q
      have R2 := Step.own ex.step R1
      match r, ex.res, q with
      | .val d, rx, ⟨_, q⟩ => exact hq (.val d) ρ1 v F' H' R2 (tr s1 ex.step.fr) rx q
      | .new es, ⟨p, ws, ev, hF, hn, hp, hr⟩, ⟨_, q⟩ =>
        subst ev
        obtain ⟨vs2, R3, s3, r3⟩ := (new_of R1 R2 hn hp hF hr).keep R2
        exact hq (.val (.lst es)) ρ1 _ _ H' R3 (tr (tr s1 ex.step.fr) s3) r3 q
    · refine ⟨_, ds, _, enter R1 rv e, q1, ?_⟩
      intro r out v F' H' ex q
      have R2 := Step.back ex.step R1
      match r, ex.res, q with
      | .val d, rx, ⟨fl, q⟩ => exact hq (.val d) ρ1 v F1 H' R2 s1 (Rp.flat (fl.resolve_left nc) rx) q
      | .new es, ⟨p, ws, ev, hF, hn, hp, hr⟩, ⟨fl, q⟩ =>
        subst ev
        obtain ⟨vs2, R3, s3, r3⟩ := (new_of R1 R2 hn hp (R1.fnone hn) (RpL.flat (fl.resolve_left nc) hr)).keep R2
        exact hq (.val (.lst es)) ρ1 _ _ H' R3 (tr s1 s3) r3 q
def ioOk (ρ : PSt) (i : Nat) (f : Bool) (Q : D → PSt → Prop) : Rs → Option (List D) → Prop
  | .val d, some es => Q d (ρ.set i (.own f es))
  | _, _ => False
def ownOf (Q : Bool → List D → Prop) : Option PV → Prop
  | some (.own f ds) => Q f ds
  | _ => False
/-- the j-th argument is the own list in slot i -/
def qCallIo (j i : Nat) (P : PSp) (pa : QA) : QE := fun ρ Q => pa ρ fun rs ρ1 => rs[j]? = some (.cell i) ∧ (∀ k r, rs[k]? = some r → k ≠ j → isCell r = false) ∧ ownOf (fun f _ => some1 (fun ds => P ds fun r out => ioOk ρ1 i f (fun d ρ2 => Q (.val d) ρ2) r out) (rdL ρ1 rs)) ρ1[i]?
theorem li_callIo {j i : Nat} {P : PSp} {ta : TA} {pa : QA} {E : XK} (h1 : LiA X ta pa) : LiE X (tCall (lsp X (some j) P) [] E ta) (qCallIo j i P pa) := by
  intro c hX σ F H ρ Q Q3 R hq h
  subst hX
  refine h1 c rfl σ F H ρ _ _ R ?_ h
  rintro rs ρ1 vs F1 H1 R1 s1 rv ⟨hj, hoth, q1⟩
  rw [List.append_nil]
  cases hi : ρ1[i]? with
  | none => rw [hi] at q1; exact q1.elim
  | some pv =>
    rw [hi] at q1
    match pv, hi, q1 with
    | .un, _, q1 => exact q1.elim
    | .val _, _, q1 => exact q1.elim
    | .own f o, hi, q1 =>
      have q1 : some1 (fun ds => P ds fun r out => ioOk ρ1 i f (fun d ρ2 => Q3 (.val d) ρ2) r out) (rdL ρ1 rs) := q1
      cases e : rdL ρ1 rs with
      | none => rw [e] at q1; exact q1.elim
      | some ds =>
        rw [e] at q1
        have q1 : P ds fun r out => ioOk ρ1 i f (fun d ρ2 => Q3 (.val d) ρ2) r out := q1
        have hjl : j < rs.length := (List.getElem?_eq_some_iff.mp hj).1
        have hvl : j < vs.length := by rw [rv.len]; exact hjl
        have hdl : j < ds.length := by rw [← rdL_len e]; exact hjl
        obtain ⟨r, g0, g1, g2⟩ := rdL_get e rv (List.getElem?_eq_getElem hdl) (List.getElem?_eq_getElem hvl)
        rw [hj] at g0
        obtain rfl := Option.some.inj g0
        obtain ⟨p, ws, ep, hF, hp, hr, hfr, hb⟩ := R1.slot i _ hi
        have g2 : σ[i]? = some (some vs[j]) := g2
        rw [ep] at g2
        have evj : vs[j] = .ref p := by
          have := Option.some.inj (Option.some.inj g2)
          exact this.symm
        have edj : ds[j] = .lst o := by
          have g1 : rdP ρ1[i]? = some ds[j] := g1
          rw [hi] at g1
          exact (Option.some.inj g1).symm
        have vj : vs[j]? = some (.ref p) := by rw [List.getElem?_eq_getElem hvl, evj]
        have iob : ioB (some j) vs = [p] := by
          unfold ioB
          simp only [vj]
        have en : Entry c.X (some j) F1 H1 vs ds := by
          refine ⟨R1.sub, R1.nt, R1.tab, R1.tabF, by rw [rv.len, rdL_len e], fun k d v z1 z2 z3 => ?_, fun k z => ?_⟩
          · obtain ⟨r, g0, g1, g2⟩ := rdL_get e rv z1 z2
            have nc := hoth k r g0 (fun q => z3 (by rw [q]))
            match r, nc, g1, g2 with
            | .val d', _, g1, g2 =>
              obtain rfl : d' = d := Option.some.inj g1
              exact g2
            | .cell i, nc, _, _ => exact nomatch nc
          · obtain rfl : j = k := Option.some.inj z
            exact ⟨p, ws, o, vj, by rw [List.getElem?_eq_getElem hdl, edj], hF, hp, hr⟩
        refine ⟨F1, ds, _, en, q1, ?_⟩
        intro r out v F' H' ex q
        obtain ⟨es, us, rfl, h5, h6⟩ := ex.out j p rfl vj
        have st := ex.step
        rw [iob] at st
        match r, ex.res, q with
        | .val d, rx, q =>
          have q : Q3 (.val d) (ρ1.set i (.own f es)) := q
          have hFp : F' p = none := by
            cases e9 : F' p with
            | none => rfl
            | some o9 =>
              rcases st.nw p o9 e9 with z | z | ⟨_, z⟩ | z
              · have z2 : F1 p = some o9 := z
                rw [hF] at z2
                exact nomatch z2
              · have z2 : H1 p = none := z
                rw [hp] at z2
                exact nomatch z2
              · have z2 : H1 p = none := z
                rw [hp] at z2
                exact nomatch z2
              · have z2 := st.sub _ _ e9
                rw [h5] at z2
                cases z2
                exact z.elim
          have kp : ∀ b o, H1 b = some o → b ≠ p → (∀ ps, o ≠ .tbl ps) → H' b = some o := fun b o z n t => st.kp b o z (fun m => n (List.mem_singleton.mp m)) (R1.notab z t)
          have R2 : Rel c F' H' σ (ρ1.set i .un) := by
            have Rf := R1.forget i
            refine ⟨Rf.len, st.sub, fun k pv hk => (Rf.slot k pv hk).mono st.fr fun fr dd q e1 e2 => ?_, Rf.sep, st.nt, st.tab, st.tabF, fun _ _ z => st.fr _ _ (R1.fr _ _ z), fun b o z n m => ?_, fun b z => R1.dom b (st.dom b z), fun b o z => ?_, fun q z => R1.new q (st.dom q z)⟩
            · subst e1
              obtain ⟨fq, vq, lq⟩ := Rf.ownAt hk e2
              have nqp : q ≠ p := by
                intro z
                subst z
                by_cases w : i = k
                · subst w
                  have hl := (List.getElem?_eq_some_iff.mp hk).1
                  rw [List.length_set] at hl
                  rw [List.getElem?_set_self hl] at hk
                  exact nomatch hk
                · rw [List.getElem?_set_ne w] at hk
                  exact w (R1.sep i k _ _ _ _ q hi hk ep e2)
              refine ⟨?_, fun ws lw => kp _ _ lw nqp (fun ps => by simp)⟩
              cases e9 : F' q with
              | none => rfl
              | some o9 =>
                rcases st.nw q o9 e9 with z | z | ⟨z, _⟩ | z
                · have z2 : F1 q = some o9 := z
                  rw [fq] at z2
                  exact nomatch z2
                · have z2 : H1 q = none := z
                  rw [lq] at z2
                  exact nomatch z2
                · exact absurd (List.mem_singleton.mp z) nqp
                · have z2 := st.sub _ _ e9
                  rw [kp _ _ lq nqp (fun ps => by simp)] at z2
                  cases z2
                  exact z.elim
            · refine st.kp b o (R1.kp b o z n m) (fun w => ?_) m
              have w2 := List.mem_singleton.mp w
              rw [w2] at z n
              rcases hb with hb | hb
              · exact n hb
              · rw [hb] at z
                exact nomatch z
            · rcases st.nw b o z with w | w | ⟨_, w⟩ | w
              · exact R1.nw b o w
              · exact Or.inr (Or.inl (R1.dom b w))
              · exact Or.inr (Or.inl (R1.dom b w))
              · exact Or.inr (Or.inr (Or.inr w))
          have hil := (List.getElem?_eq_some_iff.mp hi).1
          have R3 : Rel c F' H' σ (ρ1.set i (.own f es)) := by
            refine ⟨by rw [List.length_set]; exact R1.len, R2.sub, fun k pv hk => ?_, fun k l f1 o1 f2 o2 q h1 h2 e1 e2 => ?_, R2.nt, R2.tab, R2.tabF, R2.fr, R2.kp, R2.dom, R2.nw, R2.new⟩
            · by_cases w : i = k
              · subst w
                rw [List.getElem?_set_self hil] at hk
                obtain rfl := Option.some.inj hk
                exact ⟨p, us, ep, hFp, h5, h6, hfr, hb⟩
              · rw [List.getElem?_set_ne w] at hk
                exact R2.slot k pv (by rw [List.getElem?_set_ne w]; exact hk)
            · have g : ∀ (j : Nat) (f1 : Bool) (o : List D), (ρ1.set i (PV.own f es))[j]? = some (PV.own f1 o) → ∃ f2 o2, ρ1[j]? = some (PV.own f2 o2) := by
                intro j f1 o hj
                by_cases q : i = j
                · subst q
                  exact ⟨_, _, hi⟩
                · rw [List.getElem?_set_ne q] at hj
                  exact ⟨_, _, hj⟩
              obtain ⟨_, _, g1⟩ := g _ _ _ h1
              obtain ⟨_, _, g2⟩ := g _ _ _ h2
              exact R1.sep k l _ _ _ _ q g1 g2 e1 e2
          exact hq (.val d) _ v F' H' R3 (tr s1 st.fr) rx q
        | .new _, _, q => exact q.elim
end
end L3
namespace L3
open PySem PySem.Spec PyProof.Rows L2 TB LamX
section
variable {X : Sx}
def oI0 (g : Int → Int → V) : O2 := fun dx dy Q => ∃ i j, dx = .int i ∧ dy = .int j ∧ some1 Q (vD (g i j))
def oI (C : Int → Int → Prop) (g : Int → Int → V) : O2 := fun dx dy Q => ∃ i j, dx = .int i ∧ dy = .int j ∧ C i j ∧ some1 Q (vD (g i j))
theorem vD_rp {K : PySem.W.Frag} {F : Hp} {v : V} {d : D} (h : vD v = some d) : Rp K F d v := by
  cases v <;> first
    | (obtain rfl := Option.some.inj h; exact rfl)
    | exact nomatch h
theorem some1_is {α : Type} {Q : α → Prop} {o : Option α} (h : some1 Q o) : ∃ d, o = some d ∧ Q d := by
  cases o with
  | none => exact h.elim
  | some d => exact ⟨d, rfl, h⟩
theorem lr_I0 {g : Int → Int → V} : LiR X (rI0 g) (oI0 g) := by
  intro c hX σ F H ρ x y dx dy Q Q3 R rx ry hq h
  obtain ⟨i, j, rfl, rfl, h⟩ := h
  obtain ⟨d, e, q⟩ := some1_is h
  exact ⟨i, j, rx, ry, hq d _ F H R (Same.refl F) (vD_rp e) q⟩
theorem lr_I {C : Int → Int → Prop} {g : Int → Int → V} : LiR X (rI C g) (oI C g) := by
  intro c hX σ F H ρ x y dx dy Q Q3 R rx ry hq h
  obtain ⟨i, j, rfl, rfl, hc, h⟩ := h
  obtain ⟨d, e, q⟩ := some1_is h
  exact ⟨i, j, rx, ry, hc, hq d _ F H R (Same.refl F) (vD_rp e) q⟩
/-- flat data as a value -/
def dV : D → V
  | .non => .non
  | .bl b => .bl b
  | .int i => .int i
  | .str z => .str z
  | .ty n => .ty n
  | _ => .non
theorem rn_flat {K : PySem.W.Frag} {F H : Hp} {d : D} {v : V} (f : d.flat = true) (h : Rn K F H d v) : v = dV d := by
  cases d <;> first
    | exact h
    | exact nomatch f
theorem rp_flat {K : PySem.W.Frag} {F : Hp} {d : D} {v : V} (f : d.flat = true) (h : Rp K F d v) : v = dV d := by
  cases d <;> first
    | exact h
    | exact nomatch f
def oEq (neg : Bool) : O2 := fun dx dy Q => dx.flat = true ∧ dy.flat = true ∧ scal (dV dx) (dV dy) = true ∧ Q (.bl (if neg then !decide (dV dx = dV dy) else decide (dV dx = dV dy)))
theorem w_neS {a b : Str} {Q : D → Prop} (h : Q (.bl (!decide (a = b)))) : oEq true (.str a) (.str b) Q := by
  refine ⟨rfl, rfl, rfl, ?_⟩
  have e : decide (dV (.str a) = dV (.str b)) = decide (a = b) := decide_eq_decide.mpr ⟨fun z => V.str.inj z, fun z => by rw [z]⟩
  rw [e]
  exact h
theorem w_eqI {a b : Int} {Q : D → Prop} (h : Q (.bl (decide (a = b)))) : oEq false (.int a) (.int b) Q := by
  refine ⟨rfl, rfl, rfl, ?_⟩
  have e : decide (dV (.int a) = dV (.int b)) = decide (a = b) := decide_eq_decide.mpr ⟨fun z => V.int.inj z, fun z => by rw [z]⟩
  rw [e]
  exact h
theorem lr_eq : LiR X rEq (oEq false) := by
  intro c hX σ F H ρ x y dx dy Q Q3 R rx ry hq h
  obtain ⟨f1, f2, sc, q⟩ := h
  obtain rfl := rn_flat f1 rx
  obtain rfl := rn_flat f2 ry
  exact ⟨sc, hq (.bl _) _ F H R (Same.refl F) rfl q⟩
theorem lr_ne : LiR X rNe (oEq true) := by
  intro c hX σ F H ρ x y dx dy Q Q3 R rx ry hq h
  obtain ⟨f1, f2, sc, q⟩ := h
  obtain rfl := rn_flat f1 rx
  obtain rfl := rn_flat f2 ry
  exact ⟨sc, hq (.bl _) _ F H R (Same.refl F) rfl q⟩
def oIxL : O2 := fun dx dy Q => ∃ ds i, dx = .lst ds ∧ dy = .int i ∧ some1 Q (atI ds i)
theorem atI_rp {K : PySem.W.Frag} {F : Hp} {ds : List D} {vs : List V} {i : Int} {d : D} (r : RpL K F ds vs) (h : atI ds i = some d) : ∃ v, atI vs i = some v ∧ Rp K F d v := by
  unfold atI at h ⊢
  rw [r.len]
  cases e : ixN ds.length i with
  | none => rw [e] at h; exact nomatch h
  | some j =>
    rw [e] at h
    exact r.get' h
theorem lr_ixL : LiR X (rIxL X.K) oIxL := by
  intro c hX σ F H ρ x y dx dy Q Q3 R rx ry hq h
  obtain ⟨ds, i, rfl, rfl, h⟩ := h
  obtain ⟨p, vs, e, hp, r⟩ := rx
  obtain ⟨d, e2, q⟩ := some1_is h
  obtain ⟨v, e3, rv⟩ := atI_rp r e2
  exact ⟨p, vs, i, v, e, ry, sqL_of hp, e3, hq d v F H R (Same.refl F) rv q⟩
def cutD (ds : List D) (lo hi : Option Int) : List D := (ds.drop (HT.sIx ds.length 0 lo)).take (HT.sIx ds.length ds.length hi - HT.sIx ds.length 0 lo)
theorem cut_rp {K : PySem.W.Frag} {F : Hp} {ds : List D} {vs : List V} {lo hi : Option Int} (r : RpL K F ds vs) : RpL K F (cutD ds lo hi) (cutV vs lo hi) := by
  unfold cutD cutV
  rw [r.len]
  exact (r.drop _).take _
def oSlL : D → Option Int → Option Int → (List D → Prop) → Prop := fun d lo hi Q => ∃ ds, d = .lst ds ∧ Q (cutD ds lo hi)
theorem lsl_L : LiSlN X (rSlL X.K) oSlL := by
  intro c hX σ F H ρ x dx lo hi Q Q3 R rx hq h
  obtain ⟨ds, rfl, h⟩ := h
  obtain ⟨p, vs, e, hp, r⟩ := rx
  refine ⟨p, vs, e, sqL_of hp, fun q nq => ?_⟩
  obtain ⟨R2, n2⟩ := NewL.made R nq (cut_rp (lo := lo) (hi := hi) r)
  exact hq _ q F _ R2 (Same.refl F) n2 h
def oCatL : O2N := fun dx dy Q => ∃ ds es, dx = .lst ds ∧ dy = .lst es ∧ ds.length + es.length ≤ sizeLine ∧ Q (ds ++ es)
theorem lr_catL : LiRN X rCat oCatL := by
  intro c hX σ F H ρ x y dx dy Q Q3 R rx ry hq h
  obtain ⟨ds, es, rfl, rfl, hz, h⟩ := h
  obtain ⟨p, vs, e, hp, r⟩ := rx
  obtain ⟨p2, vs2, e2, hp2, r2⟩ := ry
  · refine ⟨p, p2, vs, vs2, e, e2, hp, hp2, by rw [r.len, r2.len]; exact hz, fun q nq => ?_⟩
    obtain ⟨R2, n2⟩ := NewL.made R nq (r.app r2)
    exact hq _ q F _ R2 (Same.refl F) n2 h
def flatD : D → Bool
  | .non => true
  | .bl _ => true
  | .int _ => true
  | .str _ => true
  | _ => false
theorem flatD_flat {d : D} (h : flatD d = true) : d.flat = true := by
  cases d <;> first
    | rfl
    | exact nomatch h
theorem flatV_dV {d : D} (h : flatD d = true) : flatV (dV d) = true := by
  cases d <;> first
    | rfl
    | exact nomatch h
def eqD (a b : D) : Bool := eqV (dV a) (dV b)
def inD (x : D) (ds : List D) : Bool := ds.any fun y => eqD y x
def oIn (neg : Bool) : O2 := fun dx dy Q => ∃ ds, (dy = .lst ds ∨ dy = .tup ds) ∧ flatD dx = true ∧ ds.all flatD = true ∧ Q (.bl (if neg then !inD dx ds else inD dx ds))
theorem flatL {K : PySem.W.Frag} {F : Hp} : ∀ {ds : List D} {vs : List V}, ds.all flatD = true → RpL K F ds vs → vs = ds.map dV
  | [], vs, _, h => h
  | d :: ds, vs, f, h => by
    obtain ⟨v, r, rfl, q, t⟩ := h
    rw [List.all_cons, Bool.and_eq_true] at f
    rw [rp_flat (flatD_flat f.1) q, flatL f.2 t]
    rfl
theorem inD_inV (x : D) (ds : List D) : inV (dV x) (ds.map dV) = inD x ds := by
  unfold inV inD eqD
  rw [List.any_map]
  rfl
theorem lr_in (neg : Bool) : LiR X (rIn X.K neg) (oIn neg) := by
  intro c hX σ F H ρ x y dx dy Q Q3 R rx ry hq h
  subst hX
  obtain ⟨ds, hd, f1, f2, q⟩ := h
  obtain rfl := rn_flat (flatD_flat f1) rx
  have fv : ((ds.map dV).all flatV) = true := by
    rw [List.all_map, List.all_eq_true]
    intro d hd
    exact flatV_dV (List.all_eq_true.mp f2 d hd)
  rcases hd with rfl | rfl
  · obtain ⟨p, vs, rfl, hp, r⟩ := ry
    obtain rfl := flatL f2 r
    refine ⟨p, _, rfl, Or.inl (sqL_of hp), flatV_dV f1, fv, ?_⟩
    rw [inD_inV]
    exact hq (.bl _) _ F H R (Same.refl F) rfl q
  · obtain ⟨p, vs, rfl, hp, r⟩ := ry
    obtain rfl := flatL f2 r
    refine ⟨p, _, rfl, Or.inr (sqT_mono R.sub hp), flatV_dV f1, fv, ?_⟩
    rw [inD_inV]
    exact hq (.bl _) _ F H R (Same.refl F) rfl q
/-- a text among texts -/
theorem inD_strs (z : Str) (ws : List Str) : inD (.str z) (ws.map D.str) = decide (z ∈ ws) := by
  rw [← inD_inV, List.map_map]
  exact inV_strs z ws
theorem flat_strs3 (ws : List Str) : (ws.map D.str).all flatD = true := by
  rw [List.all_eq_true]
  intro v hv
  obtain ⟨z, _, rfl⟩ := List.mem_map.mp hv
  rfl
def oLen : OL := fun as Q => ∃ ds, (as = [.lst ds] ∨ as = [.tup ds]) ∧ Q (.int ds.length)
theorem lc_len : LiC X (rLenL X.K) oLen := by
  intro c hX σ F H ρ xs dxs Q Q3 R rx hq h
  subst hX
  obtain ⟨ds, rfl | rfl, h⟩ := h
  · obtain ⟨v, t, rfl, ⟨p, vs, rfl, hp, r⟩, e⟩ := rx
    obtain rfl : t = [] := e
    refine ⟨p, vs, rfl, Or.inl (sqL_of hp), hq (.int _) _ F H R (Same.refl F) ?_ h⟩
    show V.int _ = V.int _
    rw [r.len]
  · obtain ⟨v, t, rfl, ⟨p, vs, rfl, hp, r⟩, e⟩ := rx
    obtain rfl : t = [] := e
    refine ⟨p, vs, rfl, Or.inr (sqT_mono R.sub hp), hq (.int _) _ F H R (Same.refl F) ?_ h⟩
    show V.int _ = V.int _
    rw [r.len]
def oList : OLN := fun as Q => ∃ ds, (as = [.lst ds] ∨ as = [.tup ds]) ∧ Q ds
theorem lc_list : LiCN X (rListL X.K) oList := by
  intro c hX σ F H ρ xs dxs Q Q3 R rx hq h
  subst hX
  obtain ⟨ds, rfl | rfl, h⟩ := h
  · obtain ⟨v, t, rfl, ⟨p, vs, rfl, hp, r⟩, e⟩ := rx
    obtain rfl : t = [] := e
    refine ⟨p, vs, rfl, Or.inl (sqL_of hp), fun l nl => ?_⟩
    obtain ⟨R2, n2⟩ := NewL.made R nl r
    exact hq _ l F _ R2 (Same.refl F) n2 h
  · obtain ⟨v, t, rfl, ⟨p, vs, rfl, hp, r⟩, e⟩ := rx
    obtain rfl : t = [] := e
    refine ⟨p, vs, rfl, Or.inr (sqT_mono R.sub hp), fun l nl => ?_⟩
    obtain ⟨R2, n2⟩ := NewL.made R nl r
    exact hq _ l F _ R2 (Same.refl F) n2 h
def oTuple : OL := fun as Q => ∃ ds, (as = [.lst ds] ∨ as = [.tup ds]) ∧ Q (.tup ds)
theorem lc_tuple : LiC X (rTupL X.K) oTuple := by
  intro c hX σ F H ρ xs dxs Q Q3 R rx hq h
  subst hX
  obtain ⟨ds, rfl | rfl, h⟩ := h
  · obtain ⟨v, t, rfl, ⟨p, vs, rfl, hp, r⟩, e⟩ := rx
    obtain rfl : t = [] := e
    refine ⟨p, vs, rfl, Or.inl ⟨sqL_of hp, fun l nl => ?_⟩⟩
    have s2 : Same F (upd F l (.tup vs)) := fun _ _ z => old_upd (R.fnone nl) z
    exact hq (.tup _) _ _ _ (R.alloc nl trivial) s2 ⟨l, _, rfl, sqT_of upd_same, r.mono s2⟩ h
  · obtain ⟨v, t, rfl, ⟨p, vs, rfl, hp, r⟩, e⟩ := rx
    obtain rfl : t = [] := e
    exact ⟨p, vs, rfl, Or.inr ⟨sqT_mono R.sub hp, hq (.tup _) _ F H R (Same.refl F) ⟨p, vs, rfl, hp, r⟩ h⟩⟩
def oInt : OL := fun as Q => (∃ b, as = [.bl b] ∧ Q (.int (if b then 1 else 0))) ∨ ∃ i, as = [.int i] ∧ Q (.int i)
theorem lc_int : LiC X rInt1 oInt := by
  intro c hX σ F H ρ xs dxs Q Q3 R rx hq h
  rcases h with ⟨b, rfl, h⟩ | ⟨i, rfl, h⟩
  · obtain ⟨v, t, rfl, rv, e⟩ := rx
    obtain rfl : t = [] := e
    obtain rfl : v = .bl b := rv
    exact Or.inr ⟨b, rfl, hq (.int _) _ F H R (Same.refl F) rfl h⟩
  · obtain ⟨v, t, rfl, rv, e⟩ := rx
    obtain rfl : t = [] := e
    obtain rfl : v = .int i := rv
    exact Or.inl ⟨i, rfl, hq (.int _) _ F H R (Same.refl F) rfl h⟩
def consO : Option PyData → Option (List PyData) → Option (List PyData)
  | some x, some xs => some (x :: xs)
  | _, _ => none
mutual
def pd : D → Option PyData
  | .non => some .none
  | .bl b => some (.bool b)
  | .int i => some (.int i)
  | .str z => some (.str z)
  | .lst ds => (pdL ds).map .list
  | .tup ds => (pdL ds).map .tuple
  | _ => none
def pdL : List D → Option (List PyData)
  | [] => some []
  | d :: ds => consO (pd d) (pdL ds)
end
mutual
theorem pd_dp {K : PySem.W.Frag} {F H : Hp} (s : Same F H) : ∀ {d : D} {v : V} {x : PyData}, Rp K F d v → pd d = some x → Dp K H v x
  | .non, v, x, h, e => by
    obtain rfl : PyData.none = x := Option.some.inj e
    obtain rfl : v = .non := h
    exact .non
  | .bl b, v, x, h, e => by
    obtain rfl : PyData.bool b = x := Option.some.inj e
    obtain rfl : v = .bl b := h
    exact .bl b
  | .int b, v, x, h, e => by
    obtain rfl : PyData.int b = x := Option.some.inj e
    obtain rfl : v = .int b := h
    exact .int b
  | .str b, v, x, h, e => by
    obtain rfl : PyData.str b = x := Option.some.inj e
    obtain rfl : v = .str b := h
    exact .str b
  | .lst ds, v, x, h, e => by
    obtain ⟨a, vs, rfl, q, r⟩ := h
    have e : (pdL ds).map PyData.list = some x := e
    cases e2 : pdL ds with
    | none => rw [e2] at e; exact nomatch e
    | some xs =>
      rw [e2] at e
      obtain rfl : PyData.list xs = x := Option.some.inj e
      exact .lst (sqL_of (s _ _ q)) (pdL_dp s r e2)
  | .tup ds, v, x, h, e => by
    obtain ⟨a, vs, rfl, q, r⟩ := h
    have e : (pdL ds).map PyData.tuple = some x := e
    cases e2 : pdL ds with
    | none => rw [e2] at e; exact nomatch e
    | some xs =>
      rw [e2] at e
      obtain rfl : PyData.tuple xs = x := Option.some.inj e
      exact .tup (sqT_mono s q) (pdL_dp s r e2)
  | .ty _, v, x, h, e => nomatch e
  | .ins _ _ _, v, x, h, e => nomatch e
  | .dic _ _, v, x, h, e => nomatch e
  | .op _, v, x, h, e => nomatch e
theorem pdL_dp {K : PySem.W.Frag} {F H : Hp} (s : Same F H) : ∀ {ds : List D} {vs : List V} {xs : List PyData}, RpL K F ds vs → pdL ds = some xs → DpAll K H vs xs
  | [], vs, xs, h, e => by
    obtain rfl : [] = xs := Option.some.inj e
    obtain rfl : vs = [] := h
    exact .nil
  | d :: ds, vs, xs, h, e => by
    obtain ⟨v, r, rfl, q, t⟩ := h
    have e : consO (pd d) (pdL ds) = some xs := e
    cases e1 : pd d with
    | none => rw [e1] at e; exact nomatch e
    | some y =>
      cases e2 : pdL ds with
      | none => rw [e1, e2] at e; exact nomatch e
      | some ys =>
        rw [e1, e2] at e
        obtain rfl : y :: ys = xs := Option.some.inj e
        exact .cons (pd_dp s q e1) (pdL_dp s t e2)
end
theorem pd_rn {K : PySem.W.Frag} {F H : Hp} (s : Same F H) {d : D} {v : V} {x : PyData} (h : Rn K F H d v) (e : pd d = some x) : Dp K H v x := by
  cases d with
  | lst ds =>
    obtain ⟨a, vs, rfl, q, r⟩ := h
    have e : (pdL ds).map PyData.list = some x := e
    cases e2 : pdL ds with
    | none => rw [e2] at e; exact nomatch e
    | some xs =>
      rw [e2] at e
      obtain rfl : PyData.list xs = x := Option.some.inj e
      exact .lst (sqL_of q) (pdL_dp s r e2)
  | _ => exact pd_dp s h e
def oEqD (neg : Bool) : O2 := fun dx dy Q => ∃ x y, pd dx = some x ∧ pd dy = some y ∧ SeqAt.shaped x = true ∧ SeqAt.shaped y = true ∧ Q (.bl (if neg then !PyData.eqv x y else PyData.eqv x y))
theorem lr_eqD : LiR X (rEqD X.K) (oEqD false) := by
  intro c hX σ F H ρ x y dx dy Q Q3 R rx ry hq h
  subst hX
  obtain ⟨a, b, e1, e2, s1, s2, q⟩ := h
  exact ⟨a, b, pd_rn R.sub rx e1, pd_rn R.sub ry e2, s1, s2, hq (.bl _) _ F H R (Same.refl F) rfl q⟩
def ownP (Q : Bool → List D → Prop) : Option PV → Prop
  | some (.own f ds) => Q f ds
  | _ => False
theorem ownP_is {Q : Bool → List D → Prop} {o : Option PV} (h : ownP Q o) : ∃ f ds, o = some (.own f ds) ∧ Q f ds := by
  match o, h with
  | some (.own f ds), h => exact ⟨f, ds, rfl, h⟩
def qAppend (i : Nat) (pe : QD) : QE := fun ρ Q => ownP (fun _ _ => pe ρ fun d ρ1 => ownP (fun f ds => ds.length < sizeLine ∧ Q (.val .non) (ρ1.set i (.own f (ds ++ [d])))) ρ1[i]?) ρ[i]?
theorem li_append {i : Nat} {te : TE} {pe : QD} (h1 : LiD X te pe) : LiE X (tBM X.K "list" rAppend (tVar i) (tCons te tNil)) (qAppend i pe) := by
  intro c hX σ F H ρ Q Q3 R hq h
  obtain ⟨f0, ds0, hi0, h⟩ := ownP_is h
  obtain ⟨p, vs0, ep, hF0, hp0, _⟩ := R.slot i _ hi0
  refine ⟨.ref p, ep, Or.inl ⟨rfl, _, sqL_of hp0⟩, ?_⟩
  refine h1 c hX σ F H ρ _ _ R ?_ h
  intro d ρ1 v F1 H1 R1 s1 rv q1
  obtain ⟨f, ds, hi, hz, q⟩ := ownP_is q1
  obtain ⟨p1, vs, ep1, hF, hp, hr, _⟩ := R1.slot i _ hi
  rw [ep] at ep1
  obtain rfl : p = p1 := by injection ep1 with ep1; injection ep1 with ep1; injection ep1
  have hr2 : RpL c.K F1 (ds ++ [d]) (vs ++ [v]) := hr.app ⟨v, [], rfl, rv, rfl⟩
  exact ⟨p, vs, v, rfl, rfl, hp, by rw [hr.len]; exact hz, hq (.val .non) _ .non F1 _ (R1.mutOwn hi ep hr2) s1 rfl q⟩
def qPopAt (i : Nat) (pe : QE) : QE := fun ρ Q => ownP (fun _ _ => pe ρ fun r ρ1 => ownP (fun f ds => ∃ (k : Int) (j : Nat) (d : D), r = .val (.int k) ∧ -(2 ^ 63) ≤ k ∧ k < 2 ^ 63 ∧ seqIndex? k ds.length = some j ∧ ds[j]? = some d ∧ Q (.val d) (ρ1.set i (.own f (ds.eraseIdx j)))) ρ1[i]?) ρ[i]?
theorem li_popAt {i : Nat} {te : TE} {pe : QE} (h1 : LiE X te pe) : LiE X (tBM X.K "list" rPopAt (tVar i) (tCons te tNil)) (qPopAt i pe) := by
  intro c hX σ F H ρ Q Q3 R hq h
  obtain ⟨f0, ds0, hi0, h⟩ := ownP_is h
  obtain ⟨p, vs0, ep, hF0, hp0, _⟩ := R.slot i _ hi0
  refine ⟨.ref p, ep, Or.inl ⟨rfl, _, sqL_of hp0⟩, ?_⟩
  refine h1 c hX σ F H ρ _ _ R ?_ h
  intro r ρ1 v F1 H1 R1 s1 rv q1
  obtain ⟨f, ds, hi, k, j, d, rfl, b1, b2, e1, e2, q⟩ := ownP_is q1
  obtain rfl : v = .int k := rv
  obtain ⟨p1, vs, ep1, hF, hp, hr, _⟩ := R1.slot i _ hi
  rw [ep] at ep1
  obtain rfl : p = p1 := by injection ep1 with ep1; injection ep1 with ep1; injection ep1
  obtain ⟨u, e3, ru⟩ := hr.get' e2
  exact ⟨p, vs, k, j, u, rfl, rfl, hp, b1, b2, by rw [hr.len]; exact e1, e3, hq (.val d) _ u F1 _ (R1.mutOwn hi ep (hr.erase j)) s1 ru q⟩
end
end L3
namespace L3
open PySem PySem.Spec PyProof.Rows L2 TB LamX
open C8 (Cal Met Mak)
section
variable {P : Program} {w : World} {K : PySem.W.Frag} {mg : Str → Option Value} {base : Heap} {k : Nat} {x m : Str} {C : Addr} {sp sp' : Sp} {dvs : List V}
theorem cal_imp (c : Cal P w K mg base k x sp dvs) (h : ∀ vs H Q E, sp' vs H Q E → sp vs H Q E) : Cal P w K mg base k x sp' dvs := by
  obtain ⟨f, fd, ps, ds, F, r⟩ := c.ex
  exact ⟨f, fd, ps, ds, F.imp h, r⟩
theorem met_imp (c : Met P w K mg base k C m sp dvs) (h : ∀ vs H Q E, sp' vs H Q E → sp vs H Q E) : Met P w K mg base k C m sp' dvs := by
  obtain ⟨f, fd, ps, ds, c1, c2, F, r⟩ := c.ex
  exact ⟨f, fd, ps, ds, c1, c2, F.imp h, r⟩
end
section
variable {X : Sx} {F H : Hp} {vs : List V} {ds : List D}
theorem RpL.of_get {K : PySem.W.Frag} {F : Hp} : ∀ {ds : List D} {vs : List V}, vs.length = ds.length → (∀ (j : Nat) d v, ds[j]? = some d → vs[j]? = some v → Rp K F d v) → RpL K F ds vs
  | [], vs, e, _ => List.eq_nil_of_length_eq_zero e
  | d :: ds, [], e, _ => nomatch e
  | d :: ds, v :: vs, e, h => ⟨v, vs, rfl, h 0 d v rfl rfl, RpL.of_get (Nat.succ.inj e) fun j d v h1 h2 => h (j + 1) d v (by simpa using h1) (by simpa using h2)⟩
theorem Entry.rpl (e : Entry X none F H vs ds) : RpL X.K F ds vs := RpL.of_get e.len fun j d v h1 h2 => e.arg j d v h1 h2 (fun z => nomatch z)
theorem Entry.rel {io : Option Nat} (e : Entry X io F H vs ds) (B : List Addr) : Rel ⟨X, fun p => H p = none, [], F, H, B⟩ F H [] [] :=
  ⟨rfl, e.sub, fun i pv h => by simp at h, fun i j f1 o1 f2 o2 p h => by simp at h, e.nt, e.tab, e.tabF, Same.refl F, fun _ _ z _ _ => z, fun _ z => z, fun _ _ z => Or.inl z, fun _ z => z⟩
theorem Exit.same (e : Entry X none F H vs ds) {r : Rs} {v : V} (h : RsX X H F H r v) : Exit X none F H vs F H r none v := ⟨e.rel [], h, fun _ _ z => nomatch z⟩
theorem Exit.newL (e : Entry X none F H vs ds) {p : Addr} {ws : List V} {es : List D} (np : H p = none) (r : RpL X.K F es ws) : Exit X none F H vs F (upd H p (.lst ws)) (.new es) none (.ref p) :=
  ⟨(e.rel []).allocH np trivial, ⟨p, ws, rfl, (e.rel []).fnone np, np, upd_same, r⟩, fun _ _ z => nomatch z⟩
def potD : D := .op ⟨fun F v => ∃ p, v = .ref p ∧ F p = some (PotO p), fun s h => by
  obtain ⟨p, e, h⟩ := h
  exact ⟨p, e, s _ _ h⟩⟩
def ordD (C : Addr) (ls : List Str) (ps : List Pr) : D := .op ⟨fun F v => ∃ x, v = .ref x ∧ OrdAt C F x ls ps, fun s h => by
  obtain ⟨p, e, h⟩ := h
  exact ⟨p, e, h.same s⟩⟩
abbrev strsD (ws : List Str) : List D := ws.map D.str
theorem rpl1 {K : PySem.W.Frag} {d : D} (h : RpL K F [d] vs) : ∃ v, vs = [v] ∧ Rp K F d v := by
  obtain ⟨v, t, rfl, q, e⟩ := h
  obtain rfl : t = [] := e
  exact ⟨v, rfl, q⟩
theorem rpl2 {K : PySem.W.Frag} {d d2 : D} (h : RpL K F [d, d2] vs) : ∃ v v2, vs = [v, v2] ∧ Rp K F d v ∧ Rp K F d2 v2 := by
  obtain ⟨v, t, rfl, q, h⟩ := h
  obtain ⟨v2, rfl, q2⟩ := rpl1 h
  exact ⟨v, v2, rfl, q, q2⟩
theorem rpl3 {K : PySem.W.Frag} {d d2 d3 : D} (h : RpL K F [d, d2, d3] vs) : ∃ v v2 v3, vs = [v, v2, v3] ∧ Rp K F d v ∧ Rp K F d2 v2 ∧ Rp K F d3 v3 := by
  obtain ⟨v, t, rfl, q, h⟩ := h
  obtain ⟨v2, v3, rfl, q2, q3⟩ := rpl2 h
  exact ⟨v, v2, v3, rfl, q, q2, q3⟩
def pDraw : PSp := fun ds Q => ∃ m : Int, ds = [potD, .int m] ∧ 0 < m ∧ m < 2 ^ 64 ∧ ∀ d : Int, 0 ≤ d → d < m → Q (.val (.int d)) none
def pNumber : PSp := fun ds Q => ds = [potD] ∧ ∀ d : Int, -(10 ^ 18) ≤ d → d ≤ 10 ^ 18 → Q (.val (.int d)) none
def pName : PSp := fun ds Q => ∃ ws : List Str, ds = [potD, .lst (strsD ws)] ∧ ws.length < 26 ∧ ∀ z : Str, Nm z → z ∉ ws → Q (.val (.str z)) (some (strsD (ws ++ [z])))
def pLatches : PSp := fun ds Q => ds = [potD] ∧ ∀ ws : List Str, ws.Nodup → (∀ z ∈ ws, Nm z) → 1 ≤ ws.length → ws.length ≤ 7 → Q (.new (strsD ws)) none
def pBehind (C : Addr) : PSp := fun ds Q => ∃ ls ps a, ds = [ordD C ls ps, .str a] ∧ OrdOk ls ps ∧ a ∈ ls ∧ ∀ fs : List Str, (∀ z, z ∈ fs ↔ Rch ps a z) → Q (.new (strsD (ls.filter fun z => decide (z ∈ fs)))) none
def pLocks (C : Addr) : PSp := fun ds Q => ∃ ls ps, ds = [ordD C ls ps] ∧ Q (.new (strsD ls)) none
def pAdded (C : Addr) : PSp := fun ds Q => ∃ ls ps a b, ds = [ordD C ls ps, .str a, .str b] ∧ OrdOk ls ps ∧ a ∈ ls ∧ b ∈ ls ∧ a ≠ b ∧ ¬ Rch ps b a ∧ ∀ qs, OrdOk ls qs → (∀ z, z ∈ qs ↔ z ∈ ps ∨ z = (a, b)) → Q (.val (ordD C ls qs)) none
theorem i_draw {spD : Sp} (hs : ∀ (p : Addr) (m : Int) (H : Hp) (Q : VK) (E : XK), H p = some (PotO p) → NoT H → 0 < m → m < 2 ^ 64 → (∀ d : Int, 0 ≤ d → d < m → Q (.int d) H) → spD [.ref p, .int m] H Q E) : ∀ vs H Q E, lsp X none pDraw vs H Q E → spD vs H Q E := by
  rintro vs H Q E ⟨F, ds, Q3, en, ⟨m, rfl, h0, h1, h⟩, hQ⟩
  obtain ⟨v1, v2, rfl, ⟨p, rfl, hp⟩, e2⟩ := rpl2 en.rpl
  obtain rfl : v2 = .int m := e2
  exact hs p m H Q E (en.sub _ _ hp) en.nt h0 h1 fun d a b => hQ _ _ _ F H (Exit.same (r := .val (.int d)) en rfl) (h d a b)
theorem rp_strs {K : PySem.W.Frag} (ws : List Str) : RpL K F (strsD ws) (ws.map V.str) := RpL.map (f := D.str) (g := V.str) (fun _ => rfl) ws
theorem i_name {spD : Sp} (hs : ∀ (p l : Addr) (ws : List Str) (H : Hp) (Q : VK) (E : XK), H p = some (PotO p) → H l = some (.lst (ws.map V.str)) → NoT H → ws.length < 26 → (∀ z : Str, Nm z → z ∉ ws → Q (.str z) (upd H l (.lst ((ws ++ [z]).map V.str)))) → spD [.ref p, .ref l] H Q E) : ∀ vs H Q E, lsp X (some 1) pName vs H Q E → spD vs H Q E := by
  rintro vs H Q E ⟨F, ds, Q3, en, ⟨ws, rfl, h0, h⟩, hQ⟩
  obtain ⟨l, us, es, e1, e2, hF, hl, hr⟩ := en.ioA 1 rfl
  obtain rfl : strsD ws = es := by
    have e3 : some (D.lst (strsD ws)) = some (.lst es) := e2
    injection e3 with e3; injection e3
  obtain rfl := hr.strs
  have hvl := en.len
  match vs, hvl, e1 with
  | [v1, v2], _, e1 =>
    obtain rfl : v2 = .ref l := Option.some.inj e1
    obtain ⟨p, rfl, hp⟩ := en.arg 0 potD v1 rfl rfl (fun z => nomatch z)
    refine hs p l ws H Q E (en.sub _ _ hp) hl en.nt h0 fun z a b => ?_
    refine hQ (.val (.str z)) (some (strsD (ws ++ [z]))) (.str z) F _ ⟨(en.rel [l]).mutH hl hF (Or.inl (List.mem_singleton.mpr rfl)) (fun i f o h => by simp at h), rfl, fun j q z1 z2 => ?_⟩ (h z a b)
    obtain rfl : 1 = j := Option.some.inj z1
    obtain rfl : l = q := by
      have z3 : some (V.ref l) = some (.ref q) := z2
      injection z3 with z3; injection z3
    exact ⟨_, _, rfl, upd_same, rp_strs _⟩
theorem i_behind {C : Addr} : ∀ vs H Q E, lsp X none (pBehind C) vs H Q E → spBehind C vs H Q E := by
  rintro vs H Q E ⟨F, ds, Q3, en, ⟨ls, ps, a, rfl, ok, ha, h⟩, hQ⟩
  obtain ⟨v1, v2, rfl, ⟨y, rfl, hy⟩, e2⟩ := rpl2 en.rpl
  obtain rfl : v2 = .str a := e2
  exact ⟨y, a, ls, ps, rfl, hy.same en.sub, ok, ha, en.nt, fun p fs np hfs => hQ _ _ _ F _ (Exit.newL en np (rp_strs _)) (h fs hfs)⟩
theorem i_locks {C : Addr} : ∀ vs H Q E, lsp X none (pLocks C) vs H Q E → spLocks C vs H Q E := by
  rintro vs H Q E ⟨F, ds, Q3, en, ⟨ls, ps, rfl, h⟩, hQ⟩
  obtain ⟨v1, rfl, y, rfl, hy⟩ := rpl1 en.rpl
  exact ⟨y, ls, ps, rfl, hy.same en.sub, fun p np => hQ _ _ _ F _ (Exit.newL en np (rp_strs _)) h⟩
/-- what may be added to F: things that never change, new things -/
noncomputable def addF (F H H' : Hp) : Hp := open Classical in fun b => match F b with
  | some o => some o
  | none => match H' b with
    | some o => if H b = none ∨ Imm o then some o else none
    | none => none
theorem addF_new {H' : Hp} {b : Addr} {o : HO} (s : Same F H') (e : H' b = some o) (h : H b = none ∨ Imm o) : addF F H H' b = some o := by
  unfold addF
  cases e2 : F b with
  | some u =>
    rw [s _ _ e2] at e
    exact e
  | none =>
    simp only [e]
    rw [if_pos h]
theorem addF_is {H' : Hp} {b : Addr} {o : HO} (s : Same F H') (h : addF F H H' b = some o) : H' b = some o ∧ (F b = some o ∨ H b = none ∨ Imm o) := by
  unfold addF at h
  cases e2 : F b with
  | some u =>
    rw [e2] at h
    obtain rfl : u = o := Option.some.inj h
    exact ⟨s _ _ e2, Or.inl rfl⟩
  | none =>
    rw [e2] at h
    cases e3 : H' b with
    | none => simp only [e3] at h; exact nomatch h
    | some u =>
      simp only [e3] at h
      by_cases hc : H b = none ∨ Imm u
      · rw [if_pos hc] at h
        obtain rfl : u = o := Option.some.inj h
        exact ⟨rfl, Or.inr hc⟩
      · rw [if_neg hc] at h
        exact nomatch h
theorem ord_addF {C y : Addr} {H' : Hp} {ls : List Str} {ps : List Pr} (s : Same F H') (h : OrdAt C H' y ls ps) (ny : H y = none) : OrdAt C (addF F H H') y ls ps := by
  obtain ⟨dx, tl, tp, rs, h1, ⟨o, d, h2⟩, h3, h4⟩ := h
  exact ⟨dx, tl, tp, rs, addF_new s h1 (Or.inl ny), ⟨o, d, addF_new s h2 (Or.inr trivial)⟩, addF_new s h3 (Or.inr trivial), h4.keep fun b xs e => addF_new s e (Or.inr trivial)⟩
end
end L3
namespace L3
open PySem PySem.Spec PyProof.Rows L2 TB LamX
open C8 (Cal Met Mak)
section
variable {X : Sx} {K : PySem.W.Frag}
theorem lg_tup' {n : Nat} {gs : TGs} {ps : QGs} {t : List Nat} (h1 : LiGs X gs ps t) (hK : X.K = K := by rfl) : LiG X (gTup K n gs) (gqTup n ps) t := by subst hK; exact lg_tup h1
theorem lii_list' {te : TE} {pe : QE} (h1 : LiE X te pe) (hK : X.K = K := by rfl) : LiI X (iList K te) (iqSeq pe) := by subst hK; exact lii_list h1
theorem lii_enum' {ta : TA} {pa : QAD} (h1 : LiAD X ta pa) (hK : X.K = K := by rfl) : LiI X (iEnum K ta) (iqEnum pa) := by subst hK; exact lii_enum h1
theorem li_append' {i : Nat} {te : TE} {pe : QD} (h1 : LiD X te pe) (hK : X.K = K := by rfl) : LiE X (tBM K "list" rAppend (tVar i) (tCons te tNil)) (qAppend i pe) := by subst hK; exact li_append h1
theorem li_popAt' {i : Nat} {te : TE} {pe : QE} (h1 : LiE X te pe) (hK : X.K = K := by rfl) : LiE X (tBM K "list" rPopAt (tVar i) (tCons te tNil)) (qPopAt i pe) := by subst hK; exact li_popAt h1
theorem lr_ixL' (hK : X.K = K := by rfl) : LiR X (rIxL K) oIxL := by subst hK; exact lr_ixL
theorem lsl_L' (hK : X.K = K := by rfl) : LiSlN X (rSlL K) oSlL := by subst hK; exact lsl_L
theorem lr_in' {neg : Bool} (hK : X.K = K := by rfl) : LiR X (rIn K neg) (oIn neg) := by subst hK; exact lr_in neg
theorem lc_len' (hK : X.K = K := by rfl) : LiC X (rLenL K) oLen := by subst hK; exact lc_len
theorem lc_list' (hK : X.K = K := by rfl) : LiCN X (rListL K) oList := by subst hK; exact lc_list
theorem lc_tuple' (hK : X.K = K := by rfl) : LiC X (rTupL K) oTuple := by subst hK; exact lc_tuple
theorem lr_eqD' (hK : X.K = K := by rfl) : LiR X (rEqD K) (oEqD false) := by subst hK; exact lr_eqD
/-- an assignment to a name whose list will be changed -/
theorem toN {Y : Cx} {st : Stmt} {te : TE} {i : Nat} (h : PS Y st (tAsg te (gName i))) : PS Y st (tAsgN te i) := h
end
section
variable {ρ : PSt} {P : PEnds} {Q : Rv → PSt → Prop} {QD1 : D → PSt → Prop} {QN1 : List D → PSt → Prop} {QT1 : Bool → PSt → Prop} {QA1 : List Rv → PSt → Prop} {QAD1 : List D → PSt → Prop} {QO1 : Option Int → PSt → Prop}
  {p q : QS} {pe pe2 : QE} {pn : QN} {pd : QD} {pt pt2 : QT} {pa : QA} {pad : QAD} {g : QG} {gs : QGs} {po po2 : QO} {pi : QI} {i j : Nat} {d : D} {ds : List D} {f : Bool}
theorem w_seq (h : p { P with nx := q P } ρ) : sSeq p q P ρ := h
theorem w_next (h : P.nx ρ) : sNext P ρ := h
theorem w_drop (h : pe ρ fun _ ρ' => P.nx ρ') : sDrop pe P ρ := h
theorem w_ret (h : pd ρ fun d ρ' => P.rt (.val d) ρ') : sRet pd P ρ := h
theorem w_retNew (h : pn ρ fun ds ρ' => P.rt (.new ds) ρ') : sRetNew pn P ρ := h
theorem w_retV (e : ρ[i]? = some (.val d)) (h : P.rt (.val d) ρ) : sRetV i P ρ := by
  show retP ρ i P ρ[i]?
  rw [e]
  exact h
theorem w_retO (e : ρ[i]? = some (.own true ds)) (h : P.rt (.new ds) (ρ.set i .un)) : sRetV i P ρ := by
  show retP ρ i P ρ[i]?
  rw [e]
  exact h
theorem w_ifs (h : pt ρ fun b ρ1 => if b = true then p P ρ1 else q P ρ1) : sIf pt p q P ρ := h
theorem w_asg (h : pd ρ fun d ρ1 => g d ρ1 P.nx) : sAsg pd g P ρ := h
theorem w_own (h : pn ρ fun ds ρ1 => P.nx (ρ1.set i (.own true ds))) : sOwn pn i P ρ := h
theorem w_for (h : pi ρ fun ds ρ1 => ForP ds g p P ρ1) : sFor pi g p P ρ := h
theorem w_name {R : PSt → Prop} (h : R (ρ.set i (.val d))) : gqName i d ρ R := h
theorem w_gnil {R : PSt → Prop} (h : R ρ) : gqNil [] ρ R := ⟨rfl, h⟩
theorem w_gcons {R : PSt → Prop} (h : g d ρ fun ρ' => gs ds ρ' R) : gqCons g gs (d :: ds) ρ R := ⟨d, ds, rfl, h⟩
theorem w_gtup {R : PSt → Prop} {n : Nat} (e : ds.length = n) (h : gs ds ρ R) : gqTup n gs (.tup ds) ρ R := ⟨ds, rfl, e, h⟩
theorem w_var (e : ρ[i]? = some (.val d)) (h : Q (.val d) ρ) : qVar i ρ Q := by
  show qVarP i (fun r => Q r ρ) ρ[i]?
  rw [e]
  exact h
theorem w_varO (e : ρ[i]? = some (.own f ds)) (h : Q (.cell i) ρ) : qVar i ρ Q := by
  show qVarP i (fun r => Q r ρ) ρ[i]?
  rw [e]
  exact h
theorem w_cI {n : Int} (h : Q (.val (.int n)) ρ) : qC (.int n) ρ Q := h
theorem w_cS {z : Str} (h : Q (.val (.str z)) ρ) : qC (.str z) ρ Q := h
theorem w_cB {b : Bool} (h : Q (.val (.bl b)) ρ) : qC (.bl b) ρ Q := h
theorem w_cN (h : Q (.val .non) ρ) : qC .non ρ Q := h
theorem w_esc (h : pe ρ fun r ρ' => escR ρ' QD1 r) : qEsc pe ρ QD1 := h
theorem w_escV (h : QD1 d ρ) : escR ρ QD1 (.val d) := h
theorem w_keep (h : pn ρ fun ds ρ' => Q (.val (.lst ds)) ρ') : qKeep pn ρ Q := h
theorem w_nil (h : QA1 [] ρ) : qNil ρ QA1 := h
theorem w_cons (h : pe ρ fun r ρ1 => pa ρ1 fun rs ρ2 => QA1 (r :: rs) ρ2) : qCons pe pa ρ QA1 := h
theorem w_nilD (h : QAD1 [] ρ) : qNilD ρ QAD1 := h
theorem w_consD (h : pd ρ fun d ρ1 => pad ρ1 fun ds ρ2 => QAD1 (d :: ds) ρ2) : qConsD pd pad ρ QAD1 := h
theorem w_lst (h : pad ρ fun ds ρ' => ds.length ≤ sizeLine ∧ QN1 ds ρ') : qLst pad ρ QN1 := h
theorem w_tup (h : pad ρ fun ds ρ' => ds.length ≤ sizeLine ∧ QD1 (.tup ds) ρ') : qTup pad ρ QD1 := h
theorem w_op {r3 : O2} (h : pe ρ fun x ρ1 => pe2 ρ1 fun y ρ2 => some2 (fun dx dy => r3 dx dy fun d => Q (.val d) ρ2) (rdR ρ2 x) (rdR ρ2 y)) : qOp r3 pe pe2 ρ Q := h
theorem w_opN {r3 : O2N} (h : pe ρ fun x ρ1 => pe2 ρ1 fun y ρ2 => some2 (fun dx dy => r3 dx dy fun d => QN1 d ρ2) (rdR ρ2 x) (rdR ρ2 y)) : qOpN r3 pe pe2 ρ QN1 := h
theorem w_un {r3 : O1} (h : pe ρ fun x ρ1 => some1 (fun dx => r3 dx fun d => Q (.val d) ρ1) (rdR ρ1 x)) : qUn r3 pe ρ Q := h
theorem w_cb {r3 : OL} (h : pa ρ fun xs ρ1 => some1 (fun ds => r3 ds fun d => Q (.val d) ρ1) (rdL ρ1 xs)) : qCB r3 pa ρ Q := h
theorem w_cbN {r3 : OLN} (h : pa ρ fun xs ρ1 => some1 (fun ds => r3 ds fun d => QN1 d ρ1) (rdL ρ1 xs)) : qCBN r3 pa ρ QN1 := h
theorem w_some1 {α : Type} {F : α → Prop} {o : Option α} {x : α} (e : o = some x) (h : F x) : some1 F o := by
  rw [e]
  exact h
theorem w_some2 {α β : Type} {F : α → β → Prop} {o : Option α} {u : Option β} {x : α} {y : β} (e : o = some x) (e2 : u = some y) (h : F x y) : some2 F o u := by
  rw [e, e2]
  exact h
theorem w_I0 {g : Int → Int → V} {a b : Int} {F : D → Prop} (h : some1 F (vD (g a b))) : oI0 g (.int a) (.int b) F := ⟨a, b, rfl, rfl, h⟩
theorem w_I {C : Int → Int → Prop} {g : Int → Int → V} {a b : Int} {F : D → Prop} (c : C a b) (h : some1 F (vD (g a b))) : oI C g (.int a) (.int b) F := ⟨a, b, rfl, rfl, c, h⟩
theorem w_test (h : pe ρ fun r ρ' => isBl (fun b => QT1 b ρ') r) : qTest pe ρ QT1 := h
theorem w_isBl {F : Bool → Prop} {b : Bool} (h : F b) : isBl F (.val (.bl b)) := h
theorem w_isInt {F : Int → Prop} {b : Int} (h : F b) : isInt F (.val (.int b)) := h
theorem w_or (h : pt ρ fun b ρ1 => if b = true then QT1 true ρ1 else pt2 ρ1 QT1) : qOr pt pt2 ρ QT1 := h
theorem w_nopart (h : QO1 none ρ) : qNoPart ρ QO1 := h
theorem w_part (h : pe ρ fun r ρ' => isInt (fun i => QO1 (some i) ρ') r) : qPart pe ρ QO1 := h
theorem w_slN {r3 : D → Option Int → Option Int → (List D → Prop) → Prop} (h : pe ρ fun x ρ1 => po ρ1 fun lo ρ2 => po2 ρ2 fun hi ρ3 => some1 (fun dx => r3 dx lo hi fun d => QN1 d ρ3) (rdR ρ3 x)) : qSlN r3 pe po po2 ρ QN1 := h
theorem w_slL {lo hi : Option Int} {F : List D → Prop} (h : F (cutD ds lo hi)) : oSlL (.lst ds) lo hi F := ⟨ds, rfl, h⟩
theorem w_iseq (h : qEsc pe ρ fun d ρ' => ∃ ds, d = .lst ds ∧ QN1 ds ρ') : iqSeq pe ρ QN1 := h
theorem w_exL {F : List D → Prop} (h : F ds) : ∃ es, D.lst ds = .lst es ∧ F es := ⟨ds, rfl, h⟩
theorem w_ienum (h : pad ρ fun as ρ' => ∃ ds, as = [.lst ds] ∧ QN1 (ds.zipIdx.map fun p => D.tup [.int (p.2 : Nat), p.1]) ρ') : iqEnum pad ρ QN1 := h
theorem w_exE {F : List D → Prop} (h : F ds) : ∃ es, [D.lst ds] = [.lst es] ∧ F es := ⟨ds, rfl, h⟩
theorem w_irng1 (h : pa ρ fun as ρ' => ∃ j : Int, rdL ρ' as = some [.int j] ∧ -(2 ^ 62) ≤ j ∧ j < 2 ^ 62 ∧ QN1 ((List.range j.toNat).map fun (i : Nat) => D.int (0 + i)) ρ') : iqRng1 pa ρ QN1 := h
theorem w_lc {vs : List Nat} (h : pi ρ fun ds ρ1 => LcP ds g pt pd vs ρ1 QN1) : qLc pi g pt pd vs ρ QN1 := h
theorem w_call {S : PSp} (h : pa ρ fun rs ρ1 => some1 (fun ds => S ds fun r _ => resOk (rs.any isCell) r fun d => Q (.val d) ρ1) (rdL ρ1 rs)) : qCall S pa ρ Q := h
theorem w_res {hc : Bool} {F : D → Prop} (e : hc = false) (h : F d) : resOk hc (.val d) F := ⟨Or.inl e, h⟩
theorem w_ixL {k : Int} {F : D → Prop} (e : atI ds k = some d) (h : F d) : oIxL (.lst ds) (.int k) F := ⟨ds, k, rfl, rfl, by rw [e]; exact h⟩
theorem w_inS {z : Str} {ws : List Str} {F : D → Prop} (h : F (.bl (decide (z ∈ ws)))) : oIn false (.str z) (.lst (ws.map D.str)) F := by
  refine ⟨ws.map D.str, Or.inl rfl, rfl, flat_strs3 ws, ?_⟩
  rw [inD_strs]
  exact h
theorem w_ninS {z : Str} {ws : List Str} {F : D → Prop} (h : F (.bl (!decide (z ∈ ws)))) : oIn true (.str z) (.lst (ws.map D.str)) F := by
  refine ⟨ws.map D.str, Or.inl rfl, rfl, flat_strs3 ws, ?_⟩
  rw [inD_strs]
  exact h
theorem w_lenL {F : D → Prop} (h : F (.int ds.length)) : oLen [.lst ds] F := ⟨ds, Or.inl rfl, h⟩
theorem w_list {F : List D → Prop} (h : F ds) : oList [.lst ds] F := ⟨ds, Or.inl rfl, h⟩
theorem w_tuple {F : D → Prop} (h : F (.tup ds)) : oTuple [.lst ds] F := ⟨ds, Or.inl rfl, h⟩
theorem w_intB {b : Bool} {F : D → Prop} (h : F (.int (if b then 1 else 0))) : oInt [.bl b] F := Or.inl ⟨b, rfl, h⟩
theorem w_catL {es : List D} {F : List D → Prop} (n : ds.length + es.length ≤ sizeLine) (h : F (ds ++ es)) : oCatL (.lst ds) (.lst es) F := ⟨ds, es, rfl, rfl, n, h⟩
theorem w_append (e : ρ[i]? = some (.own f ds)) (h : pd ρ fun d ρ1 => ownP (fun f ds => ds.length < sizeLine ∧ Q (.val .non) (ρ1.set i (.own f (ds ++ [d])))) ρ1[i]?) : qAppend i pd ρ Q := by
  show ownP _ ρ[i]?
  rw [e]
  exact h
theorem w_popAt (e : ρ[i]? = some (.own f ds)) (h : pe ρ fun r ρ1 => ownP (fun f ds => ∃ (k : Int) (j : Nat) (d : D), r = .val (.int k) ∧ -(2 ^ 63) ≤ k ∧ k < 2 ^ 63 ∧ seqIndex? k ds.length = some j ∧ ds[j]? = some d ∧ Q (.val d) (ρ1.set i (.own f (ds.eraseIdx j)))) ρ1[i]?) : qPopAt i pe ρ Q := by
  show ownP _ ρ[i]?
  rw [e]
  exact h
theorem w_ownP {F : Bool → List D → Prop} {o : Option PV} (e : o = some (.own f ds)) (h : F f ds) : ownP F o := by
  rw [e]
  exact h
end
end L3
namespace L3
open PySem PySem.Spec PyProof.Rows L2 TB LamX
open C8 (Cal Met Mak)
section
variable {X : Sx}
def tParNN (i j : Nat) (t u : TE) : TS := tPar i j (tCons t (tCons u tNil))
theorem toNN {Y : Cx} {st : Stmt} {i j : Nat} {t u : TE} (h : PS Y st (tPar i j (tCons t (tCons u tNil)))) : PS Y st (tParNN i j t u) := h
def sParNN (i j : Nat) (p q : QN) : QS := fun P ρ => p ρ fun ds ρ1 => q ρ1 fun es ρ2 => P.nx ((ρ2.set i (.own true ds)).set j (.own true es))
theorem nob_set {σ : L2.St} {ρ : PSt} {i : Nat} {v : V} {pv : PV} {p : Addr} (h : Nob σ ρ p) (hv : v ≠ .ref p ∨ ∃ d, pv = .val d) (hl : σ.length = ρ.length) : Nob (σ.set i (some v)) (ρ.set i pv) p := by
  intro j f ds hj ej
  by_cases q : i = j
  · subst q
    have h1 := (List.getElem?_eq_some_iff.mp hj).1
    rw [List.length_set] at h1
    rw [List.getElem?_set_self h1] at hj
    rw [List.getElem?_set_self (by rw [hl]; exact h1)] at ej
    rcases hv with hv | ⟨d, rfl⟩
    · exact hv (Option.some.inj (Option.some.inj ej))
    · exact nomatch hj
  · rw [List.getElem?_set_ne q] at hj ej
    exact h j f ds hj ej
theorem ls_parNN {i j : Nat} {t u : TE} {p q : QN} (h1 : LiN X t p) (h2 : LiN X u q) : LiS X (tParNN i j t u) (sParNN i j p q) := by
  intro c hX σ F H ρ D P R a h
  refine h1 c hX σ F H ρ _ _ R ?_ h
  intro ds ρ1 p1 F1 H1 R1 s1 n1 q1
  have hXh : (c.at F1 H1 (ownB σ ρ1)).X = X := hX
  obtain ⟨ws, hp1, hr1⟩ := n1.l
  have nb : p1 ∉ ownB σ ρ1 := by
    intro z
    obtain ⟨k, f, o, g1, g2⟩ := mem_ownB.mp z
    exact n1.o k f o g1 g2
  refine h2 _ hXh σ F1 H1 ρ1 _ _ R1.here ?_ q1
  intro es ρ2 p2 F2 H2 R2h s2 n2 q2
  have R2 := R1.trans R2h
  have hp12 : H2 p1 = some (.lst ws) := R2h.kp p1 _ hp1 nb (R1.notab hp1 (fun ps => by simp))
  have hF2 : F2 p1 = none := by
    cases e : F2 p1 with
    | none => rfl
    | some o =>
      rcases R2h.nw p1 o e with z | z | ⟨z, _⟩ | z
      · have z2 : F1 p1 = some o := z
        rw [n1.f] at z2
        exact nomatch z2
      · have z2 : H1 p1 = none := z
        rw [hp1] at z2
        exact nomatch z2
      · exact absurd z nb
      · have z2 := R2h.sub _ _ e
        rw [hp12] at z2
        cases z2
        exact z.elim
  have ne : p2 ≠ p1 := by
    rintro rfl
    rcases n2.b with z | ⟨z, _⟩
    · have z2 : H1 p2 = none := z
      rw [hp1] at z2
      exact nomatch z2
    · exact nb z
  have nob1 : Nob σ ρ2 p1 := by
    intro k f o hk ek
    obtain ⟨pp, us, ep, _, _, _, _, hb⟩ := R2h.slot k _ hk
    rw [ek] at ep
    obtain rfl : p1 = pp := by injection ep with ep; injection ep with ep; injection ep
    rcases hb with z | z
    · exact nb z
    · have z2 : H1 p1 = none := z
      rw [hp1] at z2
      exact nomatch z2
  obtain ⟨us, hp2, hr2⟩ := n2.l
  have b2 : p2 ∈ c.B0 ∨ c.H0 p2 = none := by
    rcases n2.b with z | ⟨z, _⟩
    · exact Or.inr (R1.dom p2 z)
    · obtain ⟨k, f, o, g1, g2⟩ := mem_ownB.mp z
      obtain ⟨pp, us, ep, _, _, _, _, hb⟩ := R1.slot k _ g1
      rw [g2] at ep
      obtain rfl : p2 = pp := by injection ep with ep; injection ep with ep; injection ep
      exact hb
  have R3 := R2.setOwn (i := i) hp12 hF2 (hr1.mono s2) n1.n n1.b2 nob1
  have R4 := R3.setOwn (i := j) hp2 n2.f hr2 n2.n b2 (nob_set n2.o (Or.inl (fun z => ne (by injection z with z; exact z.symm))) R2.len)
  exact ⟨_, _, rfl, a.nx _ F2 H2 _ R4 (tr s1 s2) q2⟩
/-- a call that changes the own list in slot i -/
def tCallIo (i : Nat) (sp : Sp) (E : XK) (t : TA) : TE := tCall sp [] E t
theorem toIo {Y : Cx} {e : Expr} {sp : Sp} {E : XK} {t : TA} (i : Nat) (h : PE Y e (tCall sp [] E t)) : PE Y e (tCallIo i sp E t) := h
theorem li_io {i j : Nat} {P : PSp} {ta : TA} {pa : QA} {E : XK} (h1 : LiA X ta pa) : LiE X (tCallIo i (lsp X (some j) P) E ta) (qCallIo j i P pa) := li_callIo h1
theorem w_callIo {ρ : PSt} {j i : Nat} {S : PSp} {pa : QA} {Q : Rv → PSt → Prop} (h : pa ρ fun rs ρ1 => rs[j]? = some (.cell i) ∧ (∀ k r, rs[k]? = some r → k ≠ j → isCell r = false) ∧ ownOf (fun f _ => some1 (fun ds => S ds fun r out => ioOk ρ1 i f (fun d ρ2 => Q (.val d) ρ2) r out) (rdL ρ1 rs)) ρ1[i]?) : qCallIo j i S pa ρ Q := h
theorem w_parNN {ρ : PSt} {P : PEnds} {i j : Nat} {p q : QN} (h : p ρ fun ds ρ1 => q ρ1 fun es ρ2 => P.nx ((ρ2.set i (.own true ds)).set j (.own true es))) : sParNN i j p q P ρ := h
end
end L3
namespace L3
open PySem PySem.Spec PyProof.Rows L2 TB LamX
section
variable {X : Sx} {c : Ct} {F H F' H' : Hp} {σ σ' : L2.St} {ρ ρ' : PSt} {A : Addr} {acc : List D}
theorem NewL.kept (n : NewL c F H σ ρ A acc) (R : Rel c F H σ ρ) (R' : Rel (c.at F H (ownB σ ρ)) F' H' σ' ρ') : NewL c F' H' σ' ρ' A acc := by
  have nobA : A ∉ ownB σ ρ := by
    intro z
    obtain ⟨j, f, o, g1, g2⟩ := mem_ownB.mp z
    exact n.o j f o g1 g2
  obtain ⟨ws, hA, rA⟩ := n.l
  have ntb : NoTb c A := R.notab hA (fun ps => by simp)
  have hA' : H' A = some (.lst ws) := R'.kp A _ hA nobA ntb
  refine ⟨⟨ws, hA', rA.mono R'.fr⟩, ?_, n.n, n.b, fun j f o hj ej => ?_⟩
  · cases e : F' A with
    | none => rfl
    | some o =>
      rcases R'.nw A o e with z | z | ⟨z, _⟩ | z
      · have z2 : F A = some o := z
        rw [n.f] at z2
        exact nomatch z2
      · have z2 : H A = none := z
        rw [hA] at z2
        exact nomatch z2
      · exact absurd z nobA
      · have z2 := R'.sub _ _ e
        rw [hA'] at z2
        cases z2
        exact z.elim
  · obtain ⟨p, us, ep, _, _, _, _, hb⟩ := R'.slot j _ hj
    rw [ej] at ep
    obtain rfl : A = p := by injection ep with ep; injection ep with ep; injection ep
    rcases hb with z | z
    · exact nobA z
    · have z2 : H A = none := z
      rw [hA] at z2
      exact nomatch z2
end
end L3
namespace L3
open PySem PySem.Spec PyProof.Rows L2 TB LamX
end L3
namespace L3
open PySem PySem.Spec PyProof.Rows L2 TB LamX
theorem run3' {X : Sx} {H : Hp} {t : TS} {N : List Str} {io : Option Nat} {P : PSp} {vs : List V} {Q : VK} {E : XK} (hp : ∃ p, LiS X t p ∧ ∀ ds Q3, P ds Q3 → p (ends3 io Q3) (start3 N ds io)) (h : lsp X io P vs H Q E) : t { nx := fun _ H' => Q .non H', rt := Q } (L2.start N vs) H := by
  obtain ⟨p, h1, h2⟩ := hp
  exact run3 h1 h2 h
end L3
namespace L3
open PySem PySem.Spec PyProof.Rows L2 TB LamX
end L3
namespace L3
open PySem PySem.Spec PyProof.Rows L2 TB LamX
theorem pdL_map {α : Type} {f : α → D} {g : α → PyData} (h : ∀ x, pd (f x) = some (g x)) : ∀ l : List α, pdL (l.map f) = some (l.map g)
  | [] => rfl
  | x :: l => by
    show consO (pd (f x)) (pdL (l.map f)) = _
    rw [h x, pdL_map h l]
    rfl
theorem pd_strs (ns : List Str) : pd (.lst (ns.map D.str)) = some (dStrs ns) := by
  show (pdL (ns.map D.str)).map PyData.list = _
  rw [pdL_map (g := PyData.str) (fun _ => rfl)]
  rfl
theorem eqvAll_map {α : Type} [DecidableEq α] {g : α → PyData} (h : ∀ x y, PyData.eqv (g x) (g y) = decide (x = y)) : ∀ l m : List α, PyData.eqvAll (l.map g) (m.map g) = decide (l = m)
  | [], [] => by simp [PyData.eqvAll]
  | [], y :: m => by simp [PyData.eqvAll]
  | x :: l, [] => by simp [PyData.eqvAll]
  | x :: l, y :: m => by
    simp only [List.map_cons, PyData.eqvAll]
    rw [h x y, eqvAll_map h l m]
    by_cases e : x = y
    · subst e
      by_cases e2 : l = m
      · subst e2
        simp
      · simp [e2]
    · simp [e]
theorem eqv_strs2 (a b : List Str) : PyData.eqv (dStrs a) (dStrs b) = decide (a = b) := by
  simp only [dStrs, PyData.eqv]
  exact eqvAll_map (g := PyData.str) (fun x y => by simp only [PyData.eqv]; exact beq_str x y) a b
theorem w_eqStrs {a b : List Str} {F : D → Prop} (ha : ∀ z ∈ a, Nm z) (hb : ∀ z ∈ b, Nm z) (h : F (.bl (decide (a = b)))) : oEqD false (.lst (a.map D.str)) (.lst (b.map D.str)) F :=
  ⟨_, _, pd_strs a, pd_strs b, sh_strs ha, sh_strs hb, by rw [eqv_strs2]; exact h⟩
theorem enum_map {α : Type} (f : α → D) (l : List α) : ((l.map f).zipIdx.map fun p => D.tup [.int (p.2 : Nat), p.1]) = l.zipIdx.map fun p => D.tup [.int (p.2 : Nat), f p.1] := by
  have h : ∀ (l : List α) (k : Nat), (l.map f).zipIdx k = (l.zipIdx k).map fun p => (f p.1, p.2) := by
    intro l
    induction l with
    | nil => intro k; rfl
    | cons a r ih => intro k; rw [List.map_cons, List.zipIdx_cons, List.zipIdx_cons, List.map_cons, ih]
  rw [h, List.map_map]
  rfl
theorem cut_toD {α : Type} (f : α → D) (l : List α) (n : Nat) (h : n ≤ l.length) : cutD (l.map f) none (some (n : Int)) = (l.take n).map f := by
  unfold cutD
  have e1 : HT.sIx (l.map f).length 0 none = 0 := rfl
  have e2 : HT.sIx (l.map f).length (l.map f).length (some (n : Int)) = n := by
    simp only [HT.sIx, List.length_map]
    rw [if_neg (by omega)]
    omega
  rw [e1, e2, List.drop_zero, Nat.sub_zero, List.map_take]
/-- of each two the lower one and the upper one are a pair -/
def RiseP (ps : List Pr) (zs : List Str) : Prop := ∀ (k j : Nat) (a b : Str), k < j → zs[k]? = some a → zs[j]? = some b → (a, b) ∈ ps
end L3
namespace L3
open PySem PySem.Spec PyProof.Rows L2 TB LamX
theorem shown_listG_le {B : Nat} {ds : List PyData} (h : ∀ d ∈ ds, d.shown.length ≤ B) : (PyData.list ds).shown.length ≤ ds.length * B + 2 * ds.length + 3 := by
  have := shown_list_le (f := id) (B := B) (l := ds) (fun x hx => h x hx)
  rw [List.map_id] at this
  exact this
theorem RiseP.mono {ps qs : List Pr} {zs : List Str} (h : RiseP ps zs) (s : ∀ p ∈ ps, p ∈ qs) : RiseP qs zs := fun k j a b hkj ha hb => s _ (h k j a b hkj ha hb)
theorem RiseP.take {ps : List Pr} {zs : List Str} (h : RiseP ps zs) (n : Nat) : RiseP ps (zs.take n) := by
  intro k j a b hkj ha hb
  rw [List.getElem?_take] at ha hb
  by_cases h1 : k < n
  · by_cases h2 : j < n
    · rw [if_pos h1] at ha
      rw [if_pos h2] at hb
      exact h k j a b hkj ha hb
    · rw [if_neg h2] at hb
      exact nomatch hb
  · rw [if_neg h1] at ha
    exact nomatch ha
theorem RiseP.tail {ps : List Pr} {y : Str} {r : List Str} (h : RiseP ps (y :: r)) : RiseP ps r ∧ ∀ w ∈ r, (y, w) ∈ ps := by
  refine ⟨fun k j a b hkj ha hb => h (k + 1) (j + 1) a b (by omega) (by simpa using ha) (by simpa using hb), fun w hw => ?_⟩
  obtain ⟨i, hi, e⟩ := List.getElem_of_mem hw
  exact h 0 (i + 1) y w (by omega) rfl (by rw [List.getElem?_cons_succ, List.getElem?_eq_getElem hi, e])
theorem RiseP.nodup {ps : List Pr} (h0 : ∀ a, ¬ Rch ps a a) : ∀ {zs : List Str}, RiseP ps zs → zs.Nodup
  | [], _ => List.nodup_nil
  | y :: r, h => by
    obtain ⟨h1, h2⟩ := h.tail
    exact List.nodup_cons.mpr ⟨fun m => h0 y (.one (h2 y m)), RiseP.nodup h0 h1⟩
/-- those behind are the last ones -/
theorem RiseP.gone {ps : List Pr} {z : Str} {fs : List Str} (hfs : ∀ u, u ∈ fs ↔ Rch ps z u) : ∀ {zs : List Str}, RiseP ps zs → zs.filter (fun u => decide (u ∈ fs)) = zs.drop (stayOf zs fs)
  | [], _ => rfl
  | y :: r, h => by
    obtain ⟨h1, h2⟩ := h.tail
    by_cases c : y ∈ fs
    · have e : stayOf (y :: r) fs = 0 := by
        unfold stayOf
        rw [List.takeWhile_cons_of_neg (by simp [c])]
        rfl
      rw [e, List.drop_zero]
      refine List.filter_eq_self.mpr (fun u hu => decide_eq_true ?_)
      rcases List.mem_cons.mp hu with rfl | hu
      · exact c
      · exact (hfs u).mpr (.step ((hfs y).mp c) (h2 u hu))
    · have e : stayOf (y :: r) fs = stayOf r fs + 1 := by
        unfold stayOf
        rw [List.takeWhile_cons_of_pos (by simp [c])]
        rfl
      rw [e, List.drop_succ_cons, List.filter_cons, if_neg (by rw [decide_eq_false c]; decide)]
      exact RiseP.gone hfs h1
end L3
namespace L3
open PySem PySem.Spec PyProof.Rows L2 TB LamX
end L3
namespace L3
open PySem PySem.Spec PyProof.Rows L2 TB LamX
end L3
namespace L3
open PySem PySem.Spec PyProof.Rows L2 TB LamX
theorem fng_imp {P : Program} {w : World} {K : PySem.W.Frag} {mg : Str → Option Value} {base : Heap} {CX : CXT} {k : Nat} {f : Addr} {fd : FuncData} {ps : List Str} {sp sp' : Sp} (F : FnG P w K mg base CX k f fd ps sp) (h : ∀ vs H Q E, sp' vs H Q E → sp vs H Q E) : FnG P w K mg base CX k f fd ps sp' :=
  ⟨fun vs H Q E q => F.lenG vs H Q E (h _ _ _ _ q), fun A outer s H args us vs Q E g hr he hb hv hs => F.runG A outer s H args us vs Q E g hr he hb hv (h _ _ _ _ hs)⟩
end L3
namespace PySem
open Sem (wp)
open AutoSeq1 (wpAny_loadPart')
end PySem
namespace TB
open PySem PySem.Spec PyProof.Rows L2
end TB
namespace PySem
end PySem
namespace TB
open PySem PySem.Spec PyProof.Rows L2
end TB
namespace TB
open PySem PySem.Spec PyProof.Rows L2
end TB
namespace L3
open PySem PySem.Spec PyProof.Rows L2 TB LamX
end L3
namespace L3
open PySem PySem.Spec PyProof.Rows L2 TB LamX
/-- all that stand ahead of z by a pair are among xs -/
def freeB (ps : List Pr) (z : Str) (xs : List Str) : Bool := ((ps.filter fun p => decide (p.2 = z)).map fun p => decide (p.1 ∈ xs)).all id
theorem freeB_iff {ps : List Pr} {z : Str} {xs : List Str} : freeB ps z xs = true ↔ ∀ a, (a, z) ∈ ps → a ∈ xs := by
  unfold freeB
  rw [List.all_map, List.all_eq_true]
  constructor
  · intro h a ha
    have := h (a, z) (List.mem_filter.mpr ⟨ha, decide_eq_true rfl⟩)
    simpa using this
  · intro h p hp
    obtain ⟨h1, h2⟩ := List.mem_filter.mp hp
    have e := of_decide_eq_true h2
    have := h p.1 (by rw [← e]; exact h1)
    simpa using this
def nextL (ls : List Str) (ps : List Pr) (fs : List Str) : List Str := ls.filter fun y => !decide (y ∈ fs) && freeB ps y fs
/-- a line so far: begun with xs, then always the first that may stand -/
structure GL (ls : List Str) (ps : List Pr) (xs fs : List Str) : Prop where
  nd : fs.Nodup
  mem : ∀ z ∈ fs, z ∈ ls
  pre : fs.take xs.length = xs
  len : xs.length ≤ fs.length
  free : ∀ i z, fs[i]? = some z → freeB ps z (fs.take i) = true
  least : ∀ i z, xs.length ≤ i → fs[i]? = some z → (nextL ls ps (fs.take i)).head? = some z
theorem GL.start {ls : List Str} {ps : List Pr} {xs : List Str} (nd : xs.Nodup) (mem : ∀ z ∈ xs, z ∈ ls) (free : ∀ i z, xs[i]? = some z → freeB ps z (xs.take i) = true) : GL ls ps xs xs :=
  ⟨nd, mem, List.take_length, Nat.le_refl _, free, fun i z h e => absurd (List.getElem?_eq_some_iff.mp e).1 (by omega)⟩
def PreOk (ps : List Pr) (xs : List Str) : Prop := ∀ i z, xs[i]? = some z → freeB ps z (xs.take i) = true
end L3
namespace L3
open PySem PySem.Spec PyProof.Rows L2 TB LamX
def tyD : D → Option String
  | .non => some "NoneType"
  | .bl _ => some "bool"
  | .int _ => some "int"
  | .str _ => some "str"
  | .lst _ => some "list"
  | .tup _ => some "tuple"
  | .dic _ _ => some "dict"
  | _ => none
def hgt (line some : List Str) : Int := line.foldl (fun a z => 2 * a + (if z ∈ some then 1 else 0)) 0
def pHeight : PSp := fun ds Q => ∃ line some : List Str, ds = [.lst (strsD line), .lst (strsD some)] ∧ line.length ≤ 40 ∧ (∀ z ∈ some, z ∈ line) ∧ some.Nodup ∧ Q (.val (.int (hgt line some))) none
/-- line is a line of the order -/
structure LineP (ls : List Str) (ps : List Pr) (line : List Str) : Prop where
  pm : line.Perm ls
  free : ∀ i z, line[i]? = some z → freeB ps z (line.take i) = true
theorem GL.line {ls : List Str} {ps : List Pr} {xs line : List Str} (g : GL ls ps xs line) (ok : OrdOk ls ps) (hl : line.length = ls.length) : LineP ls ps line := by
  refine ⟨?_, g.free⟩
  refine (List.perm_ext_iff_of_nodup g.nd ok.nd).mpr fun z => ⟨g.mem z, fun hz => ?_⟩
  by_cases c : z ∈ line
  · exact c
  · have h1 := nodup_le (l := z :: line) (m := ls) (List.nodup_cons.mpr ⟨c, g.nd⟩) (fun u hu => by
      rcases List.mem_cons.mp hu with rfl | hu
      · exact hz
      · exact g.mem u hu)
    rw [List.length_cons] at h1
    omega
end L3
namespace L3
open PySem PySem.Spec PyProof.Rows L2 TB LamX
open C8 (Cal Met Mak)
section
variable {X : Sx} {K : PySem.W.Frag}
theorem RVL.app {c : Ct} {F : Hp} {σ : L2.St} : ∀ {rs ss : List Rv} {vs ws : List V}, RVL c F σ rs vs → RVL c F σ ss ws → RVL c F σ (rs ++ ss) (vs ++ ws)
  | [], ss, vs, ws, h, k => by
    obtain rfl : vs = [] := h
    exact k
  | r :: rs, ss, vs, ws, h, k => by
    obtain ⟨v, t, rfl, q, z⟩ := h
    exact ⟨v, t ++ ws, rfl, q, RVL.app z k⟩
def rInD (K : PySem.W.Frag) (neg : Bool) : R2 := fun x y H Q => ∃ a ds, Dp K H x a ∧ (Dp K H y (.list ds) ∨ Dp K H y (.tuple ds)) ∧ PyData.canLayAll0 ds = true ∧ a.canLay0 = true ∧ a.depth ≤ 60 ∧ Q (.bl (if neg then !ds.any fun z => PyData.eqv z a else ds.any fun z => PyData.eqv z a)) H
def oInD (neg : Bool) : O2 := fun dx dy Q => ∃ a ds, pd dx = some a ∧ (pd dy = some (.list ds) ∨ pd dy = some (.tuple ds)) ∧ PyData.canLayAll0 ds = true ∧ a.canLay0 = true ∧ a.depth ≤ 60 ∧ Q (.bl (if neg then !ds.any fun z => PyData.eqv z a else ds.any fun z => PyData.eqv z a))
theorem lr_inD (neg : Bool) (hK : X.K = K := by rfl) : LiR X (rInD K neg) (oInD neg) := by
  subst hK
  intro c hX σ F H ρ x y dx dy Q Q3 R rx ry hq h
  subst hX
  obtain ⟨a, ds, e1, e2, l1, l2, l3, q⟩ := h
  exact ⟨a, ds, pd_rn R.sub rx e1, e2.elim (fun e => Or.inl (pd_rn R.sub ry e)) fun e => Or.inr (pd_rn R.sub ry e), l1, l2, l3, hq (.bl _) _ F H R (Same.refl F) rfl q⟩
def scrD (K : PySem.W.Frag) (ns : List Int) : D := .op ⟨fun F v => ∃ a, v = .ref a ∧ SqL K F a (ns.map V.int), fun s h => by
  obtain ⟨a, e, h⟩ := h
  exact ⟨a, e, sqL_mono s h⟩⟩
end
end L3
namespace OwnE
open PySem PySem.W
open Builtin
open AutoSeq1 (wpAny_loadPart')
end OwnE
namespace OwnE
open PySem PySem.Spec PyProof.Rows L2
section
variable {X : Cx} {pins : List (Addr × Obj)} {σ : L2.St} {H : Hp} {s : Shared} {A : Around} {E : Value → Shared → Prop} {C f a dx : Addr} {od : Option Obj} {x : V} {u : Value}
/-- the own == called -/
theorem call_own {CX : CXT} {n : Nat} {fd : FuncData} {ps : List Str} {sp : Sp} {Ex : XK} {y : V} {v : Value} {Q : VK} (F : FnOk X.prog X.w X.K X.mg X.base CX n f fd ps sp) (hb : Binds X.K fd ps []) (hx : Passes CX X Ex) (sb : Sub X n A) (I : Inv X pins σ H s) (rx : RelV x u) (ry : RelV y v)
    (h : sp [x, y] H Q Ex) : wpAny (model X.prog X.w) A (call (.ref f) [u, v]) (fun r s' => ∃ z H', Inv X pins σ H' s' ∧ RelV z r ∧ Q z H') X.xe s := by
  have e0 : Env0 X.prog X.w X.K X.mg X.base A X.stack s H := by
    have e := I.env0
    exact ⟨by rw [sb.fr]; exact e.frames, e.mod, e.bs, e.bsz, e.funs, e.frf, e.hok, e.bare⟩
  have hl := F.len _ _ _ _ h
  have r2 : Vals [x, y] [u, v] := .cons rx (.cons ry .nil)
  refine wpAny_call (codeAny_mono (F.run A X.stack s H ⟨[u, v], []⟩ [u, v] [x, y] _ Ex sb.room e0 (by
    have := hb s [u, v] I.kIn (by simpa using hl)
    simpa using this) r2 h) fun r s' hq => ?_)
  cases r with
  | error e => exact hx pins σ H s e s' I hq
  | ok fl =>
    cases fl with
    | ret w =>
      obtain ⟨z, H', I', rz, q⟩ := I.after hq
      exact ⟨z, H', I', rz, q⟩
    | next => exact False.elim hq
    | brk => exact False.elim hq
    | cont => exact False.elim hq
end
end OwnE
namespace HT
open PySem PySem.Spec PyProof.Rows
open PySem.SeqAt
end HT
namespace L2
open PySem PySem.Spec PyProof.Rows HT
end L2
namespace L3
open PySem PySem.Spec PyProof.Rows L2 TB LamX OwnE
open C8 (Cal Met Mak)
end L3
namespace L3
open PySem PySem.Spec PyProof.Rows L2 TB LamX OwnE
open C8 (Cal Met Mak)
section
variable {X : Sx} {K : PySem.W.Frag}
abbrev lifeD (C : Addr) (a b c d : D) : D := .ins C ["place", "hand", "drafts", "called"] [a, b, c, d]
theorem life_made {c : Ct} {F H : Hp} {σ : L2.St} {ρ : PSt} {C x dx : Addr} {v1 v2 v3 v4 : V} {a b e d : D} (R : Rel c F H σ ρ) (nx : H x = none) (ndx : H dx = none) (nxx : dx ≠ x) (h1 : Rp c.K F a v1) (h2 : Rp c.K F b v2) (h3 : Rp c.K F e v3) (h4 : Rp c.K F d v4) :
    ∃ F', Rel c F' (upd (upd (upd H dx (.own x)) x (.ins C dx [])) x (.ins C dx [("place", v1), ("hand", v2), ("drafts", v3), ("called", v4)])) σ ρ ∧ Same F F' ∧ Rp c.K F' (lifeD C a b e d) (.ref x) := by
  have ndx2 : upd H dx (.own x) x = none := by
    rw [upd_ne (fun z => nxx z.symm)]
    exact nx
  rw [upd_upd]
  have Ra := R.alloc (o := .own x) ndx trivial
  have Rb := Ra.alloc (o := .ins C dx [("place", v1), ("hand", v2), ("drafts", v3), ("called", v4)]) ndx2 trivial
  have fx : upd F dx (.own x) x = none := Ra.fnone ndx2
  have s2 : Same F (upd (upd F dx (.own x)) x (.ins C dx [("place", v1), ("hand", v2), ("drafts", v3), ("called", v4)])) := fun _ _ z => old_upd fx (old_upd (R.fnone ndx) z)
  refine ⟨_, Rb, s2, x, dx, [v1, v2, v3, v4], rfl, upd_same, ?_, _, _, rfl, h1.mono s2, _, _, rfl, h2.mono s2, _, _, rfl, h3.mono s2, _, _, rfl, h4.mono s2, rfl⟩
  exact old_upd fx upd_same
def qMkL (C : Addr) (g3 : List D → Option (List D)) (pk : QA) : QE := fun ρ Q => pk ρ fun rs ρ1 => ∃ ds a b c d, rs = ds.map Rv.val ∧ g3 ds = some [a, b, c, d] ∧ Q (.val (lifeD C a b c d)) ρ1
theorem rvl_vals {c : Ct} {F : Hp} {σ : L2.St} : ∀ {ds : List D} {vs : List V}, RVL c F σ (ds.map Rv.val) vs → RpL c.K F ds vs
  | [], vs, h => h
  | d :: ds, vs, h => by
    obtain ⟨v, t, rfl, q, z⟩ := h
    exact ⟨v, t, rfl, q, rvl_vals z⟩
theorem li_mkL {n : Nat} {C : Addr} {gV : List V → List V → List V} {E : XK} {tk : TA} {pk : QA} {g3 : List D → Option (List D)} (h1 : LiA X tk pk) (hn : ∀ ds e, g3 ds = some e → ds.length = n)
    (hg : ∀ (F : Hp) (x : V) (ds : List D) (zs : List V) (a b c d : D), RpL X.K F ds zs → g3 ds = some [a, b, c, d] → ∃ v1 v2 v3 v4, gV [x] zs = [x, v1, v2, v3, v4] ∧ Rp X.K F a v1 ∧ Rp X.K F b v2 ∧ Rp X.K F c v3 ∧ Rp X.K F d v4) : LiE X (tMakeK C 0 n (spLifeI C) gV E tNil tk) (qMkL C g3 pk) := by
  intro c hX σ F H ρ Q Q3 R hq h
  subst hX
  refine h1 c rfl σ F H ρ _ _ R ?_ h
  rintro rs ρ1 zs F1 H1 R1 s1 rv ⟨ds, a, b, e, d, rfl, hgd, q⟩
  have rl := rvl_vals rv
  refine ⟨rfl, by rw [rl.len]; exact hn _ _ hgd, fun x dx nx ndx nxx => ?_⟩
  obtain ⟨v1, v2, v3, v4, e1, r1, r2, r3, r4⟩ := hg F1 (.ref x) ds zs a b e d rl hgd
  rw [e1]
  obtain ⟨F', R', s', r'⟩ := life_made (C := C) R1 nx ndx nxx r1 r2 r3 r4
  exact ⟨x, dx, v1, v2, v3, v4, rfl, upd_same, rfl, hq (.val (lifeD C a b e d)) ρ1 (.ref x) F' _ R' (tr s1 s') r' q⟩
def oNeg : O1 := fun d Q => ∃ i, d = .int i ∧ Q (.int (-i))
theorem lu_neg : LiU X (rU fun i => .int (-i)) oNeg := by
  intro c hX σ F H ρ x dx Q Q3 R rx hq h
  obtain ⟨i, rfl, h⟩ := h
  obtain rfl : x = .int i := rx
  exact ⟨i, rfl, hq (.int _) _ F H R (Same.refl F) rfl h⟩
def clsD (C : Addr) : D := .op ⟨fun _ v => v = .ref C, fun _ h => h⟩
end
end L3
namespace L3
open PySem PySem.Spec PyProof.Rows L2 TB LamX OwnE
open C8 (Cal Met Mak)
section
variable {X : Sx} {K : PySem.W.Frag} {C : Addr} {te : TE} {pe : QE}
/-- how names stand for the four -/
structure GLif (K : PySem.W.Frag) (n : Nat) (gV : List V → List V → List V) (g3 : List D → Option (List D)) : Prop where
  len : ∀ ds e, g3 ds = some e → ds.length = n
  ok : ∀ (F : Hp) (x : V) (ds : List D) (zs : List V) (a b c d : D), RpL K F ds zs → g3 ds = some [a, b, c, d] → ∃ v1 v2 v3 v4, gV [x] zs = [x, v1, v2, v3, v4] ∧ Rp K F a v1 ∧ Rp K F b v2 ∧ Rp K F c v3 ∧ Rp K F d v4
theorem li_mkG {n : Nat} {gV : List V → List V → List V} {E : XK} {tk : TA} {pk : QA} {g3 : List D → Option (List D)} (g : GLif K n gV g3) (h1 : LiA X tk pk) (hK : X.K = K := by rfl) : LiE X (tMakeK C 0 n (spLifeI C) gV E tNil tk) (qMkL C g3 pk) := by
  subst hK
  exact li_mkL h1 g.len g.ok
theorem w_mkG {ρ : PSt} {g3 : List D → Option (List D)} {pk : QA} {Q : Rv → PSt → Prop} (h : pk ρ fun rs ρ1 => ∃ ds a b c d, rs = ds.map Rv.val ∧ g3 ds = some [a, b, c, d] ∧ Q (.val (lifeD C a b c d)) ρ1) : qMkL C g3 pk ρ Q := h
structure Four where
  place : Int
  hand : Int
  drafts : List (Str × Int)
  called : List Str
deriving DecidableEq
abbrev nD (p : Str × Int) : D := .tup [.str p.1, .int p.2]
def dN (p : Str × Int) : PyData := .tuple [.str p.1, .int p.2]
def dFour (f : Four) : PyData := .tuple [.int f.place, .int f.hand, .tuple (f.drafts.map dN), .tuple (f.called.map .str)]
/-- of texts and numbers that can be shown -/
structure FourOk (f : Four) : Prop where
  p0 : 0 ≤ f.place ∧ f.place ≤ 10 ^ 19
  h0 : -(10 ^ 19) ≤ f.hand ∧ f.hand ≤ 10 ^ 19
  d0 : ∀ p ∈ f.drafts, Nm p.1 ∧ -(10 ^ 19) ≤ p.2 ∧ p.2 ≤ 10 ^ 19
  c0 : ∀ z ∈ f.called, Nm z
  dl : f.drafts.length ≤ 20
  cl : f.called.length ≤ 20
theorem shown_int20 {i : Int} (h : i.natAbs < 10 ^ 20) : (PyData.int i).shown.length ≤ 21 := by
  have e := int_text_length_le10 (k := 20) (by decide) h
  show (Str.ofString (toString i)).length ≤ 21
  rw [PySem.ofString_length]; exact e
theorem FourOk.len {f : Four} (ok : FourOk f) : (dFour f).shown.length ≤ 14000 := by
  have e18 : ((10 : Int) ^ 19) = 10000000000000000000 := by decide
  have a1 := ok.p0
  have a2 := ok.h0
  rw [e18] at a1 a2
  have s1 := shown_int20 (i := f.place) (by omega)
  have s2 := shown_int20 (i := f.hand) (by omega)
  have n1 : ∀ x ∈ f.drafts, (dN x).shown.length ≤ 171 := fun x hx => by
    have b := ok.d0 x hx
    rw [e18] at b
    have l1 := shown_nm b.1
    have l2 := shown_int20 (i := x.2) (by omega)
    have := shown_tuple_le (B := 82) (ds := [.str x.1, .int x.2]) (fun d hd => by
      simp only [List.mem_cons, List.not_mem_nil, or_false] at hd
      rcases hd with rfl | rfl <;> omega)
    simp only [List.length_cons, List.length_nil] at this
    unfold dN
    omega
  have s3 := shown_tuple_le (B := 171) (ds := f.drafts.map dN) (fun d hd => by
    obtain ⟨x, hx, rfl⟩ := List.mem_map.mp hd
    exact n1 x hx)
  have s4 := shown_tuple_le (B := 82) (ds := f.called.map PyData.str) (fun d hd => by
    obtain ⟨x, hx, rfl⟩ := List.mem_map.mp hd
    exact shown_nm (ok.c0 x hx))
  rw [List.length_map] at s3 s4
  have c1 := ok.dl
  have c2 := ok.cl
  have s5 := shown_tuple_le (B := 3463) (ds := [.int f.place, .int f.hand, .tuple (f.drafts.map dN), .tuple (f.called.map .str)]) (fun d hd => by
    simp only [List.mem_cons, List.not_mem_nil, or_false] at hd
    rcases hd with rfl | rfl | rfl | rfl <;> omega)
  simp only [List.length_cons, List.length_nil] at s5
  unfold dFour
  omega
theorem io_1 {a : D} {i : Nat} : ∀ (k : Nat) (r : Rv), [Rv.val a, Rv.cell i][k]? = some r → k ≠ 1 → isCell r = false
  | 0, r, h, _ => by
    obtain rfl : Rv.val a = r := Option.some.inj h
    rfl
  | 1, r, h, n => absurd rfl n
  | k + 2, r, h, _ => nomatch h
end
end L3
namespace L3
open PySem PySem.Spec PyProof.Rows L2 TB LamX OwnE
/-- the first three -/
def three (f : Four) : List Four := [{ f with place := f.place + 1 }, { f with hand := f.hand + 1 }, { f with hand := -f.hand - 1 }]
end L3
namespace L3
open PySem PySem.Spec PyProof.Rows L2 TB LamX OwnE
open C8 (Cal Met Mak)
section
variable {K : PySem.W.Frag} {d c : Addr}
theorem rp_nilT {F : Hp} (hd : ∀ H, SqT K H d []) : Rp K F (.tup []) (.ref d) := ⟨d, [], rfl, hd F, rfl⟩
end
theorem Exit.kept {K : PySem.W.Frag} {F H F' H' : Hp} {vs : List V} {r : Rs} {o : Option (List D)} {v : V} (x : Exit ⟨K, []⟩ none F H vs F' H' r o v) : Same H H' := fun b ob e => x.step.kp b ob e (by intro z; exact nomatch z) (by intro z zz; exact nomatch zz)
end L3
namespace TB
open PySem PySem.Spec PyProof.Rows L2
end TB
namespace L3
open PySem PySem.Spec PyProof.Rows L2 TB LamX OwnE
open C8 (Cal Met Mak)
structure RIn (qs : List Pr) (a : Str) (fs lf : List Str) (h : Str) (i : Nat) : Prop where
  nd : fs.Nodup
  sub : ∀ z ∈ fs, Rch qs a z
  lft : ∀ z ∈ lf, z = a ∨ z ∈ fs
  hr : h = a ∨ h ∈ fs
  cl : ∀ z, z = a ∨ z ∈ fs → z ∈ lf ∨ z = h ∨ ∀ c, (z, c) ∈ qs → c ∈ fs
  dn : ∀ (j : Nat) c, j < i → qs[j]? = some (h, c) → c ∈ fs
structure RInv (qs : List Pr) (a : Str) (fs lf : List Str) : Prop where
  nd : fs.Nodup
  sub : ∀ z ∈ fs, Rch qs a z
  lft : ∀ z ∈ lf, z = a ∨ z ∈ fs
  cl : ∀ z, z = a ∨ z ∈ fs → z ∈ lf ∨ ∀ c, (z, c) ∈ qs → c ∈ fs
theorem RInv.done {qs : List Pr} {a : Str} {fs : List Str} (b : RInv qs a fs []) (z : Str) : z ∈ fs ↔ Rch qs a z := by
  refine ⟨b.sub z, fun h => ?_⟩
  induction h with
  | one m => exact (b.cl _ (Or.inl rfl)).elim (fun e => nomatch e) (fun e => e _ m)
  | step _ m ih => exact (b.cl _ (Or.inr ih)).elim (fun e => nomatch e) (fun e => e _ m)
theorem RIn.skip {qs : List Pr} {a h l z : Str} {fs lf : List Str} {i : Nat} (b : RIn qs a fs lf h i) (e : qs[i]? = some (l, z)) (n : l ≠ h ∨ z ∈ fs) : RIn qs a fs lf h (i + 1) := by
  refine ⟨b.nd, b.sub, b.lft, b.hr, b.cl, fun j c hj ej => ?_⟩
  by_cases c1 : j < i
  · exact b.dn j c c1 ej
  · obtain rfl : j = i := by omega
    rw [e] at ej
    cases Option.some.inj ej
    exact n.elim (fun n => absurd rfl n) id
theorem RIn.add {qs : List Pr} {a h z : Str} {fs lf : List Str} {i : Nat} (b : RIn qs a fs lf h i) (e : qs[i]? = some (h, z)) (n : z ∉ fs) : RIn qs a (fs ++ [z]) (lf ++ [z]) h (i + 1) := by
  have hm : (h, z) ∈ qs := List.mem_of_getElem? e
  have ap : ∀ {u}, u ∈ fs → u ∈ fs ++ [z] := fun m => List.mem_append_left _ m
  have az : z ∈ fs ++ [z] := List.mem_append_right _ (List.mem_singleton.mpr rfl)
  refine ⟨List.nodup_append.mpr ⟨b.nd, by simp, fun u hu v hv e2 => n (by rw [List.mem_singleton.mp hv] at e2; rw [← e2]; exact hu)⟩, fun u hu => ?_, fun u hu => ?_, b.hr.imp id ap, fun u hu => ?_, fun j c hj ej => ?_⟩
  · rcases List.mem_append.mp hu with m | m
    · exact b.sub u m
    · rw [List.mem_singleton.mp m]
      rcases b.hr with e2 | e2
      · rw [e2] at hm
        exact .one hm
      · exact .step (b.sub h e2) hm
  · rcases List.mem_append.mp hu with m | m
    · exact (b.lft u m).imp id ap
    · rw [List.mem_singleton.mp m]
      exact Or.inr az
  · have hu2 : (u = a ∨ u ∈ fs) ∨ u = z := by
      rcases hu with e2 | e2
      · exact Or.inl (Or.inl e2)
      · rcases List.mem_append.mp e2 with m | m
        · exact Or.inl (Or.inr m)
        · exact Or.inr (List.mem_singleton.mp m)
    rcases hu2 with e2 | e2
    · rcases b.cl u e2 with m | m | m
      · exact Or.inl (List.mem_append_left _ m)
      · exact Or.inr (Or.inl m)
      · exact Or.inr (Or.inr fun c hc => ap (m c hc))
    · rw [e2]
      exact Or.inl (List.mem_append_right _ (List.mem_singleton.mpr rfl))
  · by_cases c1 : j < i
    · exact ap (b.dn j c c1 ej)
    · obtain rfl : j = i := by omega
      rw [e] at ej
      cases Option.some.inj ej
      exact az
theorem RIn.out {qs : List Pr} {a h : Str} {fs lf : List Str} (b : RIn qs a fs lf h qs.length) : RInv qs a fs lf := by
  refine ⟨b.nd, b.sub, b.lft, fun z hz => ?_⟩
  rcases b.cl z hz with e | e | e
  · exact Or.inl e
  · refine Or.inr fun c hc => ?_
    rw [e] at hc
    obtain ⟨j, hj, ej⟩ := List.getElem_of_mem hc
    exact b.dn j c hj (by rw [List.getElem?_eq_getElem hj, ej])
  · exact Or.inr e
/-- pairs, one behind another, none of which closes a ring -/
structure LP (ls : List Str) (qs : List Pr) : Prop where
  mem : ∀ p ∈ qs, p.1 ∈ ls ∧ p.2 ∈ ls
  ne : ∀ p ∈ qs, p.1 ≠ p.2
  nd : qs.Nodup
  nr : ∀ (i : Nat) p, qs[i]? = some p → ¬ Rch (qs.take i) p.2 p.1
theorem LP.nil {ls : List Str} : LP ls [] := ⟨(fun _ z => nomatch z), (fun _ z => nomatch z), List.nodup_nil, fun i p e => by simp at e⟩
theorem LP.take {ls : List Str} {qs : List Pr} (h : LP ls qs) (n : Nat) : LP ls (qs.take n) := by
  refine ⟨fun u hu => h.mem u (List.mem_of_mem_take hu), fun u hu => h.ne u (List.mem_of_mem_take hu), h.nd.sublist (List.take_sublist _ _), fun i u e => ?_⟩
  have hi : i < n := by
    have := (List.getElem?_eq_some_iff.mp e).1
    rw [List.length_take] at this
    omega
  rw [List.getElem?_take_of_lt hi] at e
  rw [List.take_take, Nat.min_eq_left (Nat.le_of_lt hi)]
  exact h.nr i u e
/-- one pair more: ways that did not go before pass by it -/
theorem rch_snoc {qs : List Pr} {p : Pr} {a b : Str} (h : Rch (qs ++ [p]) a b) : Rch qs a b ∨ ((a = p.1 ∨ Rch qs a p.1) ∧ (b = p.2 ∨ Rch qs p.2 b)) ∨ Rch qs p.2 p.1 := by
  induction h with
  | @one b m =>
    rcases List.mem_append.mp m with m | m
    · exact Or.inl (.one m)
    · have e := List.mem_singleton.mp m
      subst e
      exact Or.inr (Or.inl ⟨Or.inl rfl, Or.inl rfl⟩)
  | @step b c _ m ih =>
    rcases List.mem_append.mp m with m | m
    · rcases ih with ih | ⟨h1, h2⟩ | ih
      · exact Or.inl (.step ih m)
      · refine Or.inr (Or.inl ⟨h1, Or.inr ?_⟩)
        rcases h2 with h2 | h2
        · rw [← h2]
          exact .one m
        · exact .step h2 m
      · exact Or.inr (Or.inr ih)
    · have e := List.mem_singleton.mp m
      subst e
      rcases ih with ih | ⟨h1, h2⟩ | ih
      · exact Or.inr (Or.inl ⟨Or.inr ih, Or.inl rfl⟩)
      · rcases h2 with h2 | h2
        · exact Or.inr (Or.inl ⟨h1, Or.inl rfl⟩)
        · exact Or.inr (Or.inr h2)
      · exact Or.inr (Or.inr ih)
theorem LP.ac {ls : List Str} : ∀ {n : Nat} {qs : List Pr}, qs.length = n → LP ls qs → ∀ a, ¬ Rch qs a a
  | 0, qs, e, h, a, r => by
    rw [List.eq_nil_of_length_eq_zero e] at r
    cases r with
    | one m => exact nomatch m
    | step _ m => exact nomatch m
  | n + 1, qs, e, h, a, r => by
    have hn : n < qs.length := by omega
    have e2 : qs = qs.take n ++ [qs[n]] := by
      rw [List.take_append_getElem hn, ← e, List.take_length]
    have hg : qs[n]? = some qs[n] := List.getElem?_eq_getElem hn
    have nr := h.nr n _ hg
    have ne := h.ne qs[n] (List.getElem_mem hn)
    have ih := LP.ac (n := n) (qs := qs.take n) (by rw [List.length_take]; omega) (h.take n)
    rw [e2] at r
    rcases rch_snoc r with r | ⟨h1, h2⟩ | r
    · exact ih a r
    · rcases h1 with h1 | h1
      · rcases h2 with h2 | h2
        · exact ne (h1.symm.trans h2)
        · rw [h1] at h2
          exact nr h2
      · rcases h2 with h2 | h2
        · rw [h2] at h1
          exact nr h1
        · exact nr (h2.trans h1)
    · exact nr r
theorem Rch.same {ps qs : List Pr} (h : ∀ z, z ∈ ps ↔ z ∈ qs) {a b : Str} : Rch ps a b ↔ Rch qs a b := ⟨fun r => r.mono fun p hp => (h p).mp hp, fun r => r.mono fun p hp => (h p).mpr hp⟩
theorem freeB_same {ps qs : List Pr} (h : ∀ z, z ∈ ps ↔ z ∈ qs) (z : Str) (xs : List Str) : freeB ps z xs = freeB qs z xs := by
  rw [Bool.eq_iff_iff, freeB_iff, freeB_iff]
  exact ⟨fun k a ha => k a ((h _).mpr ha), fun k a ha => k a ((h _).mp ha)⟩
theorem nextL_same {ps qs : List Pr} (h : ∀ z, z ∈ ps ↔ z ∈ qs) (ls fs : List Str) : nextL ls ps fs = nextL ls qs fs := by
  unfold nextL
  refine List.filter_congr fun y _ => ?_
  rw [freeB_same h]
theorem GL.swap {ls : List Str} {ps qs : List Pr} {xs fs : List Str} (h : ∀ z, z ∈ ps ↔ z ∈ qs) (g : GL ls qs xs fs) : GL ls ps xs fs :=
  ⟨g.nd, g.mem, g.pre, g.len, fun i z e => by rw [freeB_same h]; exact g.free i z e, fun i z l e => by rw [nextL_same h]; exact g.least i z l e⟩
end L3
namespace L3
open PySem PySem.Spec PyProof.Rows L2 TB LamX OwnE
open C8 (Cal Met Mak)
section
variable {X : Sx} {K : PySem.W.Frag}
def oLenS (K : PySem.W.Frag) : OL := fun as Q => ∃ ns : List Int, as = [scrD K ns] ∧ Q (.int ns.length)
theorem lc_lenS (hK : X.K = K := by rfl) : LiC X (rLenL K) (oLenS K) := by
  subst hK
  intro c hX σ F H ρ xs dxs Q Q3 R rx hq h
  subst hX
  obtain ⟨ns, rfl, h⟩ := h
  obtain ⟨v, t, rfl, ⟨a, rfl, ha⟩, et⟩ := rx
  obtain rfl : t = [] := et
  refine ⟨a, ns.map V.int, rfl, Or.inl (sqL_mono R.sub ha), ?_⟩
  rw [List.length_map]
  exact hq (.int _) _ F H R (Same.refl F) rfl h
theorem w_lenS {ns : List Int} {F : D → Prop} (h : F (.int ns.length)) : oLenS K [scrD K ns] F := ⟨ns, rfl, h⟩
/-- the script's length -/
def tScr (r : List V → Hp → VK → Prop) (ta : TA) : TE := tCB r ta
theorem toScr {Y : Cx} {e : Expr} {r : List V → Hp → VK → Prop} {ta : TA} (h : PE Y e (tCB r ta)) : PE Y e (tScr r ta) := h
theorem li_scr {ta : TA} {pa : QA} (ha : LiA X ta pa) (hK : X.K = K := by rfl) : LiE X (tScr (rLenL K) ta) (qCB (oLenS K) pa) := li_cb (lc_lenS hK) ha
def oMM (f : Int → Int → Int) : OL := fun as Q => ∃ i j, as = [.int i, .int j] ∧ Q (.int (f i j))
theorem lc_mm (f : Int → Int → Int) : LiC X (fun xs H Q => ∃ i j, xs = [.int i, .int j] ∧ Q (.int (f i j)) H) (oMM f) := by
  intro c hX σ F H ρ xs dxs Q Q3 R rx hq h
  obtain ⟨i, j, rfl, h⟩ := h
  obtain ⟨v, t, rfl, e1, v2, t2, rfl, e2, et⟩ := rx
  obtain rfl : t2 = [] := et
  obtain rfl : v = .int i := e1
  obtain rfl : v2 = .int j := e2
  exact ⟨i, j, rfl, hq (.int _) _ F H R (Same.refl F) rfl h⟩
theorem lc_max : LiC X (fun xs H Q => ∃ i j, xs = [.int i, .int j] ∧ Q (.int (if j > i then j else i)) H) (oMM fun i j => if j > i then j else i) := lc_mm _
theorem lc_min : LiC X (fun xs H Q => ∃ i j, xs = [.int i, .int j] ∧ Q (.int (if j < i then j else i)) H) (oMM fun i j => if j < i then j else i) := lc_mm _
theorem w_mm {f : Int → Int → Int} {i j : Int} {F : D → Prop} (h : F (.int (f i j))) : oMM f [.int i, .int j] F := ⟨i, j, rfl, h⟩
def pPot (K : PySem.W.Frag) : PSp := fun ds Q => ∃ (ns : List Int) (k : Int), ds = [scrD K ns, .int k] ∧ 0 ≤ k ∧ k < 1000 ∧ Q (.val potD) none
theorem i_pot {spD : Sp} (hs : ∀ (l : Addr) (ns : List Int) (k : Int) (H : Hp) (Q : VK) (E : XK), SqL X.K H l (ns.map V.int) → 0 ≤ k → k < 1000 → NoT H → (∀ p : Addr, H p = none → Q (.ref p) (upd H p (PotO p))) → spD [.ref l, .int k] H Q E) : ∀ vs H Q E, lsp X none (pPot X.K) vs H Q E → spD vs H Q E := by
  rintro vs H Q E ⟨F, ds, Q3, en, ⟨ns, k, rfl, h0, h1, h⟩, hQ⟩
  obtain ⟨v1, v2, rfl, ⟨a, rfl, ha⟩, e2⟩ := rpl2 en.rpl
  obtain rfl : v2 = .int k := e2
  refine hs a ns k H Q E (sqL_mono en.sub ha) h0 h1 en.nt fun p np => ?_
  exact hQ (.val potD) none (.ref p) (upd F p (PotO p)) (upd H p (PotO p)) ⟨(en.rel []).alloc np trivial, ⟨p, rfl, upd_same⟩, fun _ _ z => nomatch z⟩ h
end
def pLaw (K : PySem.W.Frag) : PSp := fun ds Q => ∃ ns : List Int, ds = [scrD K ns] ∧ ns.length ≤ 63 ∧ Q (.val (.bl true)) none
theorem range_at {m i : Nat} {d : D} (e : ((List.range m).map fun i : Nat => D.int (0 + (i : Int)))[i]? = some d) : i < m ∧ d = .int (i : Int) := by
  have h1 := (List.getElem?_eq_some_iff.mp e).1
  rw [List.length_map, List.length_range] at h1
  rw [List.getElem?_map, List.getElem?_range h1] at e
  refine ⟨h1, ?_⟩
  have e2 : d = D.int (0 + (i : Int)) := (Option.some.inj e).symm
  rw [Int.zero_add] at e2
  exact e2
end L3
namespace L3
open PySem PySem.Spec PyProof.Rows L2 TB LamX OwnE
open C8 (Cal Met Mak)
theorem lt_nt {x y z : List Int} (h : ¬ y < x) (k : ¬ z < y) : ¬ z < x := fun l => by
  have h1 : x ≤ y := List.not_lt.mp h
  have h2 : y ≤ z := List.not_lt.mp k
  exact (List.not_lt.mpr (List.le_trans h1 h2)) l
end L3
namespace TB
open PySem PySem.Spec PyProof.Rows L2 L3
end TB
namespace L3
open PySem PySem.Spec PyProof.Rows L2 TB LamX OwnE
end L3
namespace L3
open PySem PySem.Spec PyProof.Rows L2 TB LamX OwnE
end L3
namespace L3
open PySem PySem.Spec PyProof.Rows L2 TB LamX OwnE
abbrev WK := Int × List Int
def kltW (p q : WK) : Prop := p.1 < q.1 ∨ (p.1 = q.1 ∧ p.2 < q.2)
instance (p q : WK) : Decidable (kltW p q) := inferInstanceAs (Decidable (_ ∨ _))
theorem kltW_tr {p q r : WK} (h : ¬ kltW q p) (k : ¬ kltW r q) : ¬ kltW r p := by
  unfold kltW at *
  intro l
  have h1 : ¬ q.1 < p.1 := fun z => h (Or.inl z)
  have k1 : ¬ r.1 < q.1 := fun z => k (Or.inl z)
  rcases l with l | ⟨l, m⟩
  · omega
  · have e1 : q.1 = p.1 := by omega
    have e2 : r.1 = q.1 := by omega
    exact lt_nt (fun z => h (Or.inr ⟨e1, z⟩)) (fun z => k (Or.inr ⟨e2, z⟩)) m
theorem kltW_as {p q : WK} (h : kltW p q) : ¬ kltW q p := by
  unfold kltW at *
  intro l
  rcases h with h | ⟨h, m⟩ <;> rcases l with l | ⟨l, n⟩
  · omega
  · omega
  · omega
  · exact List.lt_asymm m n
end L3
namespace L3
open PySem PySem.Spec PyProof.Rows L2 TB LamX OwnE
def placesOf (ls line : List Str) : List Int := line.map fun z => (ixS ls z : Int)
theorem ixS_of {ls : List Str} (nd : ls.Nodup) {k : Nat} {z : Str} (h : ls[k]? = some z) : ixS ls z = k := by
  obtain ⟨h1, h2⟩ := ixS_at (List.mem_of_getElem? h)
  obtain ⟨hk, e⟩ := List.getElem?_eq_some_iff.mp h
  obtain ⟨hj, e2⟩ := List.getElem?_eq_some_iff.mp h1
  exact (List.getElem_inj nd).mp (e2.trans e.symm)
/-- a full line: all locks -/
structure Full (ls : List Str) (qs : List Pr) (line : List Str) : Prop where
  nd : ls.Nodup
  mem : ∀ p ∈ qs, p.1 ∈ ls ∧ p.2 ∈ ls
  gl : GL ls qs [] line
  len : line.length = ls.length
theorem Full.all {ls : List Str} {qs : List Pr} {line : List Str} (h : Full ls qs line) : ∀ z, z ∈ line ↔ z ∈ ls := by
  intro z
  refine ⟨h.gl.mem z, fun hz => ?_⟩
  by_cases c : z ∈ line
  · exact c
  · have h1 := nodup_le (l := z :: line) (m := ls) (List.nodup_cons.mpr ⟨c, h.gl.nd⟩) (fun u hu => by
      rcases List.mem_cons.mp hu with rfl | hu
      · exact hz
      · exact h.gl.mem u hu)
    have := h.len
    rw [List.length_cons] at h1
    omega
theorem Full.perm {ls : List Str} {qs : List Pr} {line : List Str} (h : Full ls qs line) : line.Perm ls := (List.perm_ext_iff_of_nodup h.gl.nd h.nd).mpr h.all
/-- of those that may stand next it is the first -/
theorem head_first {ls : List Str} (nd : ls.Nodup) {P : Str → Bool} {z u : Str} (h : (ls.filter P).head? = some z) (hu : u ∈ ls) (pu : P u = true) : ixS ls z ≤ ixS ls u := by
  induction ls with
  | nil => exact nomatch hu
  | cons a r ih =>
    by_cases c : P a = true
    · rw [List.filter_cons_of_pos c] at h
      obtain rfl : a = z := Option.some.inj h
      rw [ixS_of nd (k := 0) rfl]
      exact Nat.zero_le _
    · rw [List.filter_cons_of_neg c] at h
      have hua : u ≠ a := fun e => c (e ▸ pu)
      have hur : u ∈ r := (List.mem_cons.mp hu).resolve_left hua
      have ndr := (List.nodup_cons.mp nd).2
      have h2 := ih ndr h hur
      have hz : z ∈ r := by
        have := List.mem_of_mem_head? (by rw [h]; rfl : z ∈ (r.filter P).head?)
        exact (List.mem_filter.mp this).1
      have e1 : ixS (a :: r) u = ixS r u + 1 := ixS_of nd (by rw [List.getElem?_cons_succ]; exact (ixS_at hur).1)
      have e2 : ixS (a :: r) z = ixS r z + 1 := ixS_of nd (by rw [List.getElem?_cons_succ]; exact (ixS_at hz).1)
      omega
/-- one that might stand earlier doesn't stand free -/
theorem Full.least {ls : List Str} {qs : List Pr} {line : List Str} (h : Full ls qs line) {k : Nat} {z u : Str} (hk : line[k]? = some z) (hu : u ∈ ls) (n : u ∉ line.take k) (f : freeB qs u (line.take k) = true) : ixS ls z ≤ ixS ls u := by
  have h1 := h.gl.least k z (Nat.zero_le _) hk
  refine head_first h.nd h1 hu ?_
  rw [f, decide_eq_false n]
  rfl
theorem GL.bare {ls : List Str} (nd : ls.Nodup) : GL ls [] [] ls := by
  refine ⟨nd, fun _ h => h, rfl, Nat.zero_le _, (fun i z _ => freeB_iff.mpr fun a ha => nomatch ha), fun i z _ e => ?_⟩
  unfold nextL
  have e1 : ls = ls.take i ++ ls.drop i := (List.take_append_drop i ls).symm
  have e2 : (ls.filter fun y => !decide (y ∈ ls.take i) && freeB [] y (ls.take i)) = ls.drop i := by
    have f0 : ∀ y, freeB [] y (ls.take i) = true := fun y => freeB_iff.mpr fun a ha => nomatch ha
    have h1 : (ls.take i ++ ls.drop i).filter (fun y => !decide (y ∈ ls.take i) && freeB [] y (ls.take i)) = ls.drop i := by
      rw [List.filter_append]
      have a1 : (ls.take i).filter (fun y => !decide (y ∈ ls.take i) && freeB [] y (ls.take i)) = [] := List.filter_eq_nil_iff.mpr fun y hy => by
        rw [decide_eq_true hy]
        simp
      have a2 : (ls.drop i).filter (fun y => !decide (y ∈ ls.take i) && freeB [] y (ls.take i)) = ls.drop i := List.filter_eq_self.mpr fun y hy => by
        have nin : y ∉ ls.take i := fun hm => by
          rw [e1] at nd
          exact (List.nodup_append.mp nd).2.2 y hm y hy rfl
        rw [decide_eq_false nin, f0 y]
        rfl
      rw [a1, a2]
      rfl
    rw [List.take_append_drop] at h1
    exact h1
  rw [e2, List.head?_drop]
  exact e
end L3
namespace L3
open PySem PySem.Spec PyProof.Rows L2 TB LamX OwnE
/-- w is a way by pairs from a -/
inductive Way (ps : List Pr) (a : Str) : List Str → Prop
  | one : Way ps a [a]
  | step {w : List Str} {u v : Str} : Way ps a w → w.getLast? = some u → (u, v) ∈ ps → Way ps a (w ++ [v])
theorem Way.ne {ps : List Pr} {a : Str} {w : List Str} (h : Way ps a w) : w ≠ [] := by
  cases h with
  | one => simp
  | step _ _ _ => simp
theorem last_snoc (w : List Str) (v : Str) : (w ++ [v]).getLast? = some v := by simp
theorem Way.mem {ls : List Str} {ps : List Pr} (hm : ∀ p ∈ ps, p.1 ∈ ls ∧ p.2 ∈ ls) {a : Str} (ha : a ∈ ls) {w : List Str} (h : Way ps a w) : ∀ z ∈ w, z ∈ ls := by
  induction h with
  | one =>
    intro z hz
    rw [List.mem_singleton.mp hz]
    exact ha
  | step _ _ m ih =>
    intro z hz
    rcases List.mem_append.mp hz with h | h
    · exact ih z h
    · rw [List.mem_singleton.mp h]
      exact (hm _ m).2
/-- the key of a way -/
def keyW (ls : List Str) (w : List Str) : WK := ((w.length : Int), placesOf ls w)
def kLt (ls : List Str) (u w : List Str) : Prop := kltW (keyW ls u) (keyW ls w)
theorem placesOf_len (ls w : List Str) : (placesOf ls w).length = w.length := by
  unfold placesOf
  rw [List.length_map]
theorem placesOf_snoc (ls w : List Str) (v : Str) : placesOf ls (w ++ [v]) = placesOf ls w ++ [(ixS ls v : Int)] := by
  unfold placesOf
  rw [List.map_append]
  rfl
theorem lt_app {p q : List Int} (hl : p.length = q.length) (h : p < q) (i j : Int) : p ++ [i] < q ++ [j] := by
  rcases List.lt_iff_exists.mp h with ⟨_, l⟩ | ⟨k, h1, h2, same, less⟩
  · omega
  · refine List.lt_iff_exists.mpr (Or.inr ⟨k, by rw [List.length_append]; omega, by rw [List.length_append]; omega, fun j hj => ?_, ?_⟩)
    · rw [List.getElem_append_left (by omega), List.getElem_append_left (by omega)]
      exact same j hj
    · rw [List.getElem_append_left h1, List.getElem_append_left h2]
      exact less
theorem lt_last (p : List Int) {i j : Int} (h : i < j) : p ++ [i] < p ++ [j] := by
  refine List.lt_iff_exists.mpr (Or.inr ⟨p.length, by simp, by simp, fun k hk => ?_, ?_⟩)
  · rw [List.getElem_append_left hk, List.getElem_append_left hk]
  · simp
    exact h
theorem kLt_snoc {ls u w : List Str} (h : kLt ls u w) (x y : Str) : kLt ls (u ++ [x]) (w ++ [y]) := by
  unfold kLt kltW keyW at *
  simp only [List.length_append, List.length_singleton, placesOf_snoc] at *
  rcases h with h | ⟨h, l⟩
  · exact Or.inl (by omega)
  · refine Or.inr ⟨by omega, lt_app (by rw [placesOf_len, placesOf_len]; omega) l _ _⟩
theorem kLt_last {ls : List Str} (w : List Str) {x y : Str} (h : ixS ls x < ixS ls y) : kLt ls (w ++ [x]) (w ++ [y]) := by
  unfold kLt kltW keyW
  simp only [List.length_append, List.length_singleton, placesOf_snoc]
  exact Or.inr ⟨trivial, lt_last _ (by omega)⟩
theorem kLt_len {ls u w : List Str} (h : u.length < w.length) : kLt ls u w := Or.inl (by show (u.length : Int) < w.length; omega)
theorem kLt_irr {ls u : List Str} : ¬ kLt ls u u := fun h => kltW_as h h
theorem kLt_tr {ls u v w : List Str} (h : kLt ls u v) (k : kLt ls v w) : kLt ls u w := by
  by_cases c : kLt ls u w
  · exact c
  · exact absurd h (kltW_tr (kltW_as k) c)
theorem kLt_le {ls u v w : List Str} (h : ¬ kLt ls v u) (k : kLt ls v w) : kLt ls u w := by
  by_cases c : kLt ls u w
  · exact c
  · exact absurd k (kltW_tr c h)
def endOf (w : List Str) : Str := w.getLast?.getD Str.empty
theorem endOf_snoc (w : List Str) (v : Str) : endOf (w ++ [v]) = v := by
  unfold endOf
  rw [last_snoc]
  rfl
theorem endOf_last {w : List Str} (h : w ≠ []) : w.getLast? = some (endOf w) := by
  unfold endOf
  obtain ⟨v, e⟩ : ∃ v, w.getLast? = some v := ⟨w.getLast h, List.getLast?_eq_some_getLast h⟩
  rw [e]
  rfl
structure Bfs (ls : List Str) (ps : List Pr) (a : Str) (W : List (List Str)) (i : Nat) : Prop where
  way : ∀ w ∈ W, Way ps a w
  nd : (W.map endOf).Nodup
  srt : W.Pairwise (kLt ls)
  st : [a] ∈ W
  cl : ∀ (j : Nat) w, j < i → W[j]? = some w → ∀ v, (endOf w, v) ∈ ps → v ∈ W.map endOf
  min : ∀ w ∈ W, ∀ q, Way ps a q → endOf q = endOf w → ¬ kLt ls q w
/-- in the midst of a round: cs is what has been gone through -/
structure BfsM (ls : List Str) (ps : List Pr) (a : Str) (W : List (List Str)) (i : Nat) (wi : List Str) (cs : List Str) : Prop where
  b : Bfs ls ps a W i
  at_ : W[i]? = some wi
  dn : ∀ v ∈ cs, v ∈ W.map endOf
  low : ∀ w ∈ W, w = [a] ∨ ∃ u x, w = u ++ [x] ∧ (kLt ls u wi ∨ (u = wi ∧ x ∈ cs))
theorem Bfs.get_lt {ls : List Str} {ps : List Pr} {a : Str} {W : List (List Str)} {i j k : Nat} {u w : List Str} (h : Bfs ls ps a W i) (hj : W[j]? = some u) (hk : W[k]? = some w) (l : kLt ls u w) : j < k := by
  by_cases c : j < k
  · exact c
  · exfalso
    obtain ⟨h1, e1⟩ := List.getElem?_eq_some_iff.mp hj
    obtain ⟨h2, e2⟩ := List.getElem?_eq_some_iff.mp hk
    by_cases c2 : k = j
    · subst c2
      rw [e1] at e2
      rw [e2] at l
      exact kLt_irr l
    · have := List.pairwise_iff_getElem.mp h.srt k j h2 h1 (by omega)
      rw [e1, e2] at this
      exact kltW_as l this
/-- what is less than the way at i has its end among those found -/
theorem Bfs.below {ls : List Str} {ps : List Pr} {a : Str} {W : List (List Str)} {i : Nat} {wi : List Str} (h : Bfs ls ps a W i) (hi : W[i]? = some wi) {q : List Str} (hq : Way ps a q) : kLt ls q wi → endOf q ∈ W.map endOf := by
  induction hq with
  | one => exact fun _ => List.mem_map.mpr ⟨[a], h.st, rfl⟩
  | @step q u v hq hu m ih =>
    intro l
    have l1 : kLt ls q wi := kLt_tr (kLt_len (by rw [List.length_append, List.length_singleton]; omega)) l
    obtain ⟨w, hw, e⟩ := List.mem_map.mp (ih l1)
    obtain ⟨j, hj, ej⟩ := List.getElem_of_mem hw
    have gj : W[j]? = some w := by rw [List.getElem?_eq_getElem hj, ej]
    have l2 : kLt ls w wi := kLt_le (h.min w hw q hq e.symm) l1
    have hji := h.get_lt gj hi l2
    rw [endOf_snoc]
    refine h.cl j w hji gj v ?_
    have eu : endOf q = u := by
      unfold endOf
      rw [hu]
      rfl
    rw [e, eu]
    exact m
theorem BfsM.add {ls : List Str} {ps : List Pr} {a : Str} {W : List (List Str)} {i : Nat} {wi cs : List Str} {v : Str} (h : BfsM ls ps a W i wi cs) (hm : (endOf wi, v) ∈ ps) (hn : v ∉ W.map endOf) (hc : ∀ x ∈ cs, ixS ls x < ixS ls v) :
    BfsM ls ps a (W ++ [wi ++ [v]]) i wi (cs ++ [v]) := by
  have hwi : wi ∈ W := List.mem_of_getElem? h.at_
  have hil : i < W.length := (List.getElem?_eq_some_iff.mp h.at_).1
  have wy := h.b.way wi hwi
  have wnew : Way ps a (wi ++ [v]) := .step wy (endOf_last wy.ne) hm
  have me : ∀ {x}, x ∈ W.map endOf → x ∈ (W ++ [wi ++ [v]]).map endOf := fun hx => by rw [List.map_append]; exact List.mem_append_left _ hx
  have mv : v ∈ (W ++ [wi ++ [v]]).map endOf := List.mem_map.mpr ⟨wi ++ [v], List.mem_append_right _ (List.mem_singleton.mpr rfl), endOf_snoc _ _⟩
  have wpos : 1 ≤ wi.length := by
    have := wy.ne
    cases wi with
    | nil => exact absurd rfl this
    | cons _ _ => rw [List.length_cons]; omega
  refine ⟨⟨fun w hw => ?_, ?_, ?_, List.mem_append_left _ h.b.st, fun j w hj e x hx => ?_, fun w hw q hq e => ?_⟩, by rw [List.getElem?_append_left hil]; exact h.at_, fun x hx => ?_, fun w hw => ?_⟩
  · rcases List.mem_append.mp hw with m | m
    · exact h.b.way w m
    · rw [List.mem_singleton.mp m]
      exact wnew
  · rw [List.map_append, List.nodup_append]
    refine ⟨h.b.nd, by simp, fun x hx y hy e => hn ?_⟩
    have ey : y = v := by
      have := List.mem_singleton.mp hy
      rw [this, endOf_snoc]
    rw [← ey, ← e]
    exact hx
  · rw [List.pairwise_append]
    refine ⟨h.b.srt, by simp, fun w hw y hy => ?_⟩
    rw [List.mem_singleton.mp hy]
    rcases h.low w hw with e | ⟨u, x, e, l | ⟨e2, hx⟩⟩
    · rw [e]
      exact kLt_len (by rw [List.length_append, List.length_singleton, List.length_singleton]; omega)
    · rw [e]
      exact kLt_snoc l x v
    · rw [e, e2]
      exact kLt_last wi (hc x hx)
  · have hj2 : j < W.length := by omega
    rw [List.getElem?_append_left hj2] at e
    exact me (h.b.cl j w hj e x hx)
  · rcases List.mem_append.mp hw with m | m
    · exact h.b.min w m q hq e
    · have ew := List.mem_singleton.mp m
      subst ew
      rw [endOf_snoc] at e
      intro l
      cases hq with
      | one =>
        have : endOf [a] = v := e
        exact hn (List.mem_map.mpr ⟨[a], h.b.st, this⟩)
      | @step q u v' hq hu m2 =>
        rw [endOf_snoc] at e
        subst e
        have l1 : kLt ls q wi := by
          unfold kLt kltW keyW at l ⊢
          simp only [List.length_append, List.length_singleton, placesOf_snoc] at l
          rcases l with l | ⟨l, p⟩
          · exact Or.inl (by show (q.length : Int) < wi.length; omega)
          · have el : (placesOf ls q).length = (placesOf ls wi).length := by
              rw [placesOf_len, placesOf_len]
              omega
            refine Or.inr ⟨by show (q.length : Int) = wi.length; omega, ?_⟩
            by_cases c : placesOf ls q < placesOf ls wi
            · exact c
            · exfalso
              by_cases c2 : placesOf ls wi < placesOf ls q
              · exact List.lt_asymm p (lt_app el.symm c2 _ _)
              · have ep : placesOf ls q = placesOf ls wi := List.le_antisymm (List.not_lt.mp c2) (List.not_lt.mp c)
                rw [ep] at p
                exact List.lt_irrefl _ p
        obtain ⟨w, hw2, e2⟩ := List.mem_map.mp (h.b.below h.at_ hq l1)
        obtain ⟨j, hj, ej⟩ := List.getElem_of_mem hw2
        have gj : W[j]? = some w := by rw [List.getElem?_eq_getElem hj, ej]
        have l2 : kLt ls w wi := kLt_le (h.b.min w hw2 q hq e2.symm) l1
        have eu : endOf q = u := by
          unfold endOf
          rw [hu]
          rfl
        exact hn (h.b.cl j w (h.b.get_lt gj h.at_ l2) gj _ (by rw [e2, eu]; exact m2))
  · rcases List.mem_append.mp hx with m | m
    · exact me (h.dn x m)
    · rw [List.mem_singleton.mp m]
      exact mv
  · rcases List.mem_append.mp hw with m | m
    · rcases h.low w m with e | ⟨u, x, e, l | ⟨e2, hx⟩⟩
      · exact Or.inl e
      · exact Or.inr ⟨u, x, e, Or.inl l⟩
      · exact Or.inr ⟨u, x, e, Or.inr ⟨e2, List.mem_append_left _ hx⟩⟩
    · exact Or.inr ⟨wi, v, List.mem_singleton.mp m, Or.inr ⟨rfl, List.mem_append_right _ (List.mem_singleton.mpr rfl)⟩⟩
theorem BfsM.skip {ls : List Str} {ps : List Pr} {a : Str} {W : List (List Str)} {i : Nat} {wi cs : List Str} {v : Str} (h : BfsM ls ps a W i wi cs) (hn : v ∈ W.map endOf) : BfsM ls ps a W i wi (cs ++ [v]) := by
  refine ⟨h.b, h.at_, fun x hx => ?_, fun w hw => ?_⟩
  · rcases List.mem_append.mp hx with m | m
    · exact h.dn x m
    · rw [List.mem_singleton.mp m]
      exact hn
  · rcases h.low w hw with e | ⟨u, x, e, l | ⟨e2, hx⟩⟩
    · exact Or.inl e
    · exact Or.inr ⟨u, x, e, Or.inl l⟩
    · exact Or.inr ⟨u, x, e, Or.inr ⟨e2, List.mem_append_left _ hx⟩⟩
/-- the round's end, the next one's beginning -/
theorem BfsM.next {ls : List Str} {ps : List Pr} {a : Str} {W : List (List Str)} {i : Nat} {wi cs : List Str} (h : BfsM ls ps a W i wi cs) (hall : ∀ v, (endOf wi, v) ∈ ps → v ∈ cs) : Bfs ls ps a W (i + 1) := by
  refine ⟨h.b.way, h.b.nd, h.b.srt, h.b.st, fun j w hj e v hv => ?_, h.b.min⟩
  by_cases c : j < i
  · exact h.b.cl j w c e v hv
  · obtain rfl : j = i := by omega
    rw [h.at_] at e
    obtain rfl := Option.some.inj e
    exact h.dn v (hall v hv)
/-- as long as the goal hasn't been met there is a further way -/
theorem Bfs.more {ls : List Str} {ps : List Pr} {a b : Str} {W : List (List Str)} {i : Nat} (h : Bfs ls ps a W i) (hr : Rch ps a b) (hb : ∀ (j : Nat) w, j < i → W[j]? = some w → endOf w ≠ b) : i < W.length := by
  by_cases c : i < W.length
  · exact c
  · exfalso
    have cl : ∀ w ∈ W, ∀ v, (endOf w, v) ∈ ps → v ∈ W.map endOf := fun w hw v hv => by
      obtain ⟨j, hj, ej⟩ := List.getElem_of_mem hw
      exact h.cl j w (by omega) (by rw [List.getElem?_eq_getElem hj, ej]) v hv
    have key : ∀ {x}, Rch ps a x → x ∈ W.map endOf := by
      intro x r
      induction r with
      | one m => exact cl [a] h.st _ m
      | step _ m ih =>
        obtain ⟨w, hw, e⟩ := List.mem_map.mp ih
        exact cl w hw _ (by rw [e]; exact m)
    obtain ⟨w, hw, e⟩ := List.mem_map.mp (key hr)
    obtain ⟨j, hj, ej⟩ := List.getElem_of_mem hw
    exact hb j w (by omega) (by rw [List.getElem?_eq_getElem hj, ej]) e
/-- the least of the shortest ways from a to b -/
structure Best (ls : List Str) (ps : List Pr) (a b : Str) (w : List Str) : Prop where
  way : Way ps a w
  last : w.getLast? = some b
  min : ∀ q, Way ps a q → q.getLast? = some b → ¬ kLt ls q w
end L3
namespace L3
open PySem PySem.Spec PyProof.Rows L2 TB LamX OwnE
end L3
namespace L3
open PySem PySem.Spec PyProof.Rows L2 TB LamX OwnE
/-- the ways as they stand: the list at wa of lists, none of them met before -/
structure WAt (H0 H : Hp) (wa ma : Addr) (as : List Addr) (W : List (List Str)) : Prop where
  len : as.length = W.length
  at_ : ∀ (j : Nat) p w, as[j]? = some p → W[j]? = some w → H p = some (.lst (w.map V.str)) ∧ H0 p = none ∧ p ≠ wa ∧ p ≠ ma
theorem WAt.keep {H0 H H' : Hp} {wa ma : Addr} {as : List Addr} {W : List (List Str)} (h : WAt H0 H wa ma as W) (k : ∀ b o, H b = some o → b ≠ wa → b ≠ ma → H' b = some o) : WAt H0 H' wa ma as W :=
  ⟨h.len, fun j p w h1 h2 => by
    obtain ⟨a, b, c, d⟩ := h.at_ j p w h1 h2
    exact ⟨k p _ a c d, b, c, d⟩⟩
theorem Way.len {ls : List Str} {ps : List Pr} {a : Str} {W : List (List Str)} {i : Nat} (ok : OrdOk ls ps) (ha : a ∈ ls) (h : Bfs ls ps a W i) : W.length ≤ ls.length := by
  have := nodup_le (l := W.map endOf) (m := ls) h.nd fun z hz => by
    obtain ⟨w, hw, rfl⟩ := List.mem_map.mp hz
    have wy := h.way w hw
    exact wy.mem ok.mem ha _ (List.mem_of_getLast? (endOf_last wy.ne))
  rw [List.length_map] at this
  exact this
/-- a way is no longer than there are locks -/
theorem Best.len {ls : List Str} {ps : List Pr} {a : Str} (ok : OrdOk ls ps) (ac : ∀ z, ¬ Rch ps z z) (ha : a ∈ ls) {w : List Str} (h : Way ps a w) : w.Nodup ∧ ∀ x ∈ w, ∀ v, w.getLast? = some v → x = v ∨ Rch ps x v := by
  induction h with
  | one => exact ⟨by simp, fun x hx v e => by
      obtain rfl : a = v := by simpa using e
      exact Or.inl (List.mem_singleton.mp hx)⟩
  | @step w u v hw hu m ih =>
    obtain ⟨nd, ih⟩ := ih
    have hx2 : ∀ x ∈ w, Rch ps x v := fun x hx => by
      rcases ih x hx u hu with rfl | r
      · exact .one m
      · exact .step r m
    refine ⟨List.nodup_append.mpr ⟨nd, by simp, fun x hx y hy e => ?_⟩, fun x hx y e => ?_⟩
    · rw [List.mem_singleton.mp hy] at e
      rw [← e] at hx2
      exact ac x (hx2 x hx)
    · rw [last_snoc] at e
      obtain rfl := Option.some.inj e
      rcases List.mem_append.mp hx with h | h
      · exact Or.inr (hx2 x h)
      · exact Or.inl (List.mem_singleton.mp h)
end L3
namespace L3
open PySem PySem.Spec PyProof.Rows L2 TB LamX OwnE
end L3
namespace L3
open PySem PySem.Spec PyProof.Rows L2 TB LamX OwnE
open C8 (Cal Met Mak)
section
variable {X : Sx} {K : PySem.W.Frag}
theorem RVL.at {c : Ct} {F : Hp} {σ : L2.St} : ∀ {rs : List Rv} {vs : List V}, RVL c F σ rs vs → ∀ i : Nat, (rs[i]? = none ∧ vs[i]? = none) ∨ ∃ r v, rs[i]? = some r ∧ vs[i]? = some v ∧ RV c F σ r v
  | [], _, h, i => by
    rw [show _ = [] from h]
    exact Or.inl ⟨rfl, rfl⟩
  | r :: rs, _, h, 0 => by
    obtain ⟨v, t, rfl, q, z⟩ := h
    exact Or.inr ⟨r, v, rfl, rfl, q⟩
  | r :: rs, _, h, i + 1 => by
    obtain ⟨v, t, rfl, q, z⟩ := h
    rcases RVL.at z i with ⟨a, b⟩ | ⟨r', v', a, b, e⟩
    · exact Or.inl ⟨by simpa using a, by simpa using b⟩
    · exact Or.inr ⟨r', v', by simpa using a, by simpa using b, e⟩
end
end L3
namespace L3
open PySem PySem.Spec PyProof.Rows L2 TB LamX OwnE
theorem Way.head {ps : List Pr} {a : Str} {w : List Str} (h : Way ps a w) : ∃ r, w = a :: r := by
  induction h with
  | one => exact ⟨[], rfl⟩
  | step _ _ _ ih =>
    obtain ⟨r, rfl⟩ := ih
    exact ⟨r ++ [_], rfl⟩
theorem Way.cons {ps : List Pr} {a c : Str} {w : List Str} (m : (a, c) ∈ ps) (h : Way ps c w) : Way ps a (a :: w) := by
  induction h with
  | one => exact .step (w := [a]) .one (by simp) m
  | @step w u v hw hu m2 ih =>
    refine .step (w := a :: w) ih ?_ m2
    obtain ⟨r, rfl⟩ := hw.head
    rw [List.getLast?_cons_cons]
    exact hu
theorem Way.tail {ps : List Pr} {a : Str} {w : List Str} (h : Way ps a w) : w = [a] ∨ ∃ c r, w = a :: r ∧ (a, c) ∈ ps ∧ Way ps c r := by
  induction h with
  | one => exact Or.inl rfl
  | @step w u v hw hu m ih =>
    rcases ih with rfl | ⟨c, r, rfl, hc, hr⟩
    · obtain rfl : a = u := by simpa using hu
      exact Or.inr ⟨v, [v], rfl, m, .one⟩
    · refine Or.inr ⟨c, r ++ [v], rfl, hc, .step hr ?_ m⟩
      obtain ⟨r', rfl⟩ := hr.head
      rw [List.getLast?_cons_cons] at hu
      exact hu
end L3
namespace L2
open PySem PySem.Spec PyProof.Rows
end L2
namespace L3
open PySem PySem.Spec PyProof.Rows L2 TB LamX
/-- a pile that rises by ps, of locks among ls -/
def PilOk (ls : List Str) (ps : List Pr) (zs : List Str) : Prop := (∀ e ∈ zs, e ∈ ls) ∧ RiseP ps zs
theorem PilOk.nil {ls : List Str} {ps : List Pr} : PilOk ls ps [] := ⟨(fun _ z => nomatch z), (fun k j a b _ ha _ => nomatch ha)⟩
theorem PilOk.len {ls : List Str} {ps : List Pr} {zs : List Str} (h : PilOk ls ps zs) (h0 : ∀ a, ¬ Rch ps a a) : zs.length ≤ ls.length :=
  nodup_le (m := ls) (RiseP.nodup h0 h.2) h.1
theorem PilOk.mono {ls : List Str} {ps qs : List Pr} {zs : List Str} (h : PilOk ls ps zs) (s : ∀ p ∈ ps, p ∈ qs) : PilOk ls qs zs := ⟨h.1, h.2.mono s⟩
/-- one ask of a pile: from a to b -/
def StepOk (ws : List Str) (qs : List Pr) (a b : List Str) : Prop := ∃ n z, n ≤ a.length ∧ b = a.take n ++ [z] ∧ z ∈ ws ∧ z ∉ a ∧ ∀ u ∈ a.drop n, Rch qs z u
/-- a walk of a pile from none on -/
structure WalkOk (ws : List Str) (qs : List Pr) (wk : List (List Str)) : Prop where
  sub : ∀ zs ∈ wk, zs.Nodup ∧ ∀ z ∈ zs, z ∈ ws
  stp : ∀ (i : Nat) (a b : List Str), wk[i]? = some a → wk[i + 1]? = some b → StepOk ws qs a b
theorem StepOk.mono {ws : List Str} {ps qs : List Pr} {a b : List Str} (h : StepOk ws ps a b) (s : ∀ p ∈ ps, p ∈ qs) : StepOk ws qs a b := by
  obtain ⟨n, z, h1, h2, h3, h4, h5⟩ := h
  exact ⟨n, z, h1, h2, h3, h4, fun u hu => (h5 u hu).mono s⟩
theorem WalkOk.mono {ws : List Str} {ps qs : List Pr} {wk : List (List Str)} (h : WalkOk ws ps wk) (s : ∀ p ∈ ps, p ∈ qs) : WalkOk ws qs wk :=
  ⟨h.sub, fun i a b h1 h2 => (h.stp i a b h1 h2).mono s⟩
theorem WalkOk.one {ws : List Str} {ps : List Pr} : WalkOk ws ps [[]] := by
  refine ⟨fun zs h => ?_, fun i a b _ h2 => by simp at h2⟩
  rw [List.mem_singleton.mp h]
  exact ⟨List.nodup_nil, fun _ z => nomatch z⟩
end L3
namespace L3
open PySem PySem.Spec PyProof.Rows L2 TB LamX
section
variable {X : Sx} {c : Ct} {F H F' H' : Hp} {σ σ' : L2.St} {ρ ρ' : PSt}
/-- a list at w of own lists at ps -/
structure Nest (c : Ct) (F H : Hp) (σ : L2.St) (ρ : PSt) (w : Addr) (ps : List Addr) (dss : List (List D)) : Prop where
  top : F w = some (.lst (ps.map V.ref))
  nd : ps.Nodup
  len : ps.length = dss.length
  cell : ∀ (i : Nat) (p : Addr) (ds : List D), ps[i]? = some p → dss[i]? = some ds → NewL c F H σ ρ p ds
/-- one told, one more at its end -/
theorem Nest.app {w p : Addr} {ps : List Addr} {dss : List (List D)} {k : Nat} {ds : List D} {d : D} {v : V} {vs : List V} (n : Nest c F H σ ρ w ps dss) (hk : ps[k]? = some p) (hd : dss[k]? = some ds) (hp : H p = some (.lst vs)) (hr : RpL c.K F ds vs) (hv : Rp c.K F d v) : Nest c F (upd H p (.lst (vs ++ [v]))) σ ρ w ps (dss.set k (ds ++ [d])) := by
  have hkl := (List.getElem?_eq_some_iff.mp hd).1
  refine ⟨n.top, n.nd, by rw [List.length_set]; exact n.len, fun i q es h1 h2 => ?_⟩
  by_cases e : k = i
  · subst e
    rw [hk] at h1
    obtain rfl := Option.some.inj h1
    rw [List.getElem?_set_self hkl] at h2
    obtain rfl := Option.some.inj h2
    have m := n.cell k p ds hk hd
    exact ⟨⟨_, upd_same, hr.app ⟨v, [], rfl, hv, rfl⟩⟩, m.f, m.n, m.b, m.o⟩
  · rw [List.getElem?_set_ne e] at h2
    have m := n.cell i q es h1 h2
    have ne : q ≠ p := by
      rintro rfl
      obtain ⟨l1, e1⟩ := List.getElem?_eq_some_iff.mp h1
      obtain ⟨l2, e2⟩ := List.getElem?_eq_some_iff.mp hk
      exact e ((List.getElem?_inj l2 n.nd).mp (hk.trans h1.symm))
    obtain ⟨us, g1, g2⟩ := m.l
    exact ⟨⟨us, by rw [upd_ne ne]; exact g1, g2⟩, m.f, m.n, m.b, m.o⟩
theorem keepAll : ∀ {ps : List Addr} {dss : List (List D)} {F : Hp}, Rel c F H σ ρ → ps.Nodup → ps.length = dss.length → (∀ (i : Nat) (p : Addr) (ds : List D), ps[i]? = some p → dss[i]? = some ds → NewL c F H σ ρ p ds) → ∃ F', Rel c F' H σ ρ ∧ Same F F' ∧ RpL c.K F' (dss.map D.lst) (ps.map V.ref)
  | [], [], F, R, _, _, _ => ⟨F, R, Same.refl F, rfl⟩
  | [], _ :: _, _, _, _, l, _ => nomatch l
  | _ :: _, [], _, _, _, l, _ => nomatch l
  | p :: ps, ds :: dss, F, R, nd, l, h => by
    obtain ⟨vs, R1, s1, r1⟩ := (h 0 p ds rfl rfl).keep R
    obtain ⟨hn, nd2⟩ := List.nodup_cons.mp nd
    obtain ⟨F2, R2, s2, r2⟩ := keepAll (ps := ps) (dss := dss) R1 nd2 (by simpa using l) (fun i q es h1 h2 => by
      have m := h (i + 1) q es h1 h2
      have ne : q ≠ p := by
        rintro rfl
        exact hn (List.mem_of_getElem? h1)
      obtain ⟨us, g1, g2⟩ := m.l
      exact ⟨⟨us, g1, g2.mono s1⟩, by rw [upd_ne ne]; exact m.f, m.n, m.b, m.o⟩)
    exact ⟨F2, R2, tr s1 s2, _, _, rfl, r1.mono s2, r2⟩
theorem Nest.keep {w : Addr} {ps : List Addr} {dss : List (List D)} (R : Rel c F H σ ρ) (n : Nest c F H σ ρ w ps dss) : ∃ F', Rel c F' H σ ρ ∧ Same F F' ∧ Rp c.K F' (.lst (dss.map D.lst)) (.ref w) := by
  obtain ⟨F2, R2, s2, r2⟩ := keepAll R n.nd n.len n.cell
  exact ⟨F2, R2, s2, w, _, rfl, s2 _ _ n.top, r2⟩
end
end L3
namespace L2
open PySem PySem.Spec PyProof.Rows
/-- how a zip stands behind i pairs -/
def ZSt (z TI TO i1 i2 l1 l2 S : Addr) (i : Nat) (h : Heap) : Prop := IsPair h TI (.ref i1) (.ref i2) ∧ h.IsListIter i1 l1 i ∧ h.IsListIter i2 l2 i ∧
  ((IsZip h z TI TO .none ∧ ∃ a b, IsPair h TO a b) ∨ ∃ T f oT, IsZipHeld h z TI TO T f ∧ h.get? T = some oT ∧ T ≠ z ∧ T ≠ i1 ∧ T ≠ i2 ∧ T ≠ S)
theorem ZSt.frame {z TI TO i1 i2 l1 l2 S : Addr} {i : Nat} {h h' : Heap} (st : ZSt z TI TO i1 i2 l1 l2 S i h) (hs : ∀ b ∈ [z, TI, TO, i1, i2], b ≠ S) (k : ∀ b o, b ≠ S → h.get? b = some o → h'.get? b = some o) : ZSt z TI TO i1 i2 l1 l2 S i h' := by
  obtain ⟨hTI, h1, h2, hz⟩ := st
  refine ⟨k _ _ (hs _ (by simp)) hTI, h1.at fun o e => k _ o (hs _ (by simp)) e, h2.at fun o e => k _ o (hs _ (by simp)) e, ?_⟩
  rcases hz with ⟨hz, a, b, hTO⟩ | ⟨T, f, oT, hz, hT, r1, r2, r3, r4⟩
  · exact .inl ⟨k _ _ (hs _ (by simp)) hz, a, b, k _ _ (hs _ (by simp)) hTO⟩
  · exact .inr ⟨T, f, oT, k _ _ (hs _ (by simp)) hz, k _ _ r4 hT, r1, r2, r3, r4⟩
end L2
namespace L3
open PySem PySem.Spec PyProof.Rows L2 TB LamX
end L3
namespace L3
open PySem PySem.Spec PyProof.Rows L2 TB LamX
theorem hgt_from (so : List Str) : ∀ (l : List Str) (c : Int), l.foldl (fun a z => 2 * a + (if z ∈ so then 1 else 0)) c = c * 2 ^ l.length + hgt l so
  | [], c => by simp [hgt]
  | z :: l, c => by
    unfold hgt
    rw [List.foldl_cons, List.foldl_cons, hgt_from so l, hgt_from so l (2 * 0 + _), List.length_cons, Int.pow_succ]
    have e : (2 : Int) ^ l.length * 2 = 2 ^ l.length + 2 ^ l.length := by omega
    generalize (2 : Int) ^ l.length = p at e ⊢
    rw [e]
    simp only [Int.mul_zero, Int.zero_add, Int.add_mul, Int.mul_add, Int.two_mul]
    omega
theorem hgt_cons (so : List Str) (z : Str) (l : List Str) : hgt (z :: l) so = (if z ∈ so then 1 else 0) * 2 ^ l.length + hgt l so := by
  have h := hgt_from so l (2 * 0 + (if z ∈ so then 1 else 0))
  unfold hgt at h ⊢
  rw [List.foldl_cons, h]
  simp
theorem hgt_lo (so : List Str) : ∀ l : List Str, 0 ≤ hgt l so ∧ hgt l so < 2 ^ l.length
  | [] => by simp [hgt]
  | z :: l => by
    obtain ⟨h1, h2⟩ := hgt_lo so l
    rw [hgt_cons, List.length_cons, Int.pow_succ]
    split <;> omega
theorem hgt_lt {a b : List Str} {z : Str} (ha : z ∉ a) (hb : z ∈ b) (post : List Str) : ∀ pre : List Str, (∀ y ∈ pre, y ∈ a ↔ y ∈ b) → hgt (pre ++ z :: post) a < hgt (pre ++ z :: post) b
  | [], _ => by
    rw [List.nil_append, hgt_cons, hgt_cons, if_neg ha, if_pos hb]
    have h1 := hgt_lo a post
    have h2 := hgt_lo b post
    omega
  | y :: pre, h => by
    have ih := hgt_lt ha hb post pre (fun x hx => h x (List.mem_cons_of_mem _ hx))
    rw [List.cons_append, hgt_cons, hgt_cons]
    have e : (if y ∈ a then (1 : Int) else 0) = if y ∈ b then 1 else 0 := by
      by_cases c : y ∈ a
      · rw [if_pos c, if_pos ((h y List.mem_cons_self).mp c)]
      · rw [if_neg c, if_neg (fun c2 => c ((h y List.mem_cons_self).mpr c2))]
    rw [e]
    omega
theorem line_rch {ls : List Str} {ps : List Pr} {line : List Str} (L : LineP ls ps line) {z u : Str} (h : Rch ps z u) : ∀ i, line[i]? = some u → z ∈ line.take i := by
  induction h with
  | one m => intro i hi; exact freeB_iff.mp (L.free i _ hi) _ m
  | step _ m ih =>
    intro i hi
    have h1 := freeB_iff.mp (L.free i _ hi) _ m
    obtain ⟨j, hj, e⟩ := List.mem_iff_getElem.mp h1
    rw [List.length_take] at hj
    rw [List.getElem_take] at e
    have h2 := ih j (by rw [List.getElem?_eq_getElem (by omega), e])
    obtain ⟨k, hk, e2⟩ := List.mem_iff_getElem.mp h2
    rw [List.length_take] at hk
    rw [List.getElem_take] at e2
    exact List.mem_iff_getElem.mpr ⟨k, by rw [List.length_take]; omega, by rw [List.getElem_take]; exact e2⟩
theorem StepOk.rise {ws : List Str} {qs : List Pr} {ln a b : List Str} (L : LineP ws qs ln) (ok : OrdOk ws qs) (h : StepOk ws qs a b) : hgt ln a < hgt ln b := by
  obtain ⟨n, z, h1, rfl, h3, h4, h5⟩ := h
  have hz : z ∈ ln := L.pm.mem_iff.mpr h3
  have nd : ln.Nodup := L.pm.nodup_iff.mpr ok.nd
  obtain ⟨pre, post, rfl⟩ := List.append_of_mem hz
  refine hgt_lt h4 (by simp) post pre (fun y hy => ?_)
  rw [List.nodup_append] at nd
  have ny : y ≠ z := fun e => nd.2.2 y hy z List.mem_cons_self e
  rw [List.mem_append, List.mem_singleton]
  constructor
  · intro hya
    rw [← List.take_append_drop n a] at hya
    rcases List.mem_append.mp hya with hya | hya
    · exact Or.inl hya
    · exfalso
      obtain ⟨i, hi, e⟩ := List.mem_iff_getElem.mp hy
      have hm := line_rch L (h5 y hya) i (by rw [List.getElem?_append_left hi, List.getElem?_eq_getElem hi, e])
      rw [List.take_append_of_le_length (Nat.le_of_lt hi)] at hm
      exact nd.2.2 z (List.mem_of_mem_take hm) z List.mem_cons_self rfl
  · rintro (hyt | e)
    · exact List.mem_of_mem_take hyt
    · exact absurd e ny
/-- rising numbers below N are at most N -/
theorem rise_len (N : Int) : ∀ (l : List Int) (c : Int), (∀ x ∈ l, x < N) → (∀ (i : Nat) (x y : Int), (c :: l)[i]? = some x → (c :: l)[i + 1]? = some y → x < y) → c < N → (l.length : Int) < N - c
  | [], c, _, _, h => by simp; omega
  | x :: l, c, h1, h2, h3 => by
    have hx : c < x := h2 0 c x rfl rfl
    have ih := rise_len N l x (fun y hy => h1 y (List.mem_cons_of_mem _ hy)) (fun i y w e1 e2 => h2 (i + 1) y w e1 e2) (h1 x List.mem_cons_self)
    rw [List.length_cons]
    omega
def hgts (ln : List Str) (wk : List (List Str)) : List Int := wk.map (hgt ln)
theorem WalkOk.rises {ws : List Str} {qs : List Pr} {ln : List Str} {wk : List (List Str)} (L : LineP ws qs ln) (ok : OrdOk ws qs) (h : WalkOk ws qs wk) : ∀ (i : Nat) (x y : Int), (hgts ln wk)[i]? = some x → (hgts ln wk)[i + 1]? = some y → x < y := by
  intro i x y e1 e2
  unfold hgts at e1 e2
  rw [List.getElem?_map] at e1 e2
  obtain ⟨a, ha, rfl⟩ := Option.map_eq_some_iff.mp e1
  obtain ⟨b, hb, rfl⟩ := Option.map_eq_some_iff.mp e2
  exact (h.stp i a b ha hb).rise L ok
theorem WalkOk.len {ws : List Str} {qs : List Pr} {ln : List Str} {wk : List (List Str)} (L : LineP ws qs ln) (ok : OrdOk ws qs) (h : WalkOk ws qs wk) : ((wk.length : Nat) : Int) - 1 ≤ 2 ^ ln.length - 1 := by
  have hr := h.rises L ok
  cases wk with
  | nil =>
    have : (0 : Int) < 2 ^ ln.length := Int.pow_pos (by decide)
    simp
    omega
  | cons a wk =>
    have h1 := rise_len (2 ^ ln.length) (hgts ln wk) (hgt ln a) (fun x hx => by
      obtain ⟨b, _, rfl⟩ := List.mem_map.mp hx
      exact (hgt_lo b ln).2) (fun i x y e1 e2 => hr i x y e1 e2) (hgt_lo a ln).2
    have h2 := (hgt_lo a ln).1
    simp only [hgts, List.length_map] at h1
    rw [List.length_cons]
    omega
end L3
namespace L2
open PySem PySem.Spec PyProof.Rows
/-- what is asked of the class at C, over the built-in class with the row bmB -/
structure OexB (K : PySem.W.Frag) (C : Addr) (bmB : List Value) (newId : String) : Prop where
  ini : PySem.W.excInitIn K C bmB newId = true
  ovr : PySem.W.excOver K C bmB = true
  dct : PySem.W.hasDictIn K C = true
  sa : PySem.W.findIn K (.ref C) "__setattr__" = some (some (.builtin "object.__setattr__"))
  exC : PySem.W.subIn K (.ref C) (.type "BaseException") = some true
  tyC : PySem.W.typeIn K (.ref C) = some (.type "type")
  kC : PySem.W.keepIn K (.ref C) = true
def oexB (K : PySem.W.Frag) (C : Addr) (bmB : List Value) (newId : String) : Bool := PySem.W.excInitIn K C bmB newId && (PySem.W.excOver K C bmB && (PySem.W.hasDictIn K C && (decide (PySem.W.findIn K (.ref C) "__setattr__" = some (some (.builtin "object.__setattr__"))) &&
  (decide (PySem.W.subIn K (.ref C) (.type "BaseException") = some true) && (decide (PySem.W.typeIn K (.ref C) = some (.type "type")) && PySem.W.keepIn K (.ref C))))))
theorem oexB_ok {K : PySem.W.Frag} {C : Addr} {bmB : List Value} {newId : String} (h : oexB K C bmB newId = true) : OexB K C bmB newId := by
  unfold oexB at h
  simp only [Bool.and_eq_true, decide_eq_true_eq] at h
  exact ⟨h.1, h.2.1, h.2.2.1, h.2.2.2.1, h.2.2.2.2.1, h.2.2.2.2.2.1, h.2.2.2.2.2.2⟩
section
open PySem.W
variable {prog : Program} {w : World} {A : Around} {R : Result → Shared → Prop} {hp : Heap} {g : Array GenState} {d : Drawn} {t : Nat} {os : OsState} {K : Frag} {bmB : List Value} {B : String} {x C tA : Addr} {name : Str} {tk : Tok} {v : Value}
theorem taker0 (h : findIn K (.ref C) name = some none) : takerIn K C name = some none := by
  unfold takerIn
  rw [h]
  rfl
/-- self.name = v, the first field -/
theorem osa_first (SF : StoreFacts B bmB "object.__setattr__" "object") (X : K.In hp) (hx : hp.get? x = some (excObj C tA none .none)) (ho : excOver K C bmB = true) (hd : hasDictIn K C = true) (hn : findIn K (.ref C) name = some none)
    (hq : ∀ h' tk' dx, (∀ b o, b ≠ x → hp.get? b = some o → h'.get? b = some o) → hp.objs.size ≤ dx → dx ≠ x → h'.get? x = some (excObj C tA (some dx) .none) → h'.Ns1 dx (fun y => if y = name then some v else none) → R (.ok (.ret .none)) ⟨h', g, d, tk', os⟩) :
    codeAny (model prog w) A (.call (.builtin "object.__setattr__") ⟨[.ref x, .str name tk, v], []⟩) R ⟨hp, g, d, t, os⟩ := by
  refine osa_openX (od := none) SF X ⟨hx, rfl, rfl, trivial⟩ ho (taker0 hn) fun b => ?_
  obtain ⟨cd, hc, hd'⟩ := any_some hd
  have xs : x ≠ hp.objs.size := Nat.ne_of_lt (Heap.lt_size hx)
  refine wpAny_bind (wpAny_pure (wpAny_bind (instanceDict_exc (s := ⟨hp, g, d, t, os⟩) hx (looks_clsIn X hc) hd' ?_)))
  refine PySem.HandSPX.store_in_new ?_ fun h' tk' hn' hs => ?_
  · exact ⟨_, #[], _, (Heap.get?_update_ne _ _ _ _ xs.symm).trans (Heap.get?_push_at rfl rfl), rfl, fun e he => absurd he (by simp), fun _ => rfl⟩
  · refine hq h' tk' hp.objs.size (fun b o hb e => ?_) (Nat.le_refl _) xs.symm ?_ hn'
    · exact (hs.2 b (Nat.ne_of_lt (Heap.lt_size e))).trans ((Heap.get?_update_ne _ _ _ _ hb).trans (Heap.get?_push_of_some _ e))
    · exact (hs.2 x xs).trans (Heap.get?_update_self _ (Heap.get?_push_of_some _ hx) rfl)
/-- .. a further one -/
theorem osa_more {dx : Addr} {m0 : Str → Option Value} {nl : List Str} (SF : StoreFacts B bmB "object.__setattr__" "object") (X : K.In hp) (hx : hp.get? x = some (excObj C tA (some dx) .none)) (hns : hp.Ns1 dx m0) (hw : Within m0 nl) (hz : nl.length ≤ 1000) (ho : excOver K C bmB = true) (hd : hasDictIn K C = true) (hn : findIn K (.ref C) name = some none)
    (hq : ∀ h' tk', (∀ b o, b ≠ dx → hp.get? b = some o → h'.get? b = some o) → h'.Ns1 dx (fun y => if y = name then some v else m0 y) → R (.ok (.ret .none)) ⟨h', g, d, tk', os⟩) :
    codeAny (model prog w) A (.call (.builtin "object.__setattr__") ⟨[.ref x, .str name tk, v], []⟩) R ⟨hp, g, d, t, os⟩ := by
  obtain ⟨oD, _, _, hoD, _, _⟩ := hns.count hw
  refine osa_openX (od := some oD) SF X ⟨hx, rfl, rfl, hoD⟩ ho (taker0 hn) fun b => ?_
  obtain ⟨cd, hc, hd'⟩ := any_some hd
  refine wpAny_bind (wpAny_pure (wpAny_bind (wpAny_bind (wpAny_loadPart hx (wpAny_bind ((looks_clsIn X hc).here ?_))))))
  rw [hd']
  refine wpAny_pure (a := some dx) ?_
  exact PySem.OEX.store_in_old hns hw hz fun h' tk' hn' hs => hq h' tk' (fun b o hb e => (hs.2 b hb).trans e) hn'
end
section
variable {X : Cx} {pins : List (Addr × Obj)} {σ : St} {H : Hp} {s : Shared} {a C dx : Addr} {f : Str} {y : V} {u : Value} {fs : List (Str × V)} {Q : Unit → Shared → Prop} {E : Value → Shared → Prop} {A : Around} {bmB : List Value} {B newId : String}
/-- an exception gets its dict -/
theorem Inv.gotDict {h' : Heap} {t' : Nat} {tA : Addr} {mA : Str → Option Value} (I : Inv X pins σ H s) (e : H a = some (exo a C none)) (k : ∀ b o, b ≠ a → s.heap.get? b = some o → h'.get? b = some o) (dn : s.heap.objs.size ≤ dx) (dne : dx ≠ a)
    (hx : h'.get? a = some (PySem.W.excObj C tA (some dx) .none)) (hn : h'.Ns1 dx mA) (r : ∀ g, RelO (fs.lookup g) (mA g)) : Inv X pins σ (upd (upd H dx (exd dx fs)) a (exo a C (some dx))) { s with heap := h', toks := t' } := by
  obtain ⟨t0, ho⟩ := exo_at I.hok e
  have h1 := Heap.get?_update_self (fun _ => (PySem.W.excObj C t0 none .none : Obj)) hx rfl
  have k1 : ∀ b o, b ≠ a → h'.get? b = some o → (h'.update a fun _ => (PySem.W.excObj C t0 none .none : Obj)).get? b = some o := fun b o hb q => (Heap.get?_update_ne _ _ _ _ hb).trans q
  have I1 : Inv X pins σ (upd H dx (exd dx fs)) { s with heap := h'.update a fun _ => (PySem.W.excObj C t0 none .none : Obj), toks := t' } := by
    refine I.laid (fun b o q => ?_) dn (exd_ok (mA := mA) (hn.at fun o q => k1 dx o dne q) r)
    by_cases hb : b = a
    · rw [hb] at q ⊢
      rw [h1, ← ho]
      exact q
    · exact k1 b o hb (k b o hb q)
  refine I1.write (x := a) (e := a) (by rw [upd_ne (Ne.symm dne), e]; exact True.intro) (.inl rfl) (fun b o hb q => ?_) ⟨_, hx⟩ (exo_ok hx)
  have q2 : (h'.update a fun _ => (PySem.W.excObj C t0 none .none : Obj)).get? b = some o := q
  rw [Heap.get?_update_ne _ _ _ _ hb] at q2
  exact q2
theorem oset_new (SF : PySem.StoreFacts B bmB "object.__setattr__" "object") (T : OexB X.K C bmB newId) (I : Inv X pins σ H s) (e : H a = some (exo a C none)) (hno : PySem.W.findIn X.K (.ref C) f = some none) (ry : RelV y u)
    (h : ∀ dx s', H dx = none → dx ≠ a → Inv X pins σ (upd (upd H dx (exd dx [(f, y)])) a (exo a C (some dx))) s' → Q () s') : wpAny (model X.prog X.w) A (setAttr (.ref a) f u) Q E s := by
  obtain ⟨t1, ho⟩ := exo_at I.hok e
  obtain ⟨hp, g, d, t, os⟩ := s
  refine PySem.W.set_plain I.kIn (ox := PySem.W.excObj C t1 none .none) (od := none) ⟨ho, rfl, rfl, trivial⟩ T.sa ?_
  refine osa_first SF I.kIn ho T.ovr T.dct hno (fun h' tk' dx k dn dne hx hn => ?_)
  exact h dx _ (I.hok.fresh dn) dne (I.gotDict (t' := tk') (fs := [(f, y)]) e k dn dne hx hn (relO_put (fs := []) ry fun g => True.intro))
theorem oset_old (SF : PySem.StoreFacts B bmB "object.__setattr__" "object") (T : OexB X.K C bmB newId) (I : Inv X pins σ H s) (e : H a = some (exo a C (some dx))) (ed : H dx = some (exd dx fs)) (hl : fs.length ≤ 900) (hno : PySem.W.findIn X.K (.ref C) f = some none) (ry : RelV y u)
    (h : ∀ s', Inv X pins σ (upd H dx (exd dx ((f, y) :: fs))) s' → Q () s') : wpAny (model X.prog X.w) A (setAttr (.ref a) f u) Q E s := by
  obtain ⟨t1, ho⟩ := exo_at I.hok e
  obtain ⟨mA, hns, rel⟩ := exd_at I.hok ed
  have hw := within_of rel
  obtain ⟨hp, g, d, t, os⟩ := s
  obtain ⟨oD, _, _, hoD, _, _⟩ := hns.count hw
  refine PySem.W.set_plain I.kIn (ox := PySem.W.excObj C t1 (some dx) .none) (od := some oD) ⟨ho, rfl, rfl, hoD⟩ T.sa ?_
  refine osa_more SF I.kIn ho hns hw (by rw [List.length_map]; omega) T.ovr T.dct hno (fun h' tk' k hn => ?_)
  have hd : ∃ o, h'.get? dx = some o := let ⟨o, _, _, e', _⟩ := hn; ⟨o, e'⟩
  exact h _ (I.write (t' := tk') (x := dx) (e := dx) (o := exd dx ((f, y) :: fs)) (by rw [ed]; exact True.intro) (.inl rfl) k hd (exd_ok hn (relO_put ry rel)))
/-- the built-in's own __init__ -/
theorem oinitB {initId : String} {us : List Value} {Q : Value → Shared → Prop} (FB : PySem.ExcBaseFacts B newId initId bmB) (T : OexB X.K C bmB newId) (I : Inv X pins σ H s) (e : H a = some (exo a C none)) (hl : us.length ≤ sizeLine) (h : ∀ s', Inv X pins σ H s' → Q .none s') :
    wpAny (model X.prog X.w) A (call (.builtin initId) (.ref a :: us)) Q E s := by
  obtain ⟨nm, N, q, bs, bm, hdct, sn, sub, ab, col, dd, k0, k1, k2, k3, k5, hC, hT⟩ := PySem.W.excInit_of I.kIn T.ini
  obtain ⟨t1, ho⟩ := exo_at I.hok e
  obtain ⟨hp, g, d, t, os⟩ := s
  refine wpAny_call (PySem.HandSPX.init_base FB hT hC ho hl fun h' t2 k hx => ?_)
  have J := I.write (t' := t) (x := a) (e := a) (o := exo a C none) (by rw [e]; exact True.intro) (.inl rfl) k ⟨_, hx⟩ (exo_ok hx)
  rw [show upd H a (exo a C none) = H by
    funext b
    by_cases hb : b = a
    · rw [hb, upd_same, e]
    · rw [upd_ne hb]] at J
  exact h _ J
end
/-- Base.__init__(self, ..) -/
def tBI (K : PySem.W.Frag) (bmB : List Value) (newId : String) (ta : TA) : TE := fun σ H Q => ta σ H fun vs H1 => ∃ (a C : Addr) (ws : List V), vs = .ref a :: ws ∧ ws.length ≤ 1000 ∧ OexB K C bmB newId ∧ H1 a = some (exo a C none) ∧ Q .non H1
/-- self.f = e -/
def tOs (K : PySem.W.Frag) (bmB : List Value) (newId : String) (f : Str) (to te : TE) : TS := fun D σ H => te σ H fun y H1 => to σ H1 fun x H2 => ∃ a C : Addr, x = .ref a ∧ OexB K C bmB newId ∧ PySem.W.findIn K (.ref C) f = some none ∧
  ((H2 a = some (exo a C none) ∧ ∀ dx, H2 dx = none → dx ≠ a → D.nx σ (upd (upd H2 dx (exd dx [(f, y)])) a (exo a C (some dx)))) ∨
    ∃ (dx : Addr) (fs : List (Str × V)), H2 a = some (exo a C (some dx)) ∧ H2 dx = some (exd dx fs) ∧ fs.length ≤ 900 ∧ D.nx σ (upd H2 dx (exd dx ((f, y) :: fs))))
section
variable {X : Cx} {o e : Expr} {es : List Expr} {to te : TE} {ta : TA} {f : Str} {p p' p1 p2 pos : Pos} {bmB : List Value} {B newId initId : String}
theorem pe_binit {Bn : Str} {pl : Sem Bool} (FB : PySem.ExcBaseFacts B newId initId bmB) (hg : Gl X Bn) (hm : X.mg Bn = none) (hb : bootBuiltins Bn = some (.type B)) (ht : typeOf (.type B) = pure (.type "type")) (hsb : Manifest.isStub B = false)
    (vV : PySem.W.findCls X.K (.type B) (.type "type") "__init__" = some (.val (.builtin initId))) (hh : PySem.W.handedIn (.builtin initId) = true) (ha : PA X (e :: es) ta)
    (hc : eval (.Call (.Attribute (.Name Bn p1) "__init__" p2) (e :: es) [] pos) X.env = (do
      let ov ← eval (.Name Bn p1) X.env
      standAt p2.atName
      let (f, first) ← holding [ov] (getMethod ov "__init__" pl)
      callWith pos f first (backTo pos (starEach (e :: es) X.env)) (backToKw pos (keywordEach [] X.env))) := by rfl)
    (hn : Bn ≠ "__name__" := by decide) (hdb : (Bn == ("__debug__" : Str)) = false := by decide)
    (he : starEach (e :: es) X.env = (false, eval e X.env) :: starEach es X.env := by rfl) (hpl : (backTo pos (starEach es X.env)).any (·.1) = false := by rfl) :
    PE X (.Call (.Attribute (.Name Bn p1) "__init__" p2) (e :: es) [] pos) (tBI X.K bmB newId ta) := by
  refine ⟨fun pins s σ H Q I h => ?_⟩
  refine PySem.W.methodCall_KW (ld_blt I hg hm hb ?_ hn hdb) hc
  obtain ⟨m, fr⟩ := I.fr
  refine PySem.W.method_type fr I.ok.mod.kin ht hsb vV hh ?_
  refine PyProof.Rows.callWith_method1 (thn (ha.run pos pins _ σ H _ (I.tok _) h) fun us s1 ⟨vs, H1, I1, r1, a, C, ws, ev, hl, T, ea, q⟩ => ?_) he hpl
  subst ev
  cases r1 with
  | @cons _ u0 _ ur ra rw' =>
    obtain rfl : u0 = Value.ref a := ra
    exact oinitB FB T I1 ea (by rw [← Paired.length rw', sizeLine_eq]; omega) fun s' J => ⟨.non, H1, J, rfl, q⟩
theorem ps_oset (SF : PySem.StoreFacts B bmB "object.__setattr__" "object") (ho : PE X o to) (he : PE X e te) (hs : swapsWith e (some (.Attribute o f p')) pos.line X.env = pure false := by rfl) : PS X (.Assign [.Attribute o f p'] e pos) (tOs X.K bmB newId f to te) := by
  refine ⟨fun pins s σ H D I h => ?_⟩
  refine plainObj_wpAny_Assign_Attribute (thn (he.run pins s σ H _ I h) fun v s1 ⟨y, H1, I1, r1, q1⟩ => thn (ho.run pins s1 σ H1 _ I1 q1) fun u s2 ⟨x, H2, I2, r2, a, C, ex, T, hno, q⟩ => ?_) hs
  subst ex
  obtain rfl : u = Value.ref a := r2
  rcases q with ⟨ea, q⟩ | ⟨dx, fs, ea, ed, hl, q⟩
  · exact oset_new SF T I2 ea hno r1 fun dx s' n ne J => ⟨σ, _, J, q dx n ne⟩
  · exact oset_old SF T I2 ea ed hl hno r1 fun s' J => ⟨σ, _, J, q⟩
theorem pmk_oexB {CX : CXT} {x : Str} {C fI : Addr} {k : Nat} {fd : FuncData} {ps : List Str} {sp : Sp} {ds : List Value} {dvs : List V} (FB : PySem.ExcBaseFacts B newId initId bmB) (T : OexB X.K C bmB newId) (iC : PySem.W.findIn X.K (.ref C) "__init__" = some (some (.ref fI))) (tI : PySem.W.typeIn X.K (.ref fI) = some (.type "function"))
    (F1 : FnOk X.prog X.w X.K X.mg X.base CX k fI fd ps sp) (hr : Room (k + 1) X.A) (hb : Binds X.K fd ps ds) (hd : Vals dvs ds) (hx : Passes CX X (fun _ _ _ => False)) (hg : Gl X x) (hm : X.mg x = some (.ref C)) (ha : PA X (e :: es) ta)
    (hdb : (x == ("__debug__" : Str)) = false := by decide) (he : starEach (e :: es) X.env = (false, eval e X.env) :: starEach es X.env := by rfl) (hpl : (backTo pos (starEach es X.env)).any (·.1) = false := by rfl) :
    PMk X (.Call (.Name x p) (e :: es) [] pos) (tMkO C sp dvs ta) := by
  intro pins s σ H Q I h
  refine wpAny_Call_Name_kw (ld_glob I hg hm ?_ hdb)
  refine PySem.W.callWith_K (h₀ := X.base) I.ok.mod.kin T.kC (thn (ha.run pos pins s σ H _ I h) fun us s1 ⟨vs, H1, I1, r1, hz, q1⟩ => ⟨I1.kIn, ?_⟩) he hpl
  obtain ⟨nm, N, q, bs, bm, hdct, sn, sub, ab, col, dd, k0, k1, k2, k3, k5, hC, hT⟩ := PySem.W.excInit_of I1.kIn T.ini
  obtain ⟨hp, g, dr, tk, os⟩ := s1
  have sz : hp.objs.size ≤ hp.objs.size + 1 := Nat.le_succ _
  have hq := q1 (hp.objs.size + 1) (I1.hok.fresh sz)
  have kk : ∀ b o, hp.get? b = some o → ((hp.push (PySem.W.kdv_tup us)).push (PySem.HandSPX.excO C hp.objs.size)).get? b = some o := fun b o e => Heap.get?_push_of_some _ (Heap.get?_push_of_some _ e)
  have hget : ((hp.push (PySem.W.kdv_tup us)).push (PySem.HandSPX.excO C hp.objs.size)).get? (hp.objs.size + 1) = some (PySem.HandSPX.excO C hp.objs.size) := by heap_get
  have I2 := I1.laid (t' := tk) (a := hp.objs.size + 1) (o := exo (hp.objs.size + 1) C none) kk sz (exo_ok hget)
  have r2 : Vals (V.ref (hp.objs.size + 1) :: (vs ++ dvs)) (Value.ref (hp.objs.size + 1) :: (us ++ ds)) := .cons rfl (r1.append hd)
  have hl : (Value.ref (hp.objs.size + 1) :: us ++ ds).length = ps.length := (r2.length.symm.trans (F1.len _ _ _ _ hq))
  have hus : us.length ≤ sizeLine := by rw [← Paired.length r1, sizeLine_eq]; omega
  refine wpAny_call (PySem.HandSPX.call_own FB hT hC (PySem.W.looks_findIn I1.kIn iC) (fun self => PySem.W.bind_fn I1.kIn self tI) hus ?_)
  refine codeAny_mono (F1.run _ X.stack _ _ ⟨Value.ref (hp.objs.size + 1) :: us, []⟩ (Value.ref (hp.objs.size + 1) :: (us ++ ds)) _ _ (fun _ _ _ => False) (hr.make C us []) (I2.env0.make C us []) (hb _ (Value.ref (hp.objs.size + 1) :: us) I2.kIn hl) r2 hq) fun r s' z => ?_
  match r, z with
  | .error er, z => exact hx pins σ _ _ er s' I2 z
  | .ok (.ret u), ⟨v, H2, os2, bare2, un2, hok2, rv, ev, d, fs, ea, ed, hd1, q2⟩ =>
    subst ev
    obtain ⟨h2, g2, d2, t2, os'⟩ := s'
    exact ⟨rv, mk_end (raises_own T.exC T.tyC) I1 sz kk un2 hok2 os2 bare2 ea ed hd1 q2⟩
  | .ok .next, z => exact False.elim z
  | .ok .brk, z => exact False.elim z
  | .ok .cont, z => exact False.elim z
end
theorem typ_LE : typeOf (.type "LookupError") = pure (.type "type") := by kernel_rfl
end L2
namespace L2
open PySem PySem.Spec PyProof.Rows
theorem init_LE (K : PySem.W.Frag) : PySem.W.findCls K (.type "LookupError") (.type "type") "__init__" = some (.val (.builtin "LookupError.__init__")) := by kernel_rfl
/-- an own refusal that can be made -/
structure MakE (P : Program) (w : World) (K : PySem.W.Frag) (mg : Str → Option Value) (base : Heap) (k : Nat) (x : Str) (C : Addr) (sp : Sp) (bmB : List Value) (newId : String) : Prop where
  ex : ∃ (fI : Addr) (fd : FuncData) (ps : List Str), OexB K C bmB newId ∧ PySem.W.findIn K (.ref C) "__init__" = some (some (.ref fI)) ∧ PySem.W.typeIn K (.ref fI) = some (.type "function") ∧ FnOk P w K mg base CX0 k fI fd ps sp ∧ Binds K fd ps [] ∧ mg x = some (.ref C)
theorem pmk_e {X : Cx} {k j : Nat} {C : Addr} {sp : Sp} {x : Str} {p pos : Pos} {e : Expr} {es : List Expr} {ta : TA} {bmB : List Value} {B newId initId : String} (FB : PySem.ExcBaseFacts B newId initId bmB) (c : MakE X.prog X.w X.K X.mg X.base k x C sp bmB newId) (hr : Room j X.A) (hk : k + 1 ≤ j) (hg : Gl X x) (ha : PA X (e :: es) ta)
    (hdb : (x == ("__debug__" : Str)) = false := by decide) (he : starEach (e :: es) X.env = (false, eval e X.env) :: starEach es X.env := by rfl) (hpl : (backTo pos (starEach es X.env)).any (·.1) = false := by rfl) :
    PMk X (.Call (.Name x p) (e :: es) [] pos) (tMkO C sp [] ta) := by
  obtain ⟨fI, fd, ps, T, iC, tI, F, b, hm⟩ := c.ex
  exact pmk_oexB FB T iC tI F (hr.mono hk) b .nil pass0 hg hm ha hdb he hpl
end L2
namespace L2
open PySem PySem.Spec PyProof.Rows
end L2
namespace L3
open PySem PySem.Spec PyProof.Rows L2 TB LamX
section
variable {X : Sx}
def oSortI : OLN := fun ds Q => ∃ ns : List Int, ds = [.lst (ns.map D.int)] ∧ ∀ ns' : List Int, ns'.Perm ns → ns'.Pairwise (· ≤ ·) → Q (ns'.map D.int)
theorem lc_sortI {K : PySem.W.Frag} (hK : X.K = K := by rfl) : LiCN X (rSortedI K) oSortI := by
  subst hK
  intro c hX σ F H ρ xs dxs Q Q3 R rx hq h
  subst hX
  obtain ⟨ns, rfl, h⟩ := h
  obtain ⟨v, t, rfl, ⟨a, vs, rfl, ha, ra⟩, et⟩ := rx
  obtain rfl : t = [] := et
  obtain rfl := ra.ints
  refine ⟨a, ns, rfl, sqL_of ha, fun ns' p pm sr np => ?_⟩
  have rr : RpL c.K F (ns'.map D.int) (ns'.map V.int) := RpL.map (f := D.int) (g := V.int) (fun i => rfl) ns'
  obtain ⟨R2, n2⟩ := NewL.made R np rr
  exact hq _ p F _ R2 (Same.refl F) n2 (h ns' pm sr)
end
end L3
namespace L3
open PySem PySem.Spec PyProof.Rows L2 TB LamX
def swp (p : Pr) : Pr := (p.2, p.1)
theorem swp_swp (p : Pr) : swp (swp p) = p := rfl
/-- of unlike two locks -/
def UD (p q : Pr) : Prop := q ≠ p ∧ q ≠ swp p
theorem UD.sym {p q : Pr} (h : UD p q) : UD q p := ⟨fun e => h.1 e.symm, fun e => h.2 (by rw [e, swp_swp])⟩
/-- all two of ls, each once, this or that way about -/
structure AllP (ls : List Str) (l : List Pr) : Prop where
  mem : ∀ p ∈ l, p.1 ∈ ls ∧ p.2 ∈ ls ∧ p.1 ≠ p.2
  ud : l.Pairwise UD
  cov : ∀ a ∈ ls, ∀ b ∈ ls, a ≠ b → (a, b) ∈ l ∨ (b, a) ∈ l
theorem AllP.perm {ls : List Str} {l l' : List Pr} (h : AllP ls l) (p : l.Perm l') : AllP ls l' :=
  ⟨fun q hq => h.mem q (p.mem_iff.mpr hq), (p.pairwise_iff (fun h => h.sym)).mp h.ud, fun a ha b hb ne => (h.cov a ha b hb ne).imp p.mem_iff.mp p.mem_iff.mp⟩
theorem AllP.nil : AllP [] [] := ⟨(fun _ z => nomatch z), List.Pairwise.nil, (fun _ z => nomatch z)⟩
end L3
namespace L3
open PySem PySem.Spec PyProof.Rows L2 TB LamX
open Classical in
/-- how many of ls are behind z -/
noncomputable def cnt (ls : List Str) (qs : List Pr) (z : Str) : Nat := (ls.filter fun u => decide (Rch qs z u)).length
/-- whole: of each two one is behind the other -/
structure Whole (ls : List Str) (qs : List Pr) : Prop where
  nd : ls.Nodup
  ac : ∀ a, ¬ Rch qs a a
  tot : ∀ a ∈ ls, ∀ b ∈ ls, a ≠ b → Rch qs a b ∨ Rch qs b a
section
variable {ls : List Str} {qs : List Pr}
theorem Whole.lt (h : Whole ls qs) {a b : Str} (hb : b ∈ ls) (r : Rch qs a b) : cnt ls qs b < cnt ls qs a := by
  classical
  unfold cnt
  have h1 : (b :: ls.filter fun u => decide (Rch qs b u)).length ≤ (ls.filter fun u => decide (Rch qs a u)).length := by
    refine nodup_le (List.nodup_cons.mpr ⟨fun m => ?_, h.nd.sublist List.filter_sublist⟩) (fun x hx => ?_)
    · exact h.ac b (by simpa using (List.mem_filter.mp m).2)
    · rcases List.mem_cons.mp hx with rfl | hx
      · exact List.mem_filter.mpr ⟨hb, decide_eq_true r⟩
      · obtain ⟨m1, m2⟩ := List.mem_filter.mp hx
        exact List.mem_filter.mpr ⟨m1, decide_eq_true (Rch.trans r (by simpa using m2))⟩
  rw [List.length_cons] at h1
  omega
theorem Whole.inj (h : Whole ls qs) {a b : Str} (ha : a ∈ ls) (hb : b ∈ ls) (e : cnt ls qs a = cnt ls qs b) : a = b := by
  by_cases c : a = b
  · exact c
  · rcases h.tot a ha b hb c with r | r
    · have := h.lt hb r
      omega
    · have := h.lt ha r
      omega
theorem Whole.bound (h : Whole ls qs) {a : Str} (ha : a ∈ ls) : cnt ls qs a < ls.length := by
  classical
  unfold cnt
  have h1 : (a :: ls.filter fun u => decide (Rch qs a u)).length ≤ ls.length := by
    refine nodup_le (List.nodup_cons.mpr ⟨fun m => ?_, h.nd.sublist List.filter_sublist⟩) (fun x hx => ?_)
    · exact h.ac a (by simpa using (List.mem_filter.mp m).2)
    · rcases List.mem_cons.mp hx with rfl | hx
      · exact ha
      · exact (List.mem_filter.mp hx).1
  rw [List.length_cons] at h1
  omega
/-- the counts are all numbers below -/
theorem Whole.perm (h : Whole ls qs) : (ls.map (cnt ls qs)).Perm (List.range ls.length) := by
  have nd : (ls.map (cnt ls qs)).Nodup := by
    refine List.pairwise_map.mpr (h.nd.imp_of_mem fun {a b} ha hb ne e => ne (h.inj ha hb e))
  have sub : ∀ x ∈ ls.map (cnt ls qs), x ∈ List.range ls.length := fun x hx => by
    obtain ⟨a, ha, rfl⟩ := List.mem_map.mp hx
    exact List.mem_range.mpr (h.bound ha)
  refine (List.perm_ext_iff_of_nodup nd List.nodup_range).mpr fun x => ⟨sub x, fun hx => ?_⟩
  by_cases c : x ∈ ls.map (cnt ls qs)
  · exact c
  · have h1 := nodup_le (l := x :: ls.map (cnt ls qs)) (m := List.range ls.length) (List.nodup_cons.mpr ⟨c, nd⟩) (fun y hy => by
      rcases List.mem_cons.mp hy with rfl | hy
      · exact hx
      · exact sub y hy)
    rw [List.length_cons, List.length_map, List.length_range] at h1
    omega
/-- in a line the counts fall one by one -/
theorem Whole.line (h : Whole ls qs) {line : List Str} (L : LineP ls qs line) : ∀ i (hi : i < line.length), cnt ls qs line[i] = ls.length - 1 - i := by
  have len := L.pm.length_eq
  have nd : line.Nodup := L.pm.nodup_iff.mpr h.nd
  have mem : ∀ i (hi : i < line.length), line[i] ∈ ls := fun i hi => L.pm.mem_iff.mp (List.getElem_mem hi)
  have fall : ∀ i j (hi : i < line.length) (hj : j < line.length), i < j → cnt ls qs line[j] < cnt ls qs line[i] := by
    intro i j hi hj hij
    have ne : line[i] ≠ line[j] := fun e => by
      have := (List.getElem_inj nd).mp e
      omega
    rcases h.tot _ (mem i hi) _ (mem j hj) ne with r | r
    · exact h.lt (mem j hj) r
    · exfalso
      have m := line_rch L r i (List.getElem?_eq_getElem hi)
      obtain ⟨k, hk, e⟩ := List.mem_iff_getElem.mp m
      rw [List.length_take] at hk
      rw [List.getElem_take] at e
      have := (List.getElem_inj nd).mp e
      omega
  have up : ∀ i (hi : i < line.length), cnt ls qs line[i] + i ≤ ls.length - 1 := by
    intro i
    induction i with
    | zero =>
      intro hi
      have := h.bound (mem 0 hi)
      omega
    | succ i ih =>
      intro hi
      have h1 := ih (by omega)
      have h2 := fall i (i + 1) (by omega) hi (by omega)
      omega
  have lo : ∀ k i (hi : i < line.length), line.length - 1 - i = k → line.length - 1 - i ≤ cnt ls qs line[i] := by
    intro k
    induction k with
    | zero => intro i hi e; omega
    | succ k ih =>
      intro i hi e
      have h1 := ih (i + 1) (by omega) (by omega)
      have h2 := fall i (i + 1) hi (by omega) (by omega)
      omega
  intro i hi
  have h1 := up i hi
  have h2 := lo _ i hi rfl
  omega
end
end L3
namespace L3
open PySem PySem.Spec PyProof.Rows L2 TB LamX
end L3
namespace L2
open PySem PySem.Spec PyProof.Rows
def excCB (K : PySem.W.Frag) (D : Addr) : Bool := decide (PySem.W.findIn K (.ref D) "__getattribute__" = some (some (.builtin "BaseException.__getattribute__"))) && (decide (PySem.W.findIn K (.ref D) "__getattr__" = some none) && (decide (PySem.W.subIn K (.ref D) (.type "BaseException") = some true) && (PySem.W.hasDictIn K D &&
  (decide (PySem.W.findIn K (.ref D) "__class__" = some (some (.builtin "object.__class__"))) && (decide (PySem.W.specialIn K (.builtin "object.__class__") "__get__" = some (some (.builtin "getset_descriptor.__get__"))) && (decide (PySem.W.takesIn K (.builtin "object.__class__") = some true) && decide (PySem.W.mroIn K D (.type "object") = some true)))))))
theorem excCB_ok {K : PySem.W.Frag} {D : Addr} (h : excCB K D = true) : ExcC K D := by
  unfold excCB at h
  simp only [Bool.and_eq_true, decide_eq_true_eq] at h
  obtain ⟨h1, h2, h3, h4, h5, h6, h7, h8⟩ := h
  exact ⟨h1, h2, h3, h4, h5, h6, h7, h8⟩
theorem ExcC.xf {K : PySem.W.Frag} {D : Addr} (C : ExcC K D) : XfC K D := ⟨C.hg, C.hk, C.hs, C.hd⟩
/-- the dict of the caught one is known, if it has one -/
def DctAt (H : Hp) (d : Option Addr) : Prop := match d with
  | none => True
  | some dd => ∃ fs, H dd = some (.xd fs)
/-- isinstance(e, c) in an except suite -/
def rIsE2 (K : PySem.W.Frag) (a : Addr) (cls : Value) (d : Option Addr) : List V → Hp → VK → Prop := fun xs H Q => ∃ (D : Addr) (c : V) (u : Value) (b : Bool), xs = [.ref a, c] ∧ cls = .ref D ∧ ExcC K D ∧ DctAt H d ∧ ClsV c u ∧ PySem.W.kitOne K (.ref D) u = some b ∧ Q (.bl b) H
section
variable {X : Cx} {a : Addr} {oe : Obj} {cls : Value} {d : Option Addr} {pn pins : List (Addr × Obj)} {σ : St} {H : Hp} {s : Shared} {D : Addr}
theorem inst_e (hz : Zc cls d oe) (hf : ∃ vs, oe.data = .fields vs) (ec : cls = .ref D) (hd : DctAt H d) (I : Inv (X.suite a ((a, oe) :: pn)) pins σ H s) : ∃ od, PySem.W.InstAt s.heap a oe D od := by
  obtain ⟨hget, _⟩ := I.pin (a, oe) (List.mem_append.mpr (.inl List.mem_cons_self))
  obtain ⟨vs, hv⟩ := hf
  have no : PySem.W.notCls oe = true := by unfold PySem.W.notCls; rw [hv]
  cases d with
  | none => exact ⟨none, hget, hz.1.trans ec, no, by rw [hz.2]; trivial⟩
  | some dd =>
    obtain ⟨fs, hfs⟩ := hd
    obtain ⟨mA, hns, _⟩ := (show ObjOk X.prog X.w H s.heap dd (.xd fs) from I.hok dd _ hfs)
    obtain ⟨od, ho, _⟩ := lookIn_ns hns
    exact ⟨some od, hget, hz.1.trans ec, no, by rw [hz.2]; exact ho⟩
theorem kit_e {od : Option Obj} (C : ExcC X.K D) : PySem.W.KitX X.K (.ref a) (.ref D) (fun h => PySem.W.InstAt h a oe D od) := by
  refine PySem.W.kitx_exc ?_ C.hg C.hk C.hs C.ha C.hn C.ht C.hm
  obtain ⟨cd, hc, _⟩ := PySem.W.any_some C.hd
  rw [hc]
  rfl
theorem call_isE2 (hz : Zc cls d oe) (hf : ∃ vs, oe.data = .fields vs) : CallR (X.suite a ((a, oe) :: pn)) (.builtin "isinstance") (rIsE2 X.K a cls d) := by
  intro pins s σ H xs us Q I r h
  obtain ⟨D, c, u, b, rfl, ec, C, hd, hc, e, q⟩ := h
  obtain ⟨u1, u2, rfl, r1, r2⟩ := vals2 r
  cases (show u1 = Value.ref a from r1)
  have e2 := hc.eq r2
  subst e2
  obtain ⟨od, J⟩ := inst_e hz hf ec hd I
  exact PySem.W.kia_one (kit_e C) I.kIn J e (fun z => nomatch z) fun tk => ⟨.bl b, H, I.tok tk, rfl, q⟩
end
section
variable {X : Cx}
/-- + of texts -/
def rCatS : R2 := fun x y H Q => ∃ i j, x = .str i ∧ y = .str j ∧ i.length + j.length ≤ sizeLine ∧ Q (.str (i ++ j)) H
theorem op_catS : OpR X (binaryOp .Add) rCatS := op_add_str
end
end L2
namespace L3
open PySem PySem.Spec PyProof.Rows L2 TB LamX
def oCatS : O2 := fun dx dy Q => ∃ i j, dx = .str i ∧ dy = .str j ∧ i.length + j.length ≤ sizeLine ∧ Q (.str (i ++ j))
theorem lr_catS {X : Sx} : LiR X rCatS oCatS := by
  intro c hX σ F H ρ x y dx dy Q Q3 R rx ry hq h
  obtain ⟨i, j, rfl, rfl, hz, q⟩ := h
  exact ⟨i, j, rx, ry, hz, hq (.str _) _ F H R (Same.refl F) rfl q⟩
theorem w_catS {i j : Str} {Q : D → Prop} (hz : i.length + j.length ≤ sizeLine) (h : Q (.str (i ++ j))) : oCatS (.str i) (.str j) Q := ⟨i, j, rfl, rfl, hz, h⟩
end L3
namespace L3
open PySem PySem.Spec PyProof.Rows L2 TB LamX
theorem ixS_get {ls : List Str} (nd : ls.Nodup) {i : Nat} (h : i < ls.length) : ixS ls ls[i] = i := by
  have h1 := (ixS_at (List.getElem_mem h)).1
  obtain ⟨hl, e⟩ := List.getElem?_eq_some_iff.mp h1
  exact (List.getElem_inj nd).mp e
end L3
namespace TB
open PySem PySem.Spec PyProof.Rows L2
open PySem.SeqAt PySem.MeetsSeq PySem.MeetsSeq2 PySem.MeetsSeq3 PySem.SeqRoads2
open PySem.AutoSeq1 (wpAny_loadPart')
/-- the object at a is a dict -/
def DictObj (h : Heap) (a : Addr) : Prop := ∃ (o : Obj) (es : Array DictEntry) (n : Nat), h.get? a = some o ∧ o.cls = .type "dict" ∧ o.data = .dict es n
theorem dict_no_str (l : Addr) (es : Array DictEntry) (n : Nat) (dd : Option Addr) (sl : Array (Option Value)) (b : Str) (u : Tok) :
    Meets (Builtin.«dict.__eq__» ⟨[.ref l, .str b u], []⟩) (fun _ R s => s.heap.get? l = some { cls := .type "dict", dict := dd, data := .dict es n, slots := sl } ∧ R (.ok (.ret .notImplemented)) s) :=
  .of_wp fun prog w A R s h => by
    obtain ⟨hp, g, d, tk, os⟩ := s
    obtain ⟨hl, h⟩ := h
    have f1 := F.sub_str_dict
    wp_walk using wpAny_loadPart' hl
    exact ⟨_, rfl, h⟩
theorem str_no_dict (b : Str) (u : Tok) (l : Addr) (es : Array DictEntry) (n : Nat) (dd : Option Addr) (sl : Array (Option Value)) :
    Meets (Builtin.«str.__eq__» ⟨[.str b u, .ref l], []⟩) (fun _ R s => s.heap.get? l = some { cls := .type "dict", dict := dd, data := .dict es n, slots := sl } ∧ R (.ok (.ret .notImplemented)) s) :=
  .of_wp fun prog w A R s h => by
    obtain ⟨hp, g, d, tk, os⟩ := s
    obtain ⟨hl, h⟩ := h
    wp_walk using wpAny_loadPart' hl, wpAny_load hl
    exact ⟨_, rfl, h⟩
section
variable {A : Around} {s : Shared}
theorem eqAt_dict_str {l : Addr} (b : Str) (u : Tok) (hl : DictObj s.heap l) (hu : A.units < cLine) : EqAt A s (.ref l) (.str b u) false := fun prog w E Q h => by
  obtain ⟨⟨cls, dd, data, sl⟩, es, n, ho, hc, hd⟩ := hl
  simp only at hc hd
  subst hc
  subst hd
  unfold eqBool
  refine wpAny_holding (wpAny_ite_split (fun hab => absurd (eq_of_beq hab) nofun) (fun _ => wpAny_bind ?_))
  exact rc_eq_decline_or (k := false) ⟨_, ho, rfl⟩ (typeIs_str s b u) (by decide) F.sub_str_dict F.slot_dict_eq F.slot_str_eq_refl (fun _ hq => call_meets F.slot_dict_eq ⟨_, ho, rfl⟩ F.entry_dict_eq (F.args_dict_eq_2 _ _) (dict_no_str l es n dd sl b u) ⟨ho, hq⟩)
    (fun _ hq => call_meets F.slot_str_eq_refl (typeIs_str s b u) F.entry_str_eq (F.args_str_eq_2 _ _) (str_no_dict b u l es n dd sl) ⟨ho, hq⟩) (fun _ hq => wpAny_of_eq (rfl : isSame (.ref l) (.str b u) = pure false) hq) (.inr hu) (wpAny_truthy_bool h)
theorem eqAt_str_dict {l : Addr} (b : Str) (u : Tok) (hl : DictObj s.heap l) (hu : A.units < cLine) : EqAt A s (.str b u) (.ref l) false := fun prog w E Q h => by
  obtain ⟨⟨cls, dd, data, sl⟩, es, n, ho, hc, hd⟩ := hl
  simp only at hc hd
  subst hc
  subst hd
  unfold eqBool
  refine wpAny_holding (wpAny_ite_split (fun hab => absurd (eq_of_beq hab) nofun) (fun _ => wpAny_bind ?_))
  exact rc_eq_decline_or (k := false) (typeIs_str s b u) ⟨_, ho, rfl⟩ (by decide) F.sub_dict_str F.slot_str_eq F.slot_dict_eq_refl (fun _ hq => call_meets F.slot_str_eq (typeIs_str s b u) F.entry_str_eq (F.args_str_eq_2 _ _) (str_no_dict b u l es n dd sl) ⟨ho, hq⟩)
    (fun _ hq => call_meets F.slot_dict_eq_refl ⟨_, ho, rfl⟩ F.entry_dict_eq (F.args_dict_eq_2 _ _) (dict_no_str l es n dd sl b u) ⟨ho, hq⟩) (fun _ hq => wpAny_of_eq (rfl : isSame (.str b u) (.ref l) = pure false) hq) (.inr hu) (wpAny_truthy_bool h)
end
def keyD : Key → PyData
  | .inl i => .int i
  | .inr x => .str x
mutual
inductive DpX (K : PySem.W.Frag) (H : Hp) : V → PyData → Prop
  | non : DpX K H .non .none
  | bl (b : Bool) : DpX K H (.bl b) (.bool b)
  | int (i : Int) : DpX K H (.int i) (.int i)
  | str (x : Str) : DpX K H (.str x) (.str x)
  | lst {a : Addr} {xs : List V} {ds : List PyData} : SqL K H a xs → DpXA K H xs ds → DpX K H (.ref a) (.list ds)
  | tup {a : Addr} {xs : List V} {ds : List PyData} : SqT K H a xs → DpXA K H xs ds → DpX K H (.ref a) (.tuple ds)
  | dic {a : Addr} {kvs : List (Key × V)} {ds : List PyData} : H a = some (.dK kvs) → DpXA K H (kvs.map (·.2)) ds → DpX K H (.ref a) (.dict ((kvs.map fun p => keyD p.1).zip ds))
inductive DpXA (K : PySem.W.Frag) (H : Hp) : List V → List PyData → Prop
  | nil : DpXA K H [] []
  | cons {v : V} {vs : List V} {d : PyData} {ds : List PyData} : DpX K H v d → DpXA K H vs ds → DpXA K H (v :: vs) (d :: ds)
end
/-- the modules' table is a dict, so no list -/
def SysD (h : Heap) : Prop := ∃ o, h.get? sysModules = some o ∧ o.cls = .type "dict"
theorem dpxa_len {K : PySem.W.Frag} {H : Hp} : ∀ {vs : List V} {ds : List PyData}, DpXA K H vs ds → vs.length = ds.length
  | _, _, .nil => rfl
  | _, _, .cons _ t => by rw [List.length_cons, List.length_cons, dpxa_len t]
theorem zip_fst {α β : Type} : ∀ {as : List α} {bs : List β}, as.length = bs.length → (as.zip bs).map (·.1) = as
  | [], [], _ => rfl
  | a :: as, b :: bs, h => by
    rw [List.zip_cons_cons, List.map_cons, zip_fst (by simpa using h)]
theorem zip_snd {α β : Type} : ∀ {as : List α} {bs : List β}, as.length = bs.length → (as.zip bs).map (·.2) = bs
  | [], [], _ => rfl
  | a :: as, b :: bs, h => by
    rw [List.zip_cons_cons, List.map_cons, zip_snd (by simpa using h)]
theorem keys_read {P : Program} {w : World} {h : Heap} : ∀ {es : List DictEntry} {vs : List (Key × Value)}, Pairs (mixKind P w) es vs → ReadsAll h (es.map (·.key)) (vs.map fun p => keyD p.1) []
  | _, _, .nil => .nil
  | _, _, @Pairs.cons _ _ _ _ _ e kv es kvs hk hv t => by
    rcases keyIs_shape (k := kv.1) (v := e.key) hk with ⟨i, u, e1, e2⟩ | ⟨z, u, e1, e2⟩
    · have r := ReadsAll.cons (as := []) (h := h) (show Reads h e.key (keyD kv.1) [] by rw [e1, e2]; exact Reads.int i u) (keys_read t)
      exact r
    · have r := ReadsAll.cons (as := []) (h := h) (show Reads h e.key (keyD kv.1) [] by rw [e1, e2]; exact Reads.str z u) (keys_read t)
      exact r
theorem vals_of {P : Program} {w : World} : ∀ {es : List DictEntry} {vs : List (Key × Value)}, Pairs (mixKind P w) es vs → es.map (·.val) = vs.map (·.2)
  | _, _, .nil => rfl
  | _, _, .cons _ hv t => by rw [List.map_cons, List.map_cons, hv, vals_of t]
theorem kv_vals : ∀ {kvs : List (Key × V)} {vs : List (Key × Value)}, KV kvs vs → Vals (kvs.map (·.2)) (vs.map (·.2)) ∧ kvs.map (·.1) = vs.map (·.1)
  | _, _, .nil => ⟨.nil, rfl⟩
  | _, _, .cons ⟨e, r⟩ t => by
    obtain ⟨h1, h2⟩ := kv_vals t
    exact ⟨.cons r h1, by rw [List.map_cons, List.map_cons, e, h2]⟩
section
variable {X : Cx} {pins : List (Addr × Obj)} {σ : L2.St} {H : Hp} {s : Shared}
mutual
theorem DpX.reads (I : Inv X pins σ H s) (sy : SysD s.heap) : ∀ {d : PyData} {v : V} {u : Value}, DpX X.K H v d → RelV v u → ∃ as, Reads s.heap u d as ∧ sysModules ∉ as
  | _, _, _, .non, r => by
    cases r
    exact ⟨_, Reads.none, List.not_mem_nil⟩
  | _, _, _, .bl b, r => by
    cases r
    exact ⟨_, Reads.bool b, List.not_mem_nil⟩
  | _, _, _, .int i, r => by
    obtain ⟨t, rfl⟩ := r
    exact ⟨_, Reads.int i t, List.not_mem_nil⟩
  | _, _, _, .str z, r => by
    obtain ⟨t, rfl⟩ := r
    exact ⟨_, Reads.str z t, List.not_mem_nil⟩
  | _, _, _, .lst hs ha, r => by
    cases r
    obtain ⟨its, rv, ⟨o, n, ho, hc, _, hd⟩, _⟩ := I.list hs
    obtain ⟨as, hr, na⟩ := DpXA.reads I sy ha rv
    refine ⟨_, Reads.list ho hc hd hr, fun m => ?_⟩
    rcases List.mem_cons.mp m with e | m
    · obtain ⟨o2, h2, c2⟩ := sy
      rw [e, ho] at h2
      obtain rfl := Option.some.inj h2
      rw [hc] at c2
      exact absurd c2 (by decide)
    · exact na m
  | _, _, _, .tup hs ha, r => by
    cases r
    obtain ⟨its, rv, ⟨o, ho, hc, n, hd⟩, _⟩ := I.tuple hs
    obtain ⟨as, hr, na⟩ := DpXA.reads I sy ha rv
    exact ⟨_, Reads.tuple ho hc hd hr, na⟩
  | _, _, _, @DpX.dic _ _ a kvs ds hs ha, r => by
    cases r
    obtain ⟨_, nsy, vs, kv, o, es, ep, ho, ex, hd, _, pr, _⟩ := dk_of I.hok hs
    obtain ⟨rv, ek⟩ := kv_vals kv
    obtain ⟨as, hr, na⟩ := DpXA.reads I sy ha rv
    have lk : (kvs.map fun p => keyD p.1).length = ds.length := by
      have := dpxa_len ha
      rw [List.length_map] at this ⊢
      exact this
    have e1 : (kvs.map fun p => keyD p.1) = vs.map fun p => keyD p.1 := by
      have := congrArg (List.map keyD) ek
      rw [List.map_map, List.map_map] at this
      exact this
    have rk : ReadsAll s.heap (es.toList.map (·.key)) (((kvs.map fun p => keyD p.1).zip ds).map (·.1)) [] := by
      rw [zip_fst lk, e1]
      exact keys_read pr
    have rd : ReadsAll s.heap (es.toList.map (·.val)) (((kvs.map fun p => keyD p.1).zip ds).map (·.2)) as := by
      rw [zip_snd lk, vals_of pr]
      exact hr
    refine ⟨_, Reads.dict ho ex.1 hd rk rd, fun m => ?_⟩
    rcases List.mem_cons.mp m with e | m
    · rw [← e] at nsy
      exact absurd nsy (by decide)
    · exact na m
theorem DpXA.reads (I : Inv X pins σ H s) (sy : SysD s.heap) : ∀ {ds : List PyData} {vs : List V} {us : List Value}, DpXA X.K H vs ds → Vals vs us → ∃ as, ReadsAll s.heap us ds as ∧ sysModules ∉ as
  | _, _, _, .nil, r => by
    cases r
    exact ⟨_, ReadsAll.nil, List.not_mem_nil⟩
  | _, _, _, .cons h1 h2, r => by
    cases r with
    | cons r1 r2 =>
      obtain ⟨as, q1, n1⟩ := DpX.reads I sy h1 r1
      obtain ⟨bs, q2, n2⟩ := DpXA.reads I sy h2 r2
      exact ⟨_, ReadsAll.cons q1 q2, fun m => (List.mem_append.mp m).elim n1 n2⟩
end
theorem sys_of (hs : He.dictB X.K sysModules = true) (I : Inv X pins σ H s) : SysD s.heap := by
  obtain ⟨es, n, sl, e⟩ := He.dictB_ok hs
  exact ⟨_, I.kIn _ _ e, rfl⟩
end
section
variable {X : Cx}
def rReprX (K : PySem.W.Frag) : List V → Hp → VK → Prop := fun xs H Q => ∃ v d, xs = [v] ∧ DpX K H v d ∧ d.showable = true ∧ d.depth ≤ 50 ∧ d.shown.length ≤ sizeLine ∧ Q (.str d.shown) H
theorem call_reprX (K : PySem.W.Frag) (hs : He.dictB K sysModules = true) (hu : X.A.units + 64 < cLine) (g : X.A.guards = some []) (hK : X.K = K := by rfl) : CallR X (.builtin "repr") (rReprX K) := by
  subst hK
  intro pins s σ H xs us Q I r h
  obtain ⟨v, d, rfl, hd, hsw, hdp, hz, q⟩ := h
  obtain ⟨u, rfl, rv⟩ : ∃ u, us = [u] ∧ RelV v u := by
    cases r with
    | cons r1 r2 => cases r2 with
      | nil => exact ⟨_, rfl, r1⟩
  obtain ⟨as, rd, na⟩ := DpX.reads I (sys_of hs I) hd rv
  have fin : ∀ {a : Addr}, u = .ref a → wpAny (model X.prog X.w) X.A (call (.builtin "repr") [u]) (EP X pins σ Q) X.xe s := by
    rintro a rfl
    exact repr_of_reads' rd hsw (fun _ => na) g (by omega) (fun _ _ e => e) (fun h' t tk hk => ⟨.str _, H, I.kept hk, ⟨_, rfl⟩, q⟩) hz
  cases hd with
  | non =>
    cases rv
    simp only [PyData.shown] at q
    exact PySem.P.repr_of_none ⟨.str _, H, I.tok _, ⟨_, rfl⟩, q⟩
  | bl b =>
    cases rv
    simp only [PyData.shown] at q
    refine PySem.P.repr_of_bool ⟨.str _, H, I.tok _, ⟨_, rfl⟩, ?_⟩
    cases b <;> exact q
  | int i =>
    obtain ⟨t, rfl⟩ := rv
    simp only [PyData.shown] at q
    exact PySem.P.repr_of_int (by simpa [PyData.showable] using hsw) ⟨.str _, H, I.tok _, ⟨_, rfl⟩, q⟩
  | str x =>
    obtain ⟨t, rfl⟩ := rv
    simp only [PyData.shown] at q hz
    exact PySem.P.repr_of_str ⟨.str _, H, I.tok _, ⟨_, rfl⟩, q⟩ hz
  | lst _ _ => exact fin rv
  | tup _ _ => exact fin rv
  | dic _ _ => exact fin rv
end
def EqX (K : PySem.W.Frag) (H : Hp) (i x : V) (b : Bool) : Prop :=
  (∃ d e, Dp K H i d ∧ Dp K H x e ∧ SeqAt.shaped d = true ∧ SeqAt.shaped e = true ∧ b = PyData.eqv d e) ∨
  (∃ (a : Addr) (kvs : List (Key × V)) (z : Str), i = .ref a ∧ H a = some (.dK kvs) ∧ x = .str z ∧ b = false) ∨
  ∃ (a : Addr) (kvs : List (Key × V)) (z : Str), x = .ref a ∧ H a = some (.dK kvs) ∧ i = .str z ∧ b = false
section
variable {X : Cx} {pins : List (Addr × Obj)} {σ : L2.St} {H : Hp} {s : Shared}
theorem dict_at (I : Inv X pins σ H s) {a : Addr} {kvs : List (Key × V)} (h : H a = some (.dK kvs)) : DictObj s.heap a := by
  obtain ⟨_, _, vs, kv, o, es, ep, ho, ex, hd, _⟩ := dk_of I.hok h
  exact ⟨o, es, ep, ho, ex.1, hd⟩
theorem EqX.at (I : Inv X pins σ H s) {A : Around} (hu : A.units + 64 < cLine) {i x : V} {b : Bool} {ui ux : Value} (h : EqX X.K H i x b) (ri : RelV i ui) (rx : RelV x ux) : SeqAt.EqAt A s ui ux b := by
  rcases h with ⟨d, e, h1, h2, s1, s2, rfl⟩ | ⟨a, kvs, z, rfl, ha, rfl, rfl⟩ | ⟨a, kvs, z, rfl, ha, rfl, rfl⟩
  · obtain ⟨as, r1⟩ := Dp.reads I d i ui h1 ri
    obtain ⟨bs, r2⟩ := Dp.reads I e x ux h2 rx
    exact SeqAt.eqAt_reads d e A s ui ux as bs r1 r2 (SeqAt.canLay_of_shaped s1) (SeqAt.canLay_of_shaped s2) (SeqAt.room_of_shaped s1 hu)
  · cases ri
    obtain ⟨t, rfl⟩ := rx
    exact eqAt_dict_str z t (dict_at I ha) (by omega)
  · cases rx
    obtain ⟨t, rfl⟩ := ri
    exact eqAt_str_dict z t (dict_at I ha) (by omega)
/-- by which the items answer -/
theorem answers (I : Inv X pins σ H s) {A : Around} (hu : A.units + 64 < cLine) {x : V} {ux : Value} (rx : RelV x ux) : ∀ {xs : List V} {bs : List Bool} {us : List Value}, Paired (fun i b => EqX X.K H i x b) xs bs → Vals xs us →
    ∃ e : Value → Bool, (∀ y ∈ us, SeqAt.EqAt A s y ux (e y)) ∧ us.any e = bs.any id := by
  classical
  have go : ∀ {xs : List V} {bs : List Bool} {us : List Value}, Paired (fun i b => EqX X.K H i x b) xs bs → Vals xs us → Paired (fun u b => SeqAt.EqAt A s u ux b) us bs := by
    intro xs bs us h
    induction h generalizing us with
    | nil =>
      intro r
      cases r
      exact .nil
    | cons h t ih =>
      intro r
      cases r with
      | cons r1 r2 => exact .cons (h.at I hu r1 rx) (ih r2)
  intro xs bs us h r
  have h2 := go h r
  clear h r
  have mem : ∀ {us : List Value} {bs : List Bool}, Paired (fun u b => SeqAt.EqAt A s u ux b) us bs → (∀ y ∈ us, ∃ b, (y, b) ∈ us.zip bs) ∧ (∀ p ∈ us.zip bs, SeqAt.EqAt A s p.1 ux p.2) ∧ ∀ b ∈ bs, ∃ y, (y, b) ∈ us.zip bs := by
    intro us bs h
    induction h with
    | nil => exact ⟨(fun _ z => nomatch z), (fun _ z => nomatch z), (fun _ z => nomatch z)⟩
    | cons h t ih =>
      obtain ⟨i1, i2, i3⟩ := ih
      rw [List.zip_cons_cons]
      refine ⟨fun y hy => ?_, fun p hp => ?_, fun b hb => ?_⟩
      · rcases List.mem_cons.mp hy with rfl | hy
        · exact ⟨_, List.mem_cons_self⟩
        · obtain ⟨b, hb⟩ := i1 y hy
          exact ⟨b, List.mem_cons_of_mem _ hb⟩
      · rcases List.mem_cons.mp hp with rfl | hp
        · exact h
        · exact i2 p hp
      · rcases List.mem_cons.mp hb with rfl | hb
        · exact ⟨_, List.mem_cons_self⟩
        · obtain ⟨y, hy⟩ := i3 b hb
          exact ⟨y, List.mem_cons_of_mem _ hy⟩
  obtain ⟨m1, m2, m3⟩ := mem h2
  refine ⟨fun y => decide ((y, true) ∈ us.zip bs), fun y hy => ?_, ?_⟩
  · show SeqAt.EqAt A s y ux (decide ((y, true) ∈ us.zip bs))
    by_cases c : (y, true) ∈ us.zip bs
    · rw [decide_eq_true c]
      exact m2 _ c
    · rw [decide_eq_false c]
      obtain ⟨b, hb⟩ := m1 y hy
      cases b with
      | true => exact absurd hb c
      | false => exact m2 _ hb
  · rw [Bool.eq_iff_iff, List.any_eq_true, List.any_eq_true]
    constructor
    · rintro ⟨y, hy, e⟩
      exact ⟨true, (List.of_mem_zip (of_decide_eq_true e)).2, rfl⟩
    · rintro ⟨b, hb, e⟩
      obtain rfl : b = true := e
      obtain ⟨y, hy⟩ := m3 true hb
      exact ⟨y, (List.of_mem_zip hy).1, decide_eq_true hy⟩
end
section
variable {X : Cx}
def rInX (K : PySem.W.Frag) (neg : Bool) : R2 := fun x y H Q => ∃ (p : Addr) (xs : List V) (bs : List Bool), y = .ref p ∧ (SqL K H p xs ∨ SqT K H p xs) ∧ Paired (fun i b => EqX K H i x b) xs bs ∧ Q (.bl (if neg then !bs.any id else bs.any id)) H
theorem kInX (K : PySem.W.Frag) (hu : X.A.units + 65 < cLine) (hK : X.K = K := by rfl) : OpR X (compareOp .In) (rInX K false) := by
  subst hK
  intro pins s σ H x y v u Q I rx ry h
  obtain ⟨p, xs, bs, rfl, hs, hp, q⟩ := h
  cases ry
  have hu2 : X.A.in1.units + 64 < cLine := by show X.A.units + 1 + 64 < cLine; omega
  rcases hs with hs | hs
  · obtain ⟨its, rv, ⟨o, n, ho, hc, _, hd⟩, _⟩ := I.list hs
    obtain ⟨e, e1, e2⟩ := answers I hu2 rx hp rv
    exact SeqAt.in_listAt e ⟨o, ho, hc, n, hd⟩ (fun y hy => e1 y (by simpa using hy)) ⟨.bl _, H, I, rfl, by rw [List.any_toArray, e2]; exact q⟩
  · obtain ⟨its, rv, ⟨o, ho, hc, n, hd⟩, _⟩ := I.tuple hs
    obtain ⟨e, e1, e2⟩ := answers I hu2 rx hp rv
    exact SeqAt.in_tupleAt e ⟨o, ho, hc, n, hd⟩ (fun y hy => e1 y (by simpa using hy)) ⟨.bl _, H, I, rfl, by rw [List.any_toArray, e2]; exact q⟩
theorem kNotInX (K : PySem.W.Frag) (hu : X.A.units + 65 < cLine) (hK : X.K = K := by rfl) : OpR X (compareOp .NotIn) (rInX K true) := by
  subst hK
  intro pins s σ H x y v u Q I rx ry h
  obtain ⟨p, xs, bs, rfl, hs, hp, q⟩ := h
  cases ry
  have hu2 : X.A.in1.units + 64 < cLine := by show X.A.units + 1 + 64 < cLine; omega
  rcases hs with hs | hs
  · obtain ⟨its, rv, ⟨o, n, ho, hc, _, hd⟩, _⟩ := I.list hs
    obtain ⟨e, e1, e2⟩ := answers I hu2 rx hp rv
    exact SeqAt.notIn_listAt e ⟨o, ho, hc, n, hd⟩ (fun y hy => e1 y (by simpa using hy)) ⟨.bl _, H, I, rfl, by rw [List.any_toArray, e2]; exact q⟩
  · obtain ⟨its, rv, ⟨o, ho, hc, n, hd⟩, _⟩ := I.tuple hs
    obtain ⟨e, e1, e2⟩ := answers I hu2 rx hp rv
    exact SeqAt.notIn_tupleAt e ⟨o, ho, hc, n, hd⟩ (fun y hy => e1 y (by simpa using hy)) ⟨.bl _, H, I, rfl, by rw [List.any_toArray, e2]; exact q⟩
end
end TB
namespace L3
open PySem PySem.Spec PyProof.Rows L2 TB LamX
mutual
def pdX : D → Option PyData
  | .non => some .none
  | .bl b => some (.bool b)
  | .int i => some (.int i)
  | .str z => some (.str z)
  | .lst ds => (pdXL ds).map .list
  | .tup ds => (pdXL ds).map .tuple
  | .dic ks ds => if ks.length = ds.length then (pdXL ds).map fun xs => .dict ((ks.map keyD).zip xs) else none
  | _ => none
def pdXL : List D → Option (List PyData)
  | [] => some []
  | d :: ds => consO (pdX d) (pdXL ds)
end
mutual
theorem pdX_dp {K : PySem.W.Frag} {F H : Hp} (s : Same F H) : ∀ {d : D} {v : V} {x : PyData}, Rp K F d v → pdX d = some x → DpX K H v x
  | .non, v, x, h, e => by
    obtain rfl : PyData.none = x := Option.some.inj e
    obtain rfl : v = .non := h
    exact .non
  | .bl b, v, x, h, e => by
    obtain rfl : PyData.bool b = x := Option.some.inj e
    obtain rfl : v = .bl b := h
    exact .bl b
  | .int b, v, x, h, e => by
    obtain rfl : PyData.int b = x := Option.some.inj e
    obtain rfl : v = .int b := h
    exact .int b
  | .str b, v, x, h, e => by
    obtain rfl : PyData.str b = x := Option.some.inj e
    obtain rfl : v = .str b := h
    exact .str b
  | .lst ds, v, x, h, e => by
    obtain ⟨a, vs, rfl, q, r⟩ := h
    have e : (pdXL ds).map PyData.list = some x := e
    obtain ⟨xs, e2, rfl⟩ := Option.map_eq_some_iff.mp e
    exact .lst (sqL_of (s _ _ q)) (pdXL_dp s r e2)
  | .tup ds, v, x, h, e => by
    obtain ⟨a, vs, rfl, q, r⟩ := h
    have e : (pdXL ds).map PyData.tuple = some x := e
    obtain ⟨xs, e2, rfl⟩ := Option.map_eq_some_iff.mp e
    exact .tup (sqT_mono s q) (pdXL_dp s r e2)
  | .dic ks ds, v, x, h, e => by
    obtain ⟨a, vs, rfl, q, r⟩ := h
    have e : (if ks.length = ds.length then (pdXL ds).map fun xs => PyData.dict ((ks.map keyD).zip xs) else none) = some x := e
    by_cases c : ks.length = ds.length
    · rw [if_pos c] at e
      obtain ⟨xs, e2, rfl⟩ := Option.map_eq_some_iff.mp e
      have lv : ks.length = vs.length := by rw [r.len]; exact c
      have h1 := DpX.dic (K := K) (ds := xs) (s _ _ q) (by rw [zip_snd lv]; exact pdXL_dp s r e2)
      have h2 : ((ks.zip vs).map fun p => keyD p.1) = ks.map keyD := by
        have := congrArg (List.map keyD) (zip_fst lv)
        rw [List.map_map] at this
        exact this
      rw [h2] at h1
      exact h1
    · rw [if_neg c] at e
      exact nomatch e
  | .ty _, v, x, h, e => nomatch e
  | .ins _ _ _, v, x, h, e => nomatch e
  | .op _, v, x, h, e => nomatch e
theorem pdXL_dp {K : PySem.W.Frag} {F H : Hp} (s : Same F H) : ∀ {ds : List D} {vs : List V} {xs : List PyData}, RpL K F ds vs → pdXL ds = some xs → DpXA K H vs xs
  | [], vs, xs, h, e => by
    obtain rfl : [] = xs := Option.some.inj e
    obtain rfl : vs = [] := h
    exact .nil
  | d :: ds, vs, xs, h, e => by
    obtain ⟨v, r, rfl, q, t⟩ := h
    have e : consO (pdX d) (pdXL ds) = some xs := e
    cases e1 : pdX d with
    | none => rw [e1] at e; exact nomatch e
    | some y =>
      cases e2 : pdXL ds with
      | none => rw [e1, e2] at e; exact nomatch e
      | some ys =>
        rw [e1, e2] at e
        obtain rfl : y :: ys = xs := Option.some.inj e
        exact .cons (pdX_dp s q e1) (pdXL_dp s t e2)
end
theorem pdX_rn {K : PySem.W.Frag} {F H : Hp} (s : Same F H) {d : D} {v : V} {x : PyData} (h : Rn K F H d v) (e : pdX d = some x) : DpX K H v x := by
  cases d with
  | lst ds =>
    obtain ⟨a, vs, rfl, q, r⟩ := h
    have e : (pdXL ds).map PyData.list = some x := e
    obtain ⟨xs, e2, rfl⟩ := Option.map_eq_some_iff.mp e
    exact .lst (sqL_of q) (pdXL_dp s r e2)
  | _ => exact pdX_dp s h e
section
variable {X : Sx}
def oReprX : OL := fun as Q => ∃ d x, as = [d] ∧ pdX d = some x ∧ x.showable = true ∧ x.depth ≤ 50 ∧ x.shown.length ≤ sizeLine ∧ Q (.str x.shown)
theorem lc_reprX {K : PySem.W.Frag} (hK : X.K = K) : LiC X (rReprX K) oReprX := by
  intro c hX σ F H ρ xs dxs Q Q3 R rx hq h
  subst hX
  subst hK
  obtain ⟨d, x, rfl, e, h1, h2, h3, q⟩ := h
  obtain ⟨v, t, rfl, rv, et⟩ := rx
  obtain rfl : t = [] := et
  exact ⟨v, x, rfl, pdX_rn R.sub rv e, h1, h2, h3, hq (.str _) _ F H R (Same.refl F) rfl q⟩
theorem w_reprX {d : D} {x : PyData} {F : D → Prop} (e : pdX d = some x) (h1 : x.showable = true) (h2 : x.depth ≤ 50) (h3 : x.shown.length ≤ sizeLine) (h : F (.str x.shown)) : oReprX [d] F := ⟨d, x, rfl, e, h1, h2, h3, h⟩
/-- what i == x answers -/
def eqXD (x i : D) (b : Bool) : Prop := (∃ d e, pd i = some d ∧ pd x = some e ∧ SeqAt.shaped d = true ∧ SeqAt.shaped e = true ∧ b = PyData.eqv d e) ∨ (∃ ks vs z, i = .dic ks vs ∧ x = .str z ∧ b = false) ∨ ∃ ks vs z, x = .dic ks vs ∧ i = .str z ∧ b = false
theorem eqXD_eq {K : PySem.W.Frag} {F H : Hp} (s : Same F H) {x i : D} {vx vi : V} {b : Bool} (hx : Rn K F H x vx) (hi : Rp K F i vi) (h : eqXD x i b) : EqX K H vi vx b := by
  rcases h with ⟨d, e, h1, h2, s1, s2, rfl⟩ | ⟨ks, vs, z, rfl, rfl, rfl⟩ | ⟨ks, vs, z, rfl, rfl, rfl⟩
  · exact Or.inl ⟨d, e, pd_dp s hi h1, pd_rn s hx h2, s1, s2, rfl⟩
  · obtain ⟨a, ws, rfl, q, _⟩ := hi
    exact Or.inr (Or.inl ⟨a, _, z, rfl, s _ _ q, hx, rfl⟩)
  · obtain ⟨a, ws, rfl, q, _⟩ := hx
    exact Or.inr (Or.inr ⟨a, _, z, rfl, s _ _ q, hi, rfl⟩)
def oInX (neg : Bool) : O2 := fun dx dy Q => ∃ (ds : List D) (bs : List Bool), (dy = .lst ds ∨ dy = .tup ds) ∧ Paired (eqXD dx) ds bs ∧ Q (.bl (if neg then !bs.any id else bs.any id))
theorem lr_inX {K : PySem.W.Frag} {neg : Bool} (hK : X.K = K) : LiR X (rInX K neg) (oInX neg) := by
  intro c hX σ F H ρ x y dx dy Q Q3 R rx ry hq h
  subst hX
  subst hK
  obtain ⟨ds, bs, hd, hp, q⟩ := h
  have go : ∀ {ds : List D} {bs : List Bool} {vs : List V}, Paired (eqXD dx) ds bs → RpL c.K F ds vs → Paired (fun i b => EqX c.K H i x b) vs bs := by
    intro ds bs vs h
    induction h generalizing vs with
    | nil =>
      intro r
      obtain rfl : vs = [] := r
      exact .nil
    | cons h t ih =>
      rintro ⟨v, r, rfl, q1, q2⟩
      exact .cons (eqXD_eq R.sub rx q1 h) (ih q2)
  rcases hd with rfl | rfl
  · obtain ⟨p, vs, rfl, hv, r⟩ := ry
    exact ⟨p, vs, bs, rfl, Or.inl (sqL_of hv), go hp r, hq (.bl _) _ F H R (Same.refl F) rfl q⟩
  · obtain ⟨p, vs, rfl, hv, r⟩ := ry
    exact ⟨p, vs, bs, rfl, Or.inr (sqT_mono R.sub hv), go hp r, hq (.bl _) _ F H R (Same.refl F) rfl q⟩
end
end L3
namespace He
open PySem PySem.Spec PyProof.Rows L2
/-- K with the modules' table -/
def asS (g : Addr → Option Obj) (n : Nat) : List Addr := asD g n ++ [sysModules]
def obsS (n : Nat) (fa : List Fa) (fn : List DefD) (tf : List Defn) (ex : PySem.W.Frag → Bool) (g : Addr → Option Obj) : AlX := (obsT fa fn [] (frT g (asS g n)), ex (frT g (asS g n)) && tabsB g tf (frT g (asS g n)))
theorem says_of {fa : List Fa} {fn : List DefD} {tf : List Defn} {ex : PySem.W.Frag → Bool} {w : World} {h : Heap} {as : List Addr} (e : (obsT fa fn [] (frT h.get? as), ex (frT h.get? as) && tabsB h.get? tf (frT h.get? as)) = valX fn [] w) : SaysX fa fn [] tf ex w h (frT h.get? as) := by
  generalize hK : frT h.get? as = K at e
  have e1 : obsT fa fn [] K = valT fn [] w := congrArg Prod.fst e
  obtain ⟨h1, h2⟩ := ba (show (ex K && tabsB h.get? tf K) = true from congrArg Prod.snd e)
  have tab : ∀ p ∈ tf, PySem.W.codeHdIn K (cT K p).1 (cT K p).2 = true ∧ ∃ o, h.get? (cT K p).2 = some o ∧ emptyTab o = true := by
    intro p hp
    obtain ⟨h3, h4⟩ := ba (List.all_eq_true.mp h2 p hp)
    cases q : h.get? (cT K p).2 with
    | none => rw [q] at h4; exact nomatch h4
    | some o => rw [q] at h4; exact ⟨h3, o, rfl, h4⟩
  refine ⟨e1, h1, fun p hp => (tab p hp).1, fun p hp => ?_, fun p hp => ?_⟩
  · obtain ⟨_, o, q, z⟩ := tab p hp
    rw [← hK] at q ⊢
    exact frT_none q z
  · obtain ⟨_, o, q, z⟩ := tab p hp
    rw [q, emptyTab_eq z]
def hookS (n : Nat) (fa : List Fa) (fn : List DefD) (tf : List Defn) (ex : PySem.W.Frag → Bool) : PySem.W.Hook where
  α := AlX
  obs := fun s => obsS n fa fn tf ex s.heap.get?
  val := fun w => valX fn [] w
  says := fun w h => ∃ K : PySem.W.Frag, K.In h ∧ SaysX fa fn [] tf ex w h K
  of := fun _ _ e => ⟨_, frT_in, says_of e⟩
  keeps := fun _ _ _ ⟨K, hK, c⟩ k => ⟨K, hK.keeps k, c.t, c.more, c.hd, c.out, fun p hp => k _ _ (c.empty p hp)⟩
theorem obsS_eq {n : Nat} {fa : List Fa} {fn : List DefD} {tf : List Defn} {ex : PySem.W.Frag → Bool} {g : Addr → Option Obj} {s : Shared} (h : ∀ a, g a = s.heap.get? a) : obsS n fa fn tf ex g = (hookS n fa fn tf ex).obs s := by
  obtain rfl : g = s.heap.get? := funext h
  rfl
end He
namespace L3
open PySem PySem.Spec PyProof.Rows L2 TB LamX
section
variable {X : Sx} {K : PySem.W.Frag}
def qDNew : QD := fun ρ Q => Q (.dic [] []) ρ
theorem li_dnew : LiD X tDNewK qDNew := by
  intro c hX σ F H ρ Q Q3 R hq h p np
  have s : Same F (upd F p (.dK [])) := fun _ _ e => old_upd (R.fnone np) e
  exact hq (.dic [] []) ρ (.ref p) _ _ (R.alloc np trivial) s ⟨p, [], rfl, upd_same, rfl⟩ h
/-- own.insert(i, y) -/
def rIns : V → List V → Hp → VK → Prop := fun x vs H Q => ∃ (l : Addr) (xs : List V) (i : Int) (y : V), x = .ref l ∧ vs = [.int i, y] ∧ H l = some (.lst xs) ∧ xs.length < sizeLine ∧ 0 ≤ i ∧ i < 2 ^ 63 ∧ Q .non (upd H l (.lst (xs.take i.toNat ++ [y] ++ xs.drop i.toNat)))
theorem mt_insK {Y : Cx} : MtR Y "list.insert" rIns := mt_insert
theorem w_dnew {ρ : PSt} {Q : D → PSt → Prop} (h : Q (.dic [] []) ρ) : qDNew ρ Q := h
end
end L3
namespace L3
open PySem PySem.Spec PyProof.Rows L2 TB LamX
/-- signs as they are -/
def Sg (z : Str) : Prop := z.length ≤ 100 ∧ ∀ c ∈ z.cps.toList, c < 1114112
theorem Nm.sg {z : Str} (h : Nm z) : Sg z := by
  refine ⟨?_, fun c hc => ?_⟩
  · have := h.2.1
    rw [show tl z = z.cps.toList from rfl, Array.length_toList] at this
    show z.cps.size ≤ 100
    omega
  · have := (h.2.2 c hc).2
    omega
theorem Sg.len {z : Str} (h : Sg z) : (PyData.str z).shown.length ≤ 1002 := by
  simp only [PyData.shown]
  have e := StrLaws.reprText_len z fun c hc => Nat.lt_of_lt_of_le (h.2 c hc) (by decide)
  have := h.1
  omega
/-- an item of a thing -/
inductive It : D → Prop
  | str {z : Str} : Sg z → It (.str z)
  | non : It .non
  | int {i : Int} : i.natAbs < 10 ^ 12 → It (.int i)
  | bl {b : Bool} : It (.bl b)
  | lst {ws : List Str} : ws.length ≤ 8 → (∀ z ∈ ws, Sg z) → It (.lst (strsD ws))
  | tup {ws : List Str} : ws.length ≤ 8 → (∀ z ∈ ws, Sg z) → It (.tup (strsD ws))
  | dic : It (.dic [] [])
theorem pdX_strs (ws : List Str) : pdXL (strsD ws) = some (ws.map PyData.str) := by
  induction ws with
  | nil => rfl
  | cons z r ih =>
    show consO (pdX (.str z)) (pdXL (strsD r)) = _
    rw [ih]
    rfl
theorem shown_tupG_le {B : Nat} {ds : List PyData} (h : ∀ d ∈ ds, d.shown.length ≤ B) : (PyData.tuple ds).shown.length ≤ ds.length * B + 2 * ds.length + 3 := shown_tuple_le h
theorem It.pd {d : D} (h : It d) : ∃ x, pdX d = some x ∧ x.showable = true ∧ x.depth ≤ 1 ∧ x.shown.length ≤ 9000 := by
  cases h with
  | str h =>
    have := h.len
    exact ⟨_, rfl, by simp only [PyData.showable], by simp [PyData.depth], by omega⟩
  | non => exact ⟨_, rfl, by simp only [PyData.showable], by simp [PyData.depth], by decide +kernel⟩
  | int h =>
    have := TB.shown_int_le h
    refine ⟨_, rfl, ?_, by simp [PyData.depth], by omega⟩
    simp only [PyData.showable, decide_eq_true_eq]
    rename_i i
    have hn : i.natAbs < 2 ^ 64 := by omega
    exact Nat.lt_trans (PySem.Flt.log2_lt_of (by decide) hn) (by decide)
  | @bl b => exact ⟨_, rfl, by simp only [PyData.showable], by simp [PyData.depth], by cases b <;> decide +kernel⟩
  | @lst ws h1 h2 =>
    refine ⟨.list (ws.map .str), by show (pdXL (strsD ws)).map _ = _; rw [pdX_strs]; rfl, ?_, ?_, ?_⟩
    · exact strs_show ws
    · exact strs_depth ws
    · have := shown_list_le (f := PyData.str) (B := 1002) (l := ws) fun x hx => (h2 x hx).len
      omega
  | @tup ws h1 h2 =>
    refine ⟨.tuple (ws.map .str), by show (pdXL (strsD ws)).map _ = _; rw [pdX_strs]; rfl, ?_, ?_, ?_⟩
    · simp only [PyData.showable]
      exact showAll_map fun x _ => by simp only [PyData.showable]
    · simp only [PyData.depth]
      have := depthAll_map (f := PyData.str) (n := 0) (l := ws) fun x _ => by simp only [PyData.depth]; exact Nat.le_refl _
      omega
    · have := shown_tupG_le (B := 1002) (ds := ws.map PyData.str) fun x hx => by
        obtain ⟨z, hz, rfl⟩ := List.mem_map.mp hx
        exact (h2 z hz).len
      rw [List.length_map] at this
      omega
  | dic => exact ⟨.dict [], rfl, by simp only [PyData.showable, PyData.showableKv], by simp [PyData.depth, PyData.depthKv], by decide +kernel⟩
theorem Sg.ok {z : Str} (h : Sg z) : PyData.strOk z = true := by
  unfold PyData.strOk
  rw [Array.all_eq_true_iff_forall_mem]
  intro c hc
  have h1 := h.2 c (Array.mem_toList_iff.mpr hc)
  exact decide_eq_true (by omega)
theorem strs_lay {ws : List Str} (h : ∀ z ∈ ws, Sg z) : PyData.canLayAll0 (ws.map PyData.str) = true := by
  induction ws with
  | nil => simp [PyData.canLayAll0]
  | cons z r ih => simp [PyData.canLayAll0, PyData.canLay0, (h z List.mem_cons_self).ok, ih fun y hy => h y (List.mem_cons_of_mem _ hy)]
theorem sh_strsG {ws : List Str} (h : ∀ z ∈ ws, Sg z) : SeqAt.shaped (dStrs ws) = true := by
  have h2 := strs_depth ws
  unfold SeqAt.shaped
  rw [Bool.and_eq_true, decide_eq_true_eq]
  refine ⟨?_, by omega⟩
  simp only [dStrs, PyData.canLay0]
  exact strs_lay h
theorem sh_flat {x : PyData} (h1 : x.canLay0 = true) (h2 : x.depth ≤ 64) : SeqAt.shaped x = true := by
  unfold SeqAt.shaped
  rw [h1, decide_eq_true h2]
  rfl
/-- a text held against an item -/
theorem It.eq {d : D} (h : It d) {z : Str} (hz : Sg z) : ∃ b, eqXD (.str z) d b ∧ (b = true ↔ d = .str z) := by
  have sz : SeqAt.shaped (PyData.str z) = true := sh_flat (by simp only [PyData.canLay0]; exact hz.ok) (by simp [PyData.depth])
  cases h with
  | @str y h =>
    refine ⟨decide (y = z), Or.inl ⟨.str y, .str z, rfl, rfl, sh_flat (by simp only [PyData.canLay0]; exact h.ok) (by simp [PyData.depth]), sz, ?_⟩, ?_⟩
    · simp only [PyData.eqv]
      rw [beq_str]
    · rw [decide_eq_true_eq]
      exact ⟨fun e => by rw [e], fun e => by injection e⟩
  | non => exact ⟨false, Or.inl ⟨.none, .str z, rfl, rfl, by decide +kernel, sz, by simp only [PyData.eqv]⟩, (fun e => nomatch e), (fun e => nomatch e)⟩
  | @int i h => exact ⟨false, Or.inl ⟨.int i, .str z, rfl, rfl, sh_flat (by simp only [PyData.canLay0]) (by simp [PyData.depth]), sz, by simp only [PyData.eqv]⟩, (fun e => nomatch e), (fun e => nomatch e)⟩
  | @bl b => exact ⟨false, Or.inl ⟨.bool b, .str z, rfl, rfl, sh_flat (by simp only [PyData.canLay0]) (by simp [PyData.depth]), sz, by simp only [PyData.eqv]⟩, (fun e => nomatch e), (fun e => nomatch e)⟩
  | @lst ws h1 h2 => exact ⟨false, Or.inl ⟨dStrs ws, .str z, pd_strs ws, rfl, sh_strsG h2, sz, by simp only [dStrs, PyData.eqv]⟩, (fun e => nomatch e), (fun e => nomatch e)⟩
  | @tup ws h1 h2 =>
    refine ⟨false, Or.inl ⟨.tuple (ws.map .str), .str z, ?_, rfl, sh_flat ?_ ?_, sz, by simp only [PyData.eqv]⟩, (fun e => nomatch e), (fun e => nomatch e)⟩
    · have e1 : (pdL (strsD ws)).map PyData.list = some (dStrs ws) := pd_strs ws
      obtain ⟨xs, e2, e3⟩ := Option.map_eq_some_iff.mp e1
      obtain rfl : xs = ws.map PyData.str := by injection e3
      show (pdL (strsD ws)).map PyData.tuple = _
      rw [e2]
      rfl
    · simp only [PyData.canLay0]
      exact strs_lay h2
    · simp only [PyData.depth]
      have := depthAll_map (f := PyData.str) (n := 0) (l := ws) fun x _ => by simp only [PyData.depth]; exact Nat.le_refl _
      omega
  | dic => exact ⟨false, Or.inr (Or.inl ⟨[], [], z, rfl, rfl, rfl⟩), (fun e => nomatch e), (fun e => nomatch e)⟩
/-- what is handed to be judged -/
inductive Th : D → Prop
  | lst {ds : List D} : ds.length ≤ 9 → (∀ d ∈ ds, It d) → Th (.lst ds)
  | nest {ws : List Str} : ws.length ≤ 8 → (∀ z ∈ ws, Sg z) → Th (.lst [.lst (strsD ws)])
  | oth {d : D} {t : String} : It d → tyD d = some t → kitB t "list" = some false → Th d
theorem pdX_its : ∀ {ds : List D}, (∀ d ∈ ds, It d) → ∃ xs, pdXL ds = some xs ∧ xs.length = ds.length ∧ (∀ x ∈ xs, x.showable = true ∧ x.depth ≤ 1 ∧ x.shown.length ≤ 9000)
  | [], _ => ⟨[], rfl, rfl, fun _ z => nomatch z⟩
  | d :: ds, h => by
    obtain ⟨x, e, h1, h2, h3⟩ := (h d List.mem_cons_self).pd
    obtain ⟨xs, e2, l, h4⟩ := pdX_its fun e he => h e (List.mem_cons_of_mem _ he)
    refine ⟨x :: xs, by show consO (pdX d) (pdXL ds) = _; rw [e, e2]; rfl, by rw [List.length_cons, List.length_cons, l], fun y hy => ?_⟩
    rcases List.mem_cons.mp hy with rfl | hy
    · exact ⟨h1, h2, h3⟩
    · exact h4 y hy
theorem showAll_of {xs : List PyData} (h : ∀ x ∈ xs, x.showable = true) : PyData.showableAll xs = true := by
  have := showAll_map (f := id) (l := xs) (fun x hx => h x hx)
  rw [List.map_id] at this
  exact this
theorem depthAll_of {n : Nat} {xs : List PyData} (h : ∀ x ∈ xs, x.depth ≤ n) : PyData.depthAll xs ≤ n + 1 := by
  have := depthAll_map (f := id) (n := n) (l := xs) (fun x hx => h x hx)
  rw [List.map_id] at this
  omega
theorem Th.pd {t : D} (h : Th t) : ∃ x, pdX t = some x ∧ x.showable = true ∧ x.depth ≤ 50 ∧ x.shown.length ≤ sizeLine := by
  have big : ∀ {n : Nat}, n ≤ 1000000 → n ≤ sizeLine := fun h => by rw [sizeLine_eq]; omega
  have go : ∀ {ds : List D}, ds.length ≤ 9 → (∀ d ∈ ds, It d) → ∃ x, pdX (.lst ds) = some x ∧ x.showable = true ∧ x.depth ≤ 50 ∧ x.shown.length ≤ sizeLine := by
    intro ds h1 h2
    obtain ⟨xs, e, l, h3⟩ := pdX_its h2
    refine ⟨.list xs, by show (pdXL ds).map _ = _; rw [e]; rfl, ?_, ?_, big ?_⟩
    · simp only [PyData.showable]
      exact showAll_of fun x hx => (h3 x hx).1
    · simp only [PyData.depth]
      have := depthAll_of (n := 1) fun x hx => (h3 x hx).2.1
      omega
    · have h4 := shown_listG_le (B := 9000) (ds := xs) fun x hx => (h3 x hx).2.2
      have h5 : xs.length * 9000 ≤ 9 * 9000 := Nat.mul_le_mul_right _ (by omega)
      omega
  cases h with
  | lst h1 h2 => exact go h1 h2
  | @nest ws h1 h2 => exact go (ds := [.lst (strsD ws)]) (by show 1 ≤ 9; decide) (fun d hd => by rw [List.mem_singleton.mp hd]; exact .lst h1 h2)
  | oth h1 _ _ =>
    obtain ⟨x, e, h2, h3, h4⟩ := h1.pd
    exact ⟨x, e, h2, by omega, big (by omega)⟩
theorem perm_sub {α : Type} : ∀ {l1 l2 : List α}, l1.Nodup → (∀ x ∈ l1, x ∈ l2) → l2.length ≤ l1.length → l2.Perm l1
  | [], l2, _, _, h => by
    rw [List.eq_nil_of_length_eq_zero (Nat.le_zero.mp h)]
  | x :: r, l2, nd, h, hl => by
    obtain ⟨n1, n2⟩ := List.nodup_cons.mp nd
    obtain ⟨a, b, rfl⟩ := List.append_of_mem (h x List.mem_cons_self)
    have p1 : (a ++ x :: b).Perm (x :: (a ++ b)) := List.perm_middle
    refine p1.trans (List.Perm.cons x (perm_sub n2 (fun y hy => ?_) ?_))
    · have := h y (List.mem_cons_of_mem _ hy)
      rcases List.mem_append.mp this with m | m
      · exact List.mem_append_left _ m
      · rcases List.mem_cons.mp m with rfl | m
        · exact absurd hy n1
        · exact List.mem_append_right _ m
    · rw [List.length_append, List.length_cons] at hl
      rw [List.length_cons] at hl
      rw [List.length_append]
      omega
theorem LineP.same {ls line : List Str} {ps qs : List Pr} (h : ∀ z, z ∈ ps ↔ z ∈ qs) (l : LineP ls ps line) : LineP ls qs line := ⟨l.pm, fun i z e => by rw [← freeB_same h]; exact l.free i z e⟩
/-- grown by any that may stand -/
structure GA (ls : List Str) (qs : List Pr) (fs : List Str) : Prop where
  nd : fs.Nodup
  mem : ∀ z ∈ fs, z ∈ ls
  pre : PreOk qs fs
theorem GA.nil {ls : List Str} {qs : List Pr} : GA ls qs [] := ⟨List.nodup_nil, (fun _ z => nomatch z), fun i z e => by simp at e⟩
theorem GA.line {ls : List Str} {qs : List Pr} {fs : List Str} (g : GA ls qs fs) (nd : ls.Nodup) (hl : ls.length ≤ fs.length) : LineP ls qs fs := ⟨(perm_sub g.nd g.mem hl).symm, g.pre⟩
/-- told is whether it is a line -/
def IsLn (ls : List Str) (qs : List Pr) (t : D) : Prop := ∃ line, t = .lst (strsD line) ∧ LineP ls qs line
theorem IsLn.same {ls : List Str} {ps qs : List Pr} {t : D} (h : ∀ z, z ∈ ps ↔ z ∈ qs) : IsLn ls ps t ↔ IsLn ls qs t := ⟨fun ⟨l, e, q⟩ => ⟨l, e, q.same h⟩, fun ⟨l, e, q⟩ => ⟨l, e, q.same fun z => (h z).symm⟩⟩
theorem Th.cases {t : D} (h : Th t) : (∃ ds, t = .lst ds ∧ ds.length ≤ 9 ∧ ∀ d ∈ ds, It d) ∨ ∃ ty, tyD t = some ty ∧ kitB ty "list" = some false ∧ ∀ ds, t ≠ .lst ds := by
  cases h with
  | lst h1 h2 => exact Or.inl ⟨_, rfl, h1, h2⟩
  | @nest ws h1 h2 => exact Or.inl ⟨_, rfl, (by show 1 ≤ 9; decide), fun d hd => by rw [List.mem_singleton.mp hd]; exact .lst h1 h2⟩
  | @oth d ty h1 h2 h3 =>
    refine Or.inr ⟨ty, h2, h3, fun ds e => ?_⟩
    subst e
    obtain rfl : "list" = ty := Option.some.inj h2
    exact absurd h3 (by decide +kernel)
theorem It.ty {d : D} (h : It d) : ∃ ty b, tyD d = some ty ∧ kitB ty "str" = some b ∧ (b = true ↔ ∃ z, d = .str z) := by
  cases h with
  | @str z h => exact ⟨_, true, rfl, by decide +kernel, fun _ => ⟨z, rfl⟩, fun _ => rfl⟩
  | non => exact ⟨_, false, rfl, by decide +kernel, (fun e => nomatch e), fun ⟨z, e⟩ => nomatch e⟩
  | int _ => exact ⟨_, false, rfl, by decide +kernel, (fun e => nomatch e), fun ⟨z, e⟩ => nomatch e⟩
  | bl => exact ⟨_, false, rfl, by decide +kernel, (fun e => nomatch e), fun ⟨z, e⟩ => nomatch e⟩
  | lst _ _ => exact ⟨_, false, rfl, by decide +kernel, (fun e => nomatch e), fun ⟨z, e⟩ => nomatch e⟩
  | tup _ _ => exact ⟨_, false, rfl, by decide +kernel, (fun e => nomatch e), fun ⟨z, e⟩ => nomatch e⟩
  | dic => exact ⟨_, false, rfl, by decide +kernel, (fun e => nomatch e), fun ⟨z, e⟩ => nomatch e⟩
end L3
namespace L3
open PySem PySem.Spec PyProof.Rows L2 TB LamX
theorem seq_at {n j : Nat} (h : j < n) : seqIndex? (j : Int) n = some j := by
  unfold seqIndex?
  have h1 : ¬ ((j : Int) < 0) := by omega
  simp only [if_neg h1]
  rw [if_pos (by simp; omega), Int.toNat_natCast]
end L3
namespace L3
open PySem PySem.Spec PyProof.Rows L2 TB LamX
section
variable {X : Sx} {K : PySem.W.Frag}
theorem w_chK {b : Bool} {F : Bool → Prop} (h : F b) : ∃ k, D.bl b = .bl k ∧ F k := ⟨b, rfl, h⟩
end
end L3
namespace L3
open PySem PySem.Spec PyProof.Rows L2 TB LamX
def tFzS (i : Nat) (t : TS) : TS := t
theorem toFzS {Y : Cx} {s : Stmt} {t : TS} (i : Nat) (h : PS Y s t) : PS Y s (tFzS i t) := h
end L3
namespace L3
open PySem PySem.Spec PyProof.Rows L2 TB LamX
def far : Int := 10 ^ 18
/-- plain things: None, truths, numbers, texts, lists, tuples, dicts -/
def Pl (d : D) : Prop := tyD d ≠ none
theorem Pl.ty {d : D} (h : Pl d) : ∃ t, tyD d = some t := by
  cases e : tyD d with
  | none => exact absurd e h
  | some t => exact ⟨t, rfl⟩
theorem i_tt {A B : Prop} (h : A) : if true = true then A else B := by rw [if_pos rfl]; exact h
theorem i_ff {A B : Prop} (h : B) : if false = true then A else B := by rw [if_neg (fun z => nomatch z)]; exact h
theorem i_nt {A B : Prop} (h : B) : if (!true) = true then A else B := by rw [if_neg (fun z => nomatch z)]; exact h
theorem i_nf {A B : Prop} (h : A) : if (!false) = true then A else B := by simpa using h
theorem w_neg {i : Int} {F : D → Prop} (h : F (.int (-i))) : oNeg (.int i) F := ⟨i, rfl, h⟩
theorem at0 {α : Type} {x : α} {r : List α} : atI (x :: r) 0 = some x := atI_nat (j := 0) rfl
theorem at1 {α : Type} {x y : α} {r : List α} : atI (x :: y :: r) 1 = some y := atI_nat (j := 1) rfl
theorem at2 {α : Type} {x y z : α} {r : List α} : atI (x :: y :: z :: r) 2 = some z := atI_nat (j := 2) rfl
inductive Dd where
  | set (n : Int) | add (n : Int) | take (l : Str) | read (c : Str) | write (c : Str) | skip (n m : Int) | quit
def Dd.w : Dd → Str
  | .set _ => "set"
  | .add _ => "add"
  | .take _ => "take"
  | .read _ => "read"
  | .write _ => "write"
  | .skip _ _ => "skip"
  | .quit => "quit"
def Dd.ps : Dd → List D
  | .set n => [.int n]
  | .add n => [.int n]
  | .take l => [.str l]
  | .read c => [.str c]
  | .write c => [.str c]
  | .skip n m => [.int n, .int m]
  | .quit => []
def ddD (d : Dd) : D := .tup (.str d.w :: d.ps)
def Dd.ok (locks names : List Str) : Dd → Prop
  | .set n => -far ≤ n ∧ n ≤ far
  | .add n => -far ≤ n ∧ n ≤ far
  | .take l => l ∈ locks
  | .read c => c ∈ names
  | .write c => c ∈ names
  | .skip n m => (-far ≤ n ∧ n ≤ far) ∧ 0 ≤ m ∧ m ≤ 12
  | .quit => True
end L3
namespace L3
open PySem PySem.Spec PyProof.Rows L2 TB LamX
theorem enum_at {α : Type} {enc : α → D} {xs : List α} {i : Nat} {d : D} (e : (xs.zipIdx.map fun p => D.tup [.int (p.2 : Nat), enc p.1])[i]? = some d) : ∃ x, xs[i]? = some x ∧ d = .tup [.int (i : Nat), enc x] := by
  rw [List.getElem?_map, List.getElem?_zipIdx] at e
  cases h : xs[i]? with
  | none => rw [h] at e; exact nomatch e
  | some x =>
    rw [h] at e
    obtain rfl := Option.some.inj e
    exact ⟨x, rfl, by rw [Nat.zero_add]⟩
theorem strs_snoc (tk : List Str) (z : Str) : strsD tk ++ [D.str z] = strsD (tk ++ [z]) := by
  show tk.map D.str ++ [z].map D.str = (tk ++ [z]).map D.str
  rw [List.map_append]
/-- a cell -/
structure Cl where
  name : Str
  lock : Str
  val : Int
def clD (c : Cl) : D := .tup [.str c.name, .str c.lock, .int c.val]
abbrev Tk := Str × List Dd
/-- how far a deed leaps -/
def Dd.leap : Dd → Int
  | .skip _ m => m
  | _ => -1
structure BodyOk (ls ns : List Str) (b : List Dd) : Prop where
  len : b.length ≤ 12
  ok : ∀ d ∈ b, d.ok ls ns
  leap : ∀ (i : Nat) (d : Dd), b[i]? = some d → d.leap < (b.length : Int) - i
structure PlanL where
  locks : List Str
  cells : List Cl
  tasks : List Tk
def PlanL.cellNames (p : PlanL) : List Str := p.cells.map (·.name)
def PlanL.names (p : PlanL) : List Str := p.tasks.map (·.1)
def PlanL.taken (p : PlanL) : List Str := p.locks ++ p.cellNames ++ p.names
structure PlanOk (p : PlanL) : Prop where
  l1 : 1 ≤ p.locks.length
  l7 : p.locks.length ≤ 7
  c8 : p.cells.length ≤ 8
  t6 : p.tasks.length ≤ 6
  nd : p.taken.Nodup
  nm : ∀ z ∈ p.taken, Nm z
  cl : ∀ c ∈ p.cells, c.lock ∈ p.locks ∧ -far ≤ c.val ∧ c.val ≤ far
  bd : ∀ t ∈ p.tasks, BodyOk p.locks p.cellNames t.2
end L3
namespace L3
open PySem PySem.Spec PyProof.Rows L2 TB LamX
end L3
namespace L3
open PySem PySem.Spec PyProof.Rows L2 TB LamX
mutual
/-- None, numbers, texts, lists and tuples of such -/
def cln : D → Bool
  | .non => true
  | .int _ => true
  | .str z => PyData.strOk z
  | .lst ds => clnL ds
  | .tup ds => clnL ds
  | _ => false
def clnL : List D → Bool
  | [] => true
  | d :: ds => cln d && clnL ds
end
mutual
def dpt : D → Nat
  | .lst ds => dptL ds + 1
  | .tup ds => dptL ds + 1
  | _ => 0
def dptL : List D → Nat
  | [] => 0
  | d :: ds => max (dpt d) (dptL ds)
end
mutual
theorem cln_pd : ∀ {d : D}, cln d = true → ∃ x, pd d = some x ∧ x.canLay0 = true ∧ x.depth = dpt d
  | .non, _ => ⟨_, rfl, by simp only [PyData.canLay0], by simp only [PyData.depth, dpt]⟩
  | .int i, _ => ⟨_, rfl, by simp only [PyData.canLay0], by simp only [PyData.depth, dpt]⟩
  | .str z, h => ⟨_, rfl, by simp only [PyData.canLay0]; exact h, by simp only [PyData.depth, dpt]⟩
  | .lst ds, h => by
    obtain ⟨xs, e, h1, h2⟩ := clnL_pd (ds := ds) h
    exact ⟨.list xs, by show (pdL ds).map _ = _; rw [e]; rfl, by simp only [PyData.canLay0]; exact h1, by simp only [PyData.depth, dpt]; rw [h2]⟩
  | .tup ds, h => by
    obtain ⟨xs, e, h1, h2⟩ := clnL_pd (ds := ds) h
    exact ⟨.tuple xs, by show (pdL ds).map _ = _; rw [e]; rfl, by simp only [PyData.canLay0]; exact h1, by simp only [PyData.depth, dpt]; rw [h2]⟩
theorem clnL_pd : ∀ {ds : List D}, clnL ds = true → ∃ xs, pdL ds = some xs ∧ PyData.canLayAll0 xs = true ∧ PyData.depthAll xs = dptL ds
  | [], _ => ⟨[], rfl, by simp only [PyData.canLayAll0], by simp only [PyData.depthAll, dptL]⟩
  | d :: ds, h => by
    obtain ⟨h1, h2⟩ := Bool.and_eq_true_iff.mp (show (cln d && clnL ds) = true from h)
    obtain ⟨x, e1, a1, a2⟩ := cln_pd (d := d) h1
    obtain ⟨xs, e2, b1, b2⟩ := clnL_pd (ds := ds) h2
    refine ⟨x :: xs, by show consO (pd d) (pdL ds) = _; rw [e1, e2]; rfl, ?_, ?_⟩
    · simp only [PyData.canLayAll0, a1, b1]; rfl
    · simp only [PyData.depthAll, dptL, a2, b2]
end
theorem cln_cases {e : D} (h : cln e = true) : e = .non ∨ (∃ i, e = .int i) ∨ (∃ z, e = .str z) ∨ (∃ ds, e = .lst ds ∧ clnL ds = true) ∨ ∃ ds, e = .tup ds ∧ clnL ds = true := by
  cases e with
  | non => exact Or.inl rfl
  | int i => exact Or.inr (Or.inl ⟨i, rfl⟩)
  | str z => exact Or.inr (Or.inr (Or.inl ⟨z, rfl⟩))
  | lst ds => exact Or.inr (Or.inr (Or.inr (Or.inl ⟨ds, rfl, h⟩)))
  | tup ds => exact Or.inr (Or.inr (Or.inr (Or.inr ⟨ds, rfl, h⟩)))
  | bl b => exact nomatch (show false = true from h)
  | ty b => exact nomatch (show false = true from h)
  | ins C ns ds => exact nomatch (show false = true from h)
  | dic C ns => exact nomatch (show false = true from h)
  | op b => exact nomatch (show false = true from h)
mutual
theorem eqv_cln : ∀ {d e : D} {x y : PyData}, cln d = true → cln e = true → pd d = some x → pd e = some y → (PyData.eqv x y = true ↔ d = e)
  | .non, e, x, y, c1, h, ex, ey => by
    obtain rfl := Option.some.inj ex
    rcases cln_cases h with rfl | ⟨j, rfl⟩ | ⟨j, rfl⟩ | ⟨es, rfl, h2⟩ | ⟨es, rfl, h2⟩
    · obtain rfl := Option.some.inj ey
      simp [PyData.eqv]
    · obtain rfl := Option.some.inj ey
      simp [PyData.eqv]
    · obtain rfl := Option.some.inj ey
      simp [PyData.eqv]
    · obtain ⟨ys, e2, rfl⟩ := Option.map_eq_some_iff.mp ey
      simp [PyData.eqv]
    · obtain ⟨ys, e2, rfl⟩ := Option.map_eq_some_iff.mp ey
      simp [PyData.eqv]
  | .int i, e, x, y, c1, h, ex, ey => by
    obtain rfl := Option.some.inj ex
    rcases cln_cases h with rfl | ⟨j, rfl⟩ | ⟨j, rfl⟩ | ⟨es, rfl, h2⟩ | ⟨es, rfl, h2⟩
    · obtain rfl := Option.some.inj ey
      simp [PyData.eqv]
    · obtain rfl := Option.some.inj ey
      simp [PyData.eqv]
    · obtain rfl := Option.some.inj ey
      simp [PyData.eqv]
    · obtain ⟨ys, e2, rfl⟩ := Option.map_eq_some_iff.mp ey
      simp [PyData.eqv]
    · obtain ⟨ys, e2, rfl⟩ := Option.map_eq_some_iff.mp ey
      simp [PyData.eqv]
  | .str i, e, x, y, c1, h, ex, ey => by
    obtain rfl := Option.some.inj ex
    rcases cln_cases h with rfl | ⟨j, rfl⟩ | ⟨j, rfl⟩ | ⟨es, rfl, h2⟩ | ⟨es, rfl, h2⟩
    · obtain rfl := Option.some.inj ey
      simp [PyData.eqv]
    · obtain rfl := Option.some.inj ey
      simp [PyData.eqv]
    · obtain rfl := Option.some.inj ey
      simp [PyData.eqv]
    · obtain ⟨ys, e2, rfl⟩ := Option.map_eq_some_iff.mp ey
      simp [PyData.eqv]
    · obtain ⟨ys, e2, rfl⟩ := Option.map_eq_some_iff.mp ey
      simp [PyData.eqv]
  | .lst ds, e, x, y, c1, h, ex, ey => by
    obtain ⟨xs, e1, rfl⟩ := Option.map_eq_some_iff.mp ex
    rcases cln_cases h with rfl | ⟨j, rfl⟩ | ⟨j, rfl⟩ | ⟨es, rfl, h2⟩ | ⟨es, rfl, h2⟩
    · obtain rfl := Option.some.inj ey
      simp [PyData.eqv]
    · obtain rfl := Option.some.inj ey
      simp [PyData.eqv]
    · obtain rfl := Option.some.inj ey
      simp [PyData.eqv]
    · obtain ⟨ys, e2, rfl⟩ := Option.map_eq_some_iff.mp ey
      simp only [PyData.eqv]
      exact (eqvL_cln (ds := ds) c1 h2 e1 e2).trans ⟨fun z => by rw [z], fun z => by injection z⟩
    · obtain ⟨ys, e2, rfl⟩ := Option.map_eq_some_iff.mp ey
      simp [PyData.eqv]
  | .tup ds, e, x, y, c1, h, ex, ey => by
    obtain ⟨xs, e1, rfl⟩ := Option.map_eq_some_iff.mp ex
    rcases cln_cases h with rfl | ⟨j, rfl⟩ | ⟨j, rfl⟩ | ⟨es, rfl, h2⟩ | ⟨es, rfl, h2⟩
    · obtain rfl := Option.some.inj ey
      simp [PyData.eqv]
    · obtain rfl := Option.some.inj ey
      simp [PyData.eqv]
    · obtain rfl := Option.some.inj ey
      simp [PyData.eqv]
    · obtain ⟨ys, e2, rfl⟩ := Option.map_eq_some_iff.mp ey
      simp [PyData.eqv]
    · obtain ⟨ys, e2, rfl⟩ := Option.map_eq_some_iff.mp ey
      simp only [PyData.eqv]
      exact (eqvL_cln (ds := ds) c1 h2 e1 e2).trans ⟨fun z => by rw [z], fun z => by injection z⟩
theorem eqvL_cln : ∀ {ds es : List D} {xs ys : List PyData}, clnL ds = true → clnL es = true → pdL ds = some xs → pdL es = some ys → (PyData.eqvAll xs ys = true ↔ ds = es)
  | [], [], xs, ys, _, _, ex, ey => by
    obtain rfl := Option.some.inj ex
    obtain rfl := Option.some.inj ey
    simp only [PyData.eqvAll]
  | [], e :: es, xs, ys, _, h2, ex, ey => by
    obtain rfl := Option.some.inj ex
    obtain ⟨zs, e2, _, _⟩ := clnL_pd (ds := e :: es) h2
    cases ys with
    | nil =>
      obtain ⟨h3, h4⟩ := Bool.and_eq_true_iff.mp (show (cln e && clnL es) = true from h2)
      obtain ⟨z, e3, _⟩ := cln_pd h3
      obtain ⟨zs, e4, _⟩ := clnL_pd h4
      have : consO (pd e) (pdL es) = some [] := ey
      rw [e3, e4] at this
      exact nomatch this
    | cons y ys => simp only [PyData.eqvAll]; simp
  | d :: ds, [], xs, ys, h1, _, ex, ey => by
    obtain rfl := Option.some.inj ey
    cases xs with
    | nil =>
      obtain ⟨h3, h4⟩ := Bool.and_eq_true_iff.mp (show (cln d && clnL ds) = true from h1)
      obtain ⟨z, e3, _⟩ := cln_pd h3
      obtain ⟨zs, e4, _⟩ := clnL_pd h4
      have : consO (pd d) (pdL ds) = some [] := ex
      rw [e3, e4] at this
      exact nomatch this
    | cons y ys => simp only [PyData.eqvAll]; simp
  | d :: ds, e :: es, xs, ys, h1, h2, ex, ey => by
    obtain ⟨a1, a2⟩ := Bool.and_eq_true_iff.mp (show (cln d && clnL ds) = true from h1)
    obtain ⟨b1, b2⟩ := Bool.and_eq_true_iff.mp (show (cln e && clnL es) = true from h2)
    obtain ⟨x, x1, _⟩ := cln_pd a1
    obtain ⟨xr, x2, _⟩ := clnL_pd a2
    obtain ⟨y, y1, _⟩ := cln_pd b1
    obtain ⟨yr, y2, _⟩ := clnL_pd b2
    have ex : consO (pd d) (pdL ds) = some xs := ex
    have ey : consO (pd e) (pdL es) = some ys := ey
    rw [x1, x2] at ex
    rw [y1, y2] at ey
    obtain rfl := Option.some.inj ex
    obtain rfl := Option.some.inj ey
    simp only [PyData.eqvAll, Bool.and_eq_true]
    rw [eqv_cln a1 b1 x1 y1, eqvL_cln a2 b2 x2 y2]
    exact ⟨fun ⟨h, k⟩ => by rw [h, k], fun h => by injection h with h k; exact ⟨h, k⟩⟩
end
theorem clnL_iff {ds : List D} : clnL ds = true ↔ ∀ d ∈ ds, cln d = true := by
  induction ds with
  | nil => simp [clnL]
  | cons d r ih => simp [clnL, ih]
theorem dptL_le {n : Nat} {ds : List D} (h : ∀ d ∈ ds, dpt d ≤ n) : dptL ds ≤ n := by
  induction ds with
  | nil => exact Nat.zero_le _
  | cons d r ih =>
    have h1 := h d List.mem_cons_self
    have h2 := ih fun e he => h e (List.mem_cons_of_mem _ he)
    show max _ _ ≤ n
    omega
/-- it can be shown: n deep, B signs at the most -/
def Shw (n B : Nat) (d : D) : Prop := ∃ x, pdX d = some x ∧ x.showable = true ∧ x.depth ≤ n ∧ x.shown.length ≤ B
theorem Shw.mono {n m B C : Nat} {d : D} (h : Shw n B d) (h1 : n ≤ m) (h2 : B ≤ C) : Shw m C d := by
  obtain ⟨x, e, a, b, c⟩ := h
  exact ⟨x, e, a, by omega, by omega⟩
theorem Shw.non : Shw 0 4 .non := ⟨_, rfl, by simp only [PyData.showable], by simp [PyData.depth], by decide +kernel⟩
theorem Shw.bl {b : Bool} : Shw 0 5 (.bl b) := ⟨_, rfl, by simp only [PyData.showable], by simp [PyData.depth], by cases b <;> decide +kernel⟩
theorem Shw.str {z : Str} (h : ∀ c ∈ z.cps.toList, c < 1114112) {n : Nat} (hn : z.length ≤ n) : Shw 0 (10 * n + 2) (.str z) := by
  refine ⟨_, rfl, by simp only [PyData.showable], by simp [PyData.depth], ?_⟩
  simp only [PyData.shown]
  have e := StrLaws.reprText_len z fun c hc => Nat.lt_of_lt_of_le (h c hc) (by decide)
  omega
theorem Shw.nm {z : Str} (h : Nm z) : Shw 0 82 (.str z) := by
  have lt : (tl z).length = z.length := by rw [show tl z = z.cps.toList from rfl, Array.length_toList]; rfl
  exact (Shw.str (n := 8) (fun c hc => by have := (h.2.2 c hc).2; omega) (by have := h.2.1; omega))
theorem Shw.int {i : Int} {k : Nat} (hk : 1 ≤ k) (k5 : k ≤ 500) (h : i.natAbs < 10 ^ k) : Shw 0 (k + 1) (.int i) := by
  refine ⟨_, rfl, ?_, by simp [PyData.depth], ?_⟩
  · simp only [PyData.showable, decide_eq_true_eq]
    have h2 : i.natAbs < 2 ^ 1920 := Nat.lt_of_lt_of_le h (Nat.le_trans (Nat.pow_le_pow_right (by decide) k5) (by decide +kernel))
    by_cases z : i.natAbs = 0
    · rw [z]; decide
    · exact (Nat.log2_lt z).mpr h2
  · have e := PySem.int_text_length_le10 (k := k) hk h
    show (Str.ofString (toString i)).length ≤ k + 1
    rw [PySem.ofString_length]; exact e
theorem shw_all {n B : Nat} : ∀ {ds : List D}, (∀ d ∈ ds, Shw n B d) → ∃ xs, pdXL ds = some xs ∧ xs.length = ds.length ∧ ∀ x ∈ xs, x.showable = true ∧ x.depth ≤ n ∧ x.shown.length ≤ B
  | [], _ => ⟨[], rfl, rfl, fun _ z => nomatch z⟩
  | d :: ds, h => by
    obtain ⟨x, e, a, b, c⟩ := h d List.mem_cons_self
    obtain ⟨xs, e2, l, k⟩ := shw_all fun e he => h e (List.mem_cons_of_mem _ he)
    refine ⟨x :: xs, by show consO (pdX d) (pdXL ds) = _; rw [e, e2]; rfl, by rw [List.length_cons, List.length_cons, l], fun y hy => ?_⟩
    rcases List.mem_cons.mp hy with rfl | hy
    · exact ⟨a, b, c⟩
    · exact k y hy
theorem depthAll_le {n : Nat} : ∀ {xs : List PyData}, (∀ x ∈ xs, x.depth ≤ n) → PyData.depthAll xs ≤ n
  | [], _ => by simp only [PyData.depthAll]; exact Nat.zero_le _
  | x :: xs, h => by
    simp only [PyData.depthAll]
    have h1 := h x List.mem_cons_self
    have h2 := depthAll_le fun y hy => h y (List.mem_cons_of_mem x hy)
    omega
theorem Shw.lst {n B m : Nat} {ds : List D} (hm : ds.length ≤ m) (h : ∀ d ∈ ds, Shw n B d) : Shw (n + 1) (m * B + 2 * m + 3) (.lst ds) := by
  obtain ⟨xs, e, l, k⟩ := shw_all h
  refine ⟨.list xs, by show (pdXL ds).map _ = _; rw [e]; rfl, ?_, ?_, ?_⟩
  · simp only [PyData.showable]
    exact showAll_of fun x hx => (k x hx).1
  · simp only [PyData.depth]
    have h3 : PyData.depthAll xs ≤ n := depthAll_le fun x hx => (k x hx).2.1
    omega
  · have h4 := shown_listG_le (B := B) (ds := xs) fun x hx => (k x hx).2.2
    have h5 : xs.length * B ≤ m * B := Nat.mul_le_mul_right _ (by omega)
    omega
theorem Shw.tup {n B m : Nat} {ds : List D} (hm : ds.length ≤ m) (h : ∀ d ∈ ds, Shw n B d) : Shw (n + 1) (m * B + 2 * m + 3) (.tup ds) := by
  obtain ⟨xs, e, l, k⟩ := shw_all h
  refine ⟨.tuple xs, by show (pdXL ds).map _ = _; rw [e]; rfl, ?_, ?_, ?_⟩
  · simp only [PyData.showable]
    exact showAll_of fun x hx => (k x hx).1
  · simp only [PyData.depth]
    have h3 : PyData.depthAll xs ≤ n := depthAll_le fun x hx => (k x hx).2.1
    omega
  · have h4 := shown_tupG_le (B := B) (ds := xs) fun x hx => (k x hx).2.2
    have h5 : xs.length * B ≤ m * B := Nat.mul_le_mul_right _ (by omega)
    omega
/-- the text that it is shown by -/
def shoD (d : D) : Str := match pdX d with
  | some x => x.shown
  | none => Str.empty
theorem w_reprS {n B : Nat} {d : D} {F : D → Prop} (s : Shw n B d) (hn : n ≤ 50) (hB : B ≤ 16000000) (h : F (.str (shoD d))) : oReprX [d] F := by
  obtain ⟨x, e, a, b, c⟩ := s
  have e2 : shoD d = x.shown := by unfold shoD; rw [e]
  rw [e2] at h
  exact w_reprX e a (by omega) (by rw [sizeLine_eq]; omega) h
end L3
namespace L3
open PySem PySem.Spec PyProof.Rows L2 TB LamX
theorem at_map {α : Type} (enc : α → D) {xs : List α} {k : Int} (h0 : 0 ≤ k) (h1 : k < (xs.length : Int)) : ∃ (j : Nat) (hj : j < xs.length), k = (j : Int) ∧ atI (xs.map enc) k = some (enc xs[j]) := by
  obtain ⟨j, hj, rfl, _⟩ := at_some' (xs := xs) h0 h1
  exact ⟨j, hj, rfl, atI_nat (by rw [List.getElem?_map, List.getElem?_eq_getElem hj]; rfl)⟩
theorem strOk_nm {z : Str} (h : Nm z) : PyData.strOk z = true := (Nm.sg h).ok
theorem cln_map {α : Type} {enc : α → D} {xs : List α} (h : ∀ x ∈ xs, cln (enc x) = true) : cln (.lst (xs.map enc)) = true := clnL_iff.mpr fun d hd => by
  obtain ⟨x, hx, rfl⟩ := List.mem_map.mp hd
  exact h x hx
end L3
namespace L4
open PySem PySem.Spec PyProof.Rows L2 TB LamX L3
/-- frozen data, a mutable object, a tuple that has such -/
inductive Vl where
  | d (d : D) | loc (a : Addr) | tup (vs : List Vl)
inductive MO where
  | lst (vs : List Vl) | dic (kvs : List (Key × Vl)) | dicT (kvs : List (List Key × Vl)) | ins (C dx : Addr) (fs : List (Str × Vl))
abbrev Mu := Addr → Option MO
def updM (μ : Mu) (a : Addr) (m : MO) : Mu := fun b => if b = a then some m else μ b
def delM (μ : Mu) (a : Addr) : Mu := fun b => if b = a then none else μ b
theorem updM_same {μ : Mu} {a : Addr} {m : MO} : updM μ a m a = some m := by unfold updM; rw [if_pos rfl]
theorem updM_ne {μ : Mu} {a b : Addr} {m : MO} (h : b ≠ a) : updM μ a m b = μ b := by unfold updM; rw [if_neg h]
theorem delM_same {μ : Mu} {a : Addr} : delM μ a a = none := by unfold delM; rw [if_pos rfl]
theorem delM_ne {μ : Mu} {a b : Addr} (h : b ≠ a) : delM μ a b = μ b := by unfold delM; rw [if_neg h]
section
variable (K : PySem.W.Frag) (F : Hp)
mutual
def RV : Vl → V → Prop
  | .d d, v => Rp K F d v
  | .loc a, v => v = .ref a
  | .tup xs, v => ∃ a vs, v = .ref a ∧ SqT K F a vs ∧ RVs xs vs
def RVs : List Vl → List V → Prop
  | [], vs => vs = []
  | x :: xs, vs => ∃ v r, vs = v :: r ∧ RV x v ∧ RVs xs r
end
def RK {κ : Type} : List (κ × Vl) → List (κ × V) → Prop
  | [], vs => vs = []
  | x :: xs, vs => ∃ v r, vs = (x.1, v) :: r ∧ RV K F x.2 v ∧ RK xs r
end
def MOk (K : PySem.W.Frag) (F H : Hp) (a : Addr) : MO → Prop
  | .lst vs => ∃ ws, H a = some (.lst ws) ∧ RVs K F vs ws
  | .dic kvs => ∃ ws, H a = some (.dK ws) ∧ RK K F kvs ws
  | .dicT kvs => ∃ ws, H a = some (.dT ws) ∧ RK K F kvs ws
  | .ins C dx fs => ∃ gs, H a = some (.ins C dx gs) ∧ H dx = some (.own a) ∧ RK K F fs gs
section
variable {K : PySem.W.Frag} {F F' H H' : Hp}
mutual
theorem RV.mono (s : Same F F') : ∀ {x : Vl} {v : V}, RV K F x v → RV K F' x v
  | .d _, _, h => Rp.mono s h
  | .loc _, _, h => h
  | .tup xs, _, h => by
    obtain ⟨a, vs, e, q, r⟩ := h
    exact ⟨a, vs, e, sqT_mono s q, RVs.mono s r⟩
theorem RVs.mono (s : Same F F') : ∀ {xs : List Vl} {vs : List V}, RVs K F xs vs → RVs K F' xs vs
  | [], _, h => h
  | x :: xs, _, h => by
    obtain ⟨v, r, e, q, t⟩ := h
    exact ⟨v, r, e, RV.mono s q, RVs.mono s t⟩
end
theorem RK.mono {κ : Type} (s : Same F F') : ∀ {xs : List (κ × Vl)} {vs : List (κ × V)}, RK K F xs vs → RK K F' xs vs
  | [], _, h => h
  | x :: xs, _, h => by
    obtain ⟨v, r, e, q, t⟩ := h
    exact ⟨v, r, e, q.mono s, RK.mono s t⟩
theorem RVs.len : ∀ {xs : List Vl} {vs : List V}, RVs K F xs vs → vs.length = xs.length
  | [], vs, h => by rw [show vs = [] from h]; rfl
  | x :: xs, vs, h => by
    obtain ⟨v, r, rfl, q, t⟩ := h
    rw [List.length_cons, List.length_cons, RVs.len t]
theorem RVs.app : ∀ {xs ys : List Vl} {vs ws : List V}, RVs K F xs vs → RVs K F ys ws → RVs K F (xs ++ ys) (vs ++ ws)
  | [], ys, vs, ws, h, k => by rw [show vs = [] from h]; exact k
  | x :: xs, ys, vs, ws, h, k => by
    obtain ⟨v, r, rfl, q, t⟩ := h
    exact ⟨v, r ++ ws, rfl, q, RVs.app t k⟩
theorem RVs.one {x : Vl} {v : V} (h : RV K F x v) : RVs K F [x] [v] := ⟨v, [], rfl, h, rfl⟩
theorem RVs.get' : ∀ {xs : List Vl} {vs : List V} {i : Nat} {x : Vl}, RVs K F xs vs → xs[i]? = some x → ∃ v, vs[i]? = some v ∧ RV K F x v
  | [], vs, i, x, h, e => by simp at e
  | y :: xs, vs, 0, x, h, e => by
    obtain ⟨v, r, rfl, q, t⟩ := h
    obtain rfl : y = x := by simpa using e
    exact ⟨v, rfl, q⟩
  | y :: xs, vs, i + 1, x, h, e => by
    obtain ⟨v, r, rfl, q, t⟩ := h
    exact RVs.get' (i := i) t (by simpa using e)
theorem RVs.set : ∀ {xs : List Vl} {vs : List V} {x : Vl} {v : V} (n : Nat), RVs K F xs vs → RV K F x v → RVs K F (xs.set n x) (vs.set n v)
  | [], vs, x, v, n, h, k => by rw [show vs = [] from h]; rfl
  | y :: xs, vs, x, v, 0, h, k => by
    obtain ⟨w, r, rfl, q, t⟩ := h
    exact ⟨v, r, rfl, k, t⟩
  | y :: xs, vs, x, v, n + 1, h, k => by
    obtain ⟨w, r, rfl, q, t⟩ := h
    exact ⟨w, r.set n v, rfl, q, RVs.set n t k⟩
theorem RVs.erase : ∀ {xs : List Vl} {vs : List V} (n : Nat), RVs K F xs vs → RVs K F (xs.eraseIdx n) (vs.eraseIdx n)
  | [], vs, n, h => by rw [show vs = [] from h]; rfl
  | y :: xs, vs, 0, h => by
    obtain ⟨w, r, rfl, q, t⟩ := h
    exact t
  | y :: xs, vs, n + 1, h => by
    obtain ⟨w, r, rfl, q, t⟩ := h
    exact ⟨w, r.eraseIdx n, rfl, q, RVs.erase n t⟩
theorem RVs.take : ∀ {xs : List Vl} {vs : List V} (n : Nat), RVs K F xs vs → RVs K F (xs.take n) (vs.take n)
  | _, _, 0, _ => rfl
  | [], vs, n + 1, h => by rw [show vs = [] from h]; rfl
  | y :: xs, vs, n + 1, h => by
    obtain ⟨w, r, rfl, q, t⟩ := h
    exact ⟨w, r.take n, rfl, q, RVs.take n t⟩
theorem RVs.drop : ∀ {xs : List Vl} {vs : List V} (n : Nat), RVs K F xs vs → RVs K F (xs.drop n) (vs.drop n)
  | _, _, 0, h => h
  | [], vs, n + 1, h => by rw [show vs = [] from h]; rfl
  | y :: xs, vs, n + 1, h => by
    obtain ⟨w, r, rfl, q, t⟩ := h
    exact RVs.drop n t
theorem RVs.data : ∀ {ds : List D} {vs : List V}, RVs K F (ds.map Vl.d) vs → RpL K F ds vs
  | [], vs, h => h
  | d :: ds, vs, h => by
    obtain ⟨v, r, e, q, t⟩ := h
    exact ⟨v, r, e, q, RVs.data t⟩
theorem RVs.ofData : ∀ {ds : List D} {vs : List V}, RpL K F ds vs → RVs K F (ds.map Vl.d) vs
  | [], vs, h => h
  | d :: ds, vs, h => by
    obtain ⟨v, r, e, q, t⟩ := h
    exact ⟨v, r, e, q, RVs.ofData t⟩
/-- what stands at a: a list, a dict, an instance -/
def MutO : HO → Prop
  | .lst _ => True
  | .dK _ => True
  | .dT _ => True
  | .ins _ _ _ => True
  | _ => False
theorem MOk.at {a : Addr} {m : MO} (h : MOk K F H a m) : ∃ o, H a = some o ∧ MutO o := by
  cases m with
  | lst vs => obtain ⟨ws, e, _⟩ := h; exact ⟨_, e, trivial⟩
  | dic vs => obtain ⟨ws, e, _⟩ := h; exact ⟨_, e, trivial⟩
  | dicT vs => obtain ⟨ws, e, _⟩ := h; exact ⟨_, e, trivial⟩
  | ins C dx fs => obtain ⟨ws, e, _⟩ := h; exact ⟨_, e, trivial⟩
/-- what is kept of the heap -/
theorem MOk.keep {a : Addr} {m : MO} (h : MOk K F H a m) (s : Same F F') (k : ∀ b o, H b = some o → (b = a ∨ o = .own a) → H' b = some o) : MOk K F' H' a m := by
  cases m with
  | lst vs => obtain ⟨ws, e, r⟩ := h; exact ⟨ws, k _ _ e (Or.inl rfl), RVs.mono s r⟩
  | dic vs => obtain ⟨ws, e, r⟩ := h; exact ⟨ws, k _ _ e (Or.inl rfl), RK.mono s r⟩
  | dicT vs => obtain ⟨ws, e, r⟩ := h; exact ⟨ws, k _ _ e (Or.inl rfl), RK.mono s r⟩
  | ins C dx fs => obtain ⟨ws, e, e2, r⟩ := h; exact ⟨ws, k _ _ e (Or.inl rfl), k _ _ e2 (Or.inr rfl), RK.mono s r⟩
end
abbrev PS := List (Option Vl)
structure C4 where
  X : Sx
  F0 : Hp
  H0 : Hp
  M0 : Mu
abbrev C4.K (c : C4) : PySem.W.Frag := c.X.K
def NoTb4 (X : Sx) (b : Addr) : Prop := ∀ x ∈ X.tb, b ≠ x.1
structure R4 (c : C4) (F H : Hp) (μ : Mu) (σ : L2.St) (ρ : PS) : Prop where
  len : σ.length = ρ.length
  sub : Same F H
  slot : ∀ (i : Nat) (x : Vl), ρ[i]? = some (some x) → ∃ v, σ[i]? = some (some v) ∧ RV c.K F x v
  mu : ∀ a m, μ a = some m → F a = none ∧ MOk c.K F H a m
  mf : ∀ a m, μ a = some m → c.M0 a ≠ none ∨ c.H0 a = none
  nt : NoT H
  tab : ∀ x ∈ c.X.tb, TabS H x.1 x.2
  tabF : ∀ x ∈ c.X.tb, F x.1 = none
  fr : Same c.F0 F
  kp : ∀ b o, c.H0 b = some o → c.M0 b = none → NoTb4 c.X b → H b = some o
  dom : ∀ b, H b = none → c.H0 b = none
  nw : ∀ b o, F b = some o → c.F0 b = some o ∨ c.H0 b = none ∨ c.M0 b ≠ none ∨ Imm o
section
variable {c : C4} {F H F' H' : Hp} {μ μ' : Mu} {σ : L2.St} {ρ : PS}
theorem R4.fnone (R : R4 c F H μ σ ρ) {p : Addr} (h : H p = none) : F p = none := by
  cases e : F p with
  | none => rfl
  | some o => rw [R.sub _ _ e] at h; exact nomatch h
theorem R4.mnone (R : R4 c F H μ σ ρ) {p : Addr} (h : H p = none) : μ p = none := by
  cases e : μ p with
  | none => rfl
  | some m =>
    obtain ⟨o, e2, _⟩ := (R.mu p m e).2.at
    rw [h] at e2
    exact nomatch e2
theorem R4.notab (R : R4 c F H μ σ ρ) {p : Addr} {o : HO} (h : H p = some o) (n : ∀ ps, o ≠ .tbl ps) : NoTb4 c.X p := by
  intro x hx e
  obtain ⟨tb, e2, _⟩ := R.tab x hx
  rw [← e, h] at e2
  exact n _ (Option.some.inj e2)
theorem R4.mtab (R : R4 c F H μ σ ρ) {p : Addr} {m : MO} (h : μ p = some m) : NoTb4 c.X p := by
  obtain ⟨o, e, mo⟩ := (R.mu p m h).2.at
  exact R.notab e (fun ps z => by rw [z] at mo; exact mo)
/-- told from this moment on -/
def C4.at (c : C4) (F H : Hp) (μ : Mu) : C4 := ⟨c.X, F, H, μ⟩
theorem R4.here (R : R4 c F H μ σ ρ) : R4 (c.at F H μ) F H μ σ ρ :=
  ⟨R.len, R.sub, R.slot, R.mu, fun a m e => Or.inl (by rw [show (c.at F H μ).M0 = μ from rfl, e]; exact (fun z => nomatch z)), R.nt, R.tab, R.tabF, L3.Same.refl F, fun b o e _ _ => e, fun b e => e, fun b o e => Or.inl e⟩
theorem R4.trans {σ' : L2.St} {ρ' : PS} (R : R4 c F H μ σ ρ) (R' : R4 (c.at F H μ) F' H' μ' σ' ρ') : R4 c F' H' μ' σ' ρ' := by
  refine ⟨R'.len, R'.sub, R'.slot, R'.mu, fun a m e => ?_, R'.nt, R'.tab, R'.tabF, tr R.fr R'.fr, fun b o e n t => ?_, fun b e => R.dom b (R'.dom b e), fun b o e => ?_⟩
  · rcases R'.mf a m e with z | z
    · cases q : μ a with
      | none => exact absurd q z
      | some m2 => exact R.mf a m2 q
    · exact Or.inr (R.dom a z)
  · refine R'.kp b o (R.kp b o e n t) ?_ t
    cases q : μ b with
    | none => exact q
    | some m2 =>
      rcases R.mf b m2 q with z | z
      · exact absurd n z
      · rw [z] at e; exact nomatch e
  · rcases R'.nw b o e with z | z | z | z
    · exact R.nw b o z
    · exact Or.inr (Or.inl (R.dom b z))
    · cases q : μ b with
      | none => exact absurd q z
      | some m2 =>
        rcases R.mf b m2 q with y | y
        · exact Or.inr (Or.inr (Or.inl y))
        · exact Or.inr (Or.inl y)
    · exact Or.inr (Or.inr (Or.inr z))
/-- slots as they were -/
theorem R4.slots (R : R4 c F H μ σ ρ) {σ2 : L2.St} {ρ2 : PS} (R' : R4 (c.at F H μ) F' H' μ' σ2 ρ2) : R4 c F' H' μ' σ ρ := by
  have R2 := R.trans R'
  exact ⟨R.len, R2.sub, fun i x e => by
    obtain ⟨v, e1, r⟩ := R.slot i x e
    exact ⟨v, e1, r.mono R'.fr⟩, R2.mu, R2.mf, R2.nt, R2.tab, R2.tabF, R2.fr, R2.kp, R2.dom, R2.nw⟩
/-- a new thing that stays -/
theorem R4.alloc (R : R4 c F H μ σ ρ) {p : Addr} {o : HO} (np : H p = none) (no : noT o) : R4 c (upd F p o) (upd H p o) μ σ ρ := by
  have nF := R.fnone np
  have nM := R.mnone np
  have sF : Same F (upd F p o) := fun _ _ e => old_upd nF e
  have sH : Same H (upd H p o) := fun _ _ e => old_upd np e
  refine ⟨R.len, fun b u e => ?_, fun i x e => ?_, fun a m e => ?_, R.mf, R.nt.upd no, fun x hx => (R.tab x hx).ext sH, fun x hx => ?_, tr R.fr sF, fun b u e n m => sH _ _ (R.kp b u e n m), fun b e => R.dom b (nil_upd e).2, fun b u e => ?_⟩
  · by_cases q : b = p
    · subst q
      rw [upd_same] at e ⊢
      exact e
    · rw [upd_ne q] at e ⊢
      exact R.sub _ _ e
  · obtain ⟨v, e1, r⟩ := R.slot i x e
    exact ⟨v, e1, r.mono sF⟩
  · obtain ⟨f, mo⟩ := R.mu a m e
    have ne : a ≠ p := fun z => by rw [z, nM] at e; exact nomatch e
    exact ⟨by rw [upd_ne ne]; exact f, mo.keep sF fun b o e _ => sH _ _ e⟩
  · obtain ⟨tb, e2, _⟩ := R.tab x hx
    rw [upd_ne (ne_of_none e2 np)]
    exact R.tabF x hx
  · by_cases q : b = p
    · subst q
      exact Or.inr (Or.inl (R.dom _ np))
    · rw [upd_ne q] at e
      exact R.nw b u e
/-- a new thing of which nothing is told -/
theorem R4.allocH (R : R4 c F H μ σ ρ) {p : Addr} {o : HO} (np : H p = none) (no : noT o) : R4 c F (upd H p o) μ σ ρ := by
  have sH : Same H (upd H p o) := fun _ _ e => old_upd np e
  exact ⟨R.len, fun b u e => sH _ _ (R.sub _ _ e), R.slot, fun a m e => ⟨(R.mu a m e).1, (R.mu a m e).2.keep (L3.Same.refl F) fun b o e _ => sH _ _ e⟩, R.mf, R.nt.upd no, fun x hx => (R.tab x hx).ext sH, R.tabF, R.fr, fun b u e n m => sH _ _ (R.kp b u e n m), fun b e => R.dom b (nil_upd e).2, R.nw⟩
/-- what is new may be changed -/
theorem R4.own (R : R4 c F H μ σ ρ) {p : Addr} {m : MO} (hF : F p = none) (hm : MOk c.K F H p m) (hb : c.M0 p ≠ none ∨ c.H0 p = none) : R4 c F H (updM μ p m) σ ρ := by
  refine ⟨R.len, R.sub, R.slot, fun a m2 e => ?_, fun a m2 e => ?_, R.nt, R.tab, R.tabF, R.fr, R.kp, R.dom, R.nw⟩
  · by_cases q : a = p
    · subst q
      rw [updM_same] at e
      obtain rfl := Option.some.inj e
      exact ⟨hF, hm⟩
    · rw [updM_ne q] at e
      exact R.mu a m2 e
  · by_cases q : a = p
    · rw [q]; exact hb
    · rw [updM_ne q] at e
      exact R.mf a m2 e
/-- a mutable thing is changed -/
theorem R4.mut (R : R4 c F H μ σ ρ) {p : Addr} {m m' : MO} {o' : HO} (h : μ p = some m) (no : noT o') (hm : MOk c.K F (upd H p o') p m') : R4 c F (upd H p o') (updM μ p m') σ ρ := by
  obtain ⟨hF, mo⟩ := R.mu p m h
  obtain ⟨o, eo, mto⟩ := mo.at
  have nF : ∀ b u, F b = some u → b ≠ p := fun b u e z => by rw [z, hF] at e; exact nomatch e
  have ntb : NoTb4 c.X p := R.mtab h
  have k : ∀ b u, H b = some u → b ≠ p → upd H p o' b = some u := fun b u e n => oth_upd n e
  refine ⟨R.len, fun b u e => k b u (R.sub _ _ e) (nF b u e), R.slot, fun a m2 e => ?_, fun a m2 e => ?_, R.nt.upd no, fun x hx => ?_, R.tabF, R.fr, fun b u e n t => ?_, fun b e => R.dom b (nil_upd e).2, R.nw⟩
  · by_cases q : a = p
    · subst q
      rw [updM_same] at e
      obtain rfl := Option.some.inj e
      exact ⟨hF, hm⟩
    · rw [updM_ne q] at e
      obtain ⟨f, mo2⟩ := R.mu a m2 e
      refine ⟨f, mo2.keep (L3.Same.refl F) fun b u e2 hb => k b u e2 fun z => ?_⟩
      rcases hb with hb | hb
      · exact q (hb.symm.trans z)
      · rw [z, eo] at e2
        obtain rfl := Option.some.inj e2
        rw [hb] at mto
        exact mto
  · by_cases q : a = p
    · rw [q]; exact R.mf p m h
    · rw [updM_ne q] at e
      exact R.mf a m2 e
  · obtain ⟨tb, e2, r⟩ := R.tab x hx
    refine ⟨tb, oth_upd (fun z => ntb x hx z.symm) e2, r.1, fun pos cv hc => ?_⟩
    obtain ⟨q, e3, e4⟩ := r.2 pos cv hc
    refine ⟨q, e3, oth_upd (fun z => ?_) e4⟩
    rw [z, eo] at e4
    rw [Option.some.inj e4] at mto
    exact mto
  · refine k b u (R.kp b u e n t) fun z => ?_
    rw [z] at e n
    rcases R.mf p m h with y | y
    · exact y n
    · rw [y] at e; exact nomatch e
/-- a mutable list of data stays as it is from now on -/
theorem R4.freezeL (R : R4 c F H μ σ ρ) {p : Addr} {ds : List D} (h : μ p = some (.lst (ds.map Vl.d))) : ∃ ws, R4 c (upd F p (.lst ws)) H (delM μ p) σ ρ ∧ Same F (upd F p (.lst ws)) ∧ Rp c.K (upd F p (.lst ws)) (.lst ds) (.ref p) := by
  obtain ⟨hF, ws, e, r⟩ := R.mu p _ h
  have sF : Same F (upd F p (.lst ws)) := fun _ _ e => old_upd hF e
  refine ⟨ws, ⟨R.len, fun b u e2 => ?_, fun i x e2 => ?_, fun a m e2 => ?_, fun a m e2 => ?_, R.nt, R.tab, fun x hx => ?_, tr R.fr sF, R.kp, R.dom, fun b u e2 => ?_⟩, sF, p, ws, rfl, upd_same, (RVs.data r).mono sF⟩
  · by_cases q : b = p
    · subst q
      rw [upd_same] at e2
      rw [e]; exact e2
    · rw [upd_ne q] at e2
      exact R.sub _ _ e2
  · obtain ⟨v, e1, r⟩ := R.slot i x e2
    exact ⟨v, e1, r.mono sF⟩
  · by_cases q : a = p
    · rw [q, delM_same] at e2; exact nomatch e2
    · rw [delM_ne q] at e2
      obtain ⟨f, mo⟩ := R.mu a m e2
      exact ⟨by rw [upd_ne q]; exact f, mo.keep sF fun _ _ z _ => z⟩
  · by_cases q : a = p
    · rw [q, delM_same] at e2; exact nomatch e2
    · rw [delM_ne q] at e2
      exact R.mf a m e2
  · rw [upd_ne (fun z => R.mtab h x hx z.symm)]
    exact R.tabF x hx
  · by_cases q : b = p
    · subst q
      rcases R.mf b _ h with y | y
      · exact Or.inr (Or.inr (Or.inl y))
      · exact Or.inr (Or.inl y)
    · rw [upd_ne q] at e2
      exact R.nw b u e2
theorem R4.setV (R : R4 c F H μ σ ρ) {i : Nat} {x : Vl} {v : V} (h : RV c.K F x v) : R4 c F H μ (σ.set i (some v)) (ρ.set i (some x)) := by
  refine ⟨by rw [List.length_set, List.length_set]; exact R.len, R.sub, fun j y hj => ?_, R.mu, R.mf, R.nt, R.tab, R.tabF, R.fr, R.kp, R.dom, R.nw⟩
  by_cases q : i = j
  · subst q
    have hl := (List.getElem?_eq_some_iff.mp hj).1
    rw [List.length_set] at hl
    rw [List.getElem?_set_self hl] at hj
    obtain rfl := Option.some.inj (Option.some.inj hj)
    exact ⟨v, by rw [List.getElem?_set_self (by rw [R.len]; exact hl)], h⟩
  · rw [List.getElem?_set_ne q] at hj ⊢
    exact R.slot j y hj
def vw : Option Vl → PV
  | some (.d d) => .val d
  | _ => .un
def view (ρ : PS) : PSt := ρ.map vw
theorem vw_val {o : Option Vl} {pv : PV} (h : vw o = pv) : pv = .un ∨ ∃ d, o = some (.d d) ∧ pv = .val d := by
  match o, h with
  | some (.d d), h => exact Or.inr ⟨d, rfl, h.symm⟩
  | some (.loc _), h => exact Or.inl h.symm
  | some (.tup _), h => exact Or.inl h.symm
  | none, h => exact Or.inl h.symm
/-- the L3 place of this moment -/
def C4.c3 (c : C4) (F H : Hp) : Ct := ⟨c.X, fun p => H p = none, [], F, H, []⟩
theorem R4.rel (R : R4 c F H μ σ ρ) : Rel (c.c3 F H) F H σ (view ρ) := by
  have noOwn : ∀ {i : Nat} {f : Bool} {o : List D}, (view ρ)[i]? = some (.own f o) → False := by
    intro i f o h
    unfold view at h
    rw [List.getElem?_map] at h
    obtain ⟨x, _, e⟩ := Option.map_eq_some_iff.mp h
    rcases vw_val e with z | ⟨d, _, z⟩
    · exact nomatch z
    · exact nomatch z
  refine ⟨by rw [R.len, view, List.length_map], R.sub, fun i pv h => ?_, fun i j f1 o1 f2 o2 p h => (noOwn h).elim, R.nt, R.tab, R.tabF, L3.Same.refl F, fun b o e _ _ => e, fun b e => e, fun b o e => Or.inl e, fun p e => e⟩
  unfold view at h
  rw [List.getElem?_map] at h
  obtain ⟨x, e1, e⟩ := Option.map_eq_some_iff.mp h
  rcases vw_val e with rfl | ⟨d, rfl, rfl⟩
  · exact trivial
  · obtain ⟨v, e2, r⟩ := R.slot i _ e1
    exact ⟨v, e2, r⟩
/-- back from L3 -/
theorem R4.back (R : R4 c F H μ σ ρ) {σ' : L2.St} {ρ' : PSt} (r : Rel (c.c3 F H) F' H' σ' ρ') : R4 c F' H' μ σ ρ := by
  have kp : ∀ b o, H b = some o → (∀ ps, o ≠ .tbl ps) → H' b = some o := fun b o e n => r.kp b o e (by simp [C4.c3]) (R.notab e n)
  refine ⟨R.len, r.sub, fun i x e => ?_, fun a m e => ?_, R.mf, r.nt, r.tab, r.tabF, tr R.fr r.fr, fun b o e n t => r.kp b o (R.kp b o e n t) (by simp [C4.c3]) t, fun b e => R.dom b (r.dom b e), fun b o e => ?_⟩
  · obtain ⟨v, e1, q⟩ := R.slot i x e
    exact ⟨v, e1, q.mono r.fr⟩
  · obtain ⟨f, mo⟩ := R.mu a m e
    obtain ⟨o, eo, mto⟩ := mo.at
    have eo2 : H' a = some o := kp a o eo fun ps z => by rw [z] at mto; exact mto
    refine ⟨?_, mo.keep r.fr fun b u e2 hb => kp b u e2 fun ps z => ?_⟩
    · cases q : F' a with
      | none => rfl
      | some u =>
        rcases r.nw a u q with z | z | ⟨z, _⟩ | z
        · have z2 : F a = some u := z
          rw [f] at z2; exact nomatch z2
        · have z2 : H a = none := z
          rw [eo] at z2; exact nomatch z2
        · exact nomatch z
        · have z2 := r.sub _ _ q
          rw [eo2] at z2
          obtain rfl := Option.some.inj z2
          cases o <;> first | exact mto.elim | exact z.elim
    · rcases hb with rfl | hb
      · rw [eo] at e2
        obtain rfl := Option.some.inj e2
        rw [z] at mto
        exact mto
      · rw [hb] at z; exact nomatch z
  · rcases r.nw b o e with z | z | ⟨z, _⟩ | z
    · exact R.nw b o z
    · exact Or.inr (Or.inl (R.dom b z))
    · exact nomatch z
    · exact Or.inr (Or.inr (Or.inr z))
end
end L4
namespace L4
open PySem PySem.Spec PyProof.Rows L2 TB LamX L3
open C8 (tCut)
abbrev QE4 := PS → Mu → (Vl → Mu → Prop) → Prop
abbrev QT4 := PS → Mu → (Bool → Mu → Prop) → Prop
abbrev QA4 := PS → Mu → (List Vl → Mu → Prop) → Prop
abbrev QG4 := Vl → PS → Mu → (PS → Mu → Prop) → Prop
abbrev QGs4 := List Vl → PS → Mu → (PS → Mu → Prop) → Prop
/-- what is walked: its items, and what must stay so meanwhile -/
structure Wk where
  vs : List Vl
  ok : Mu → Prop
abbrev QI4 := PS → Mu → (Wk → Mu → Prop) → Prop
/-- a refusal: its class, its fields -/
structure XD where
  C : Addr
  fs : List (Str × Vl)
structure P4 where
  nx : PS → Mu → Prop
  rt : Vl → Mu → Prop
  bk : PS → Mu → Prop := fun _ _ => False
  ct : PS → Mu → Prop := fun _ _ => False
  ex : XD → PS → Mu → Prop := fun _ _ _ => False
abbrev QS4 := P4 → PS → Mu → Prop
def E4 (X : Sx) (te : TE) (pe : QE4) : Prop := ∀ (c : C4), c.X = X → ∀ (σ : L2.St) (F H : Hp) (μ : Mu) (ρ : PS) (Q : VK) (Q4 : Vl → Mu → Prop), R4 c F H μ σ ρ →
  (∀ x v F' H' μ', R4 c F' H' μ' σ ρ → Same F F' → RV c.K F' x v → Q4 x μ' → Q v H') → pe ρ μ Q4 → te σ H Q
def T4 (X : Sx) (tt : TT) (pt : QT4) : Prop := ∀ (c : C4), c.X = X → ∀ (σ : L2.St) (F H : Hp) (μ : Mu) (ρ : PS) (Q : Bool → Hp → Prop) (Q4 : Bool → Mu → Prop), R4 c F H μ σ ρ →
  (∀ b F' H' μ', R4 c F' H' μ' σ ρ → Same F F' → Q4 b μ' → Q b H') → pt ρ μ Q4 → tt σ H Q
def A4 (X : Sx) (ta : TA) (pa : QA4) : Prop := ∀ (c : C4), c.X = X → ∀ (σ : L2.St) (F H : Hp) (μ : Mu) (ρ : PS) (Q : List V → Hp → Prop) (Q4 : List Vl → Mu → Prop), R4 c F H μ σ ρ →
  (∀ xs vs F' H' μ', R4 c F' H' μ' σ ρ → Same F F' → RVs c.K F' xs vs → Q4 xs μ' → Q vs H') → pa ρ μ Q4 → ta σ H Q
def Wd4 (X : Sx) (J : It) (F : Hp) (k : Wk) : Prop := ∀ (i : Nat) (c : C4) (σ : L2.St) (F1 H1 : Hp) (μ : Mu) (ρ : PS), c.X = X → Same F F1 → R4 c F1 H1 μ σ ρ → k.ok μ →
  (∀ x, k.vs[i]? = some x → J.go i H1 ∧ ∀ v H', J.yld i H1 v H' → ∃ F', R4 c F' H' μ σ ρ ∧ Same F1 F' ∧ RV X.K F' x v) ∧ (k.vs[i]? = none → J.stop i H1)
def I4 (X : Sx) (wi : TI) (pi : QI4) : Prop := ∀ (c : C4), c.X = X → ∀ (σ : L2.St) (F H : Hp) (μ : Mu) (ρ : PS) (R : It → Hp → Prop) (Q4 : Wk → Mu → Prop), R4 c F H μ σ ρ →
  (∀ k J F' H' μ', R4 c F' H' μ' σ ρ → Same F F' → Wd4 X J F' k → Q4 k μ' → R J H') → pi ρ μ Q4 → wi σ H R
def G4 (X : Sx) (g : TG) (pg : QG4) (ts : List Nat) : Prop := ∀ (c : C4), c.X = X → ∀ (σ : L2.St) (F H : Hp) (μ : Mu) (ρ : PS) (x : Vl) (v : V) (R : L2.St → Hp → Prop) (Q4 : PS → Mu → Prop), R4 c F H μ σ ρ → RV c.K F x v →
  (∀ ρ' σ' F' H' μ', R4 c F' H' μ' σ' ρ' → Same F F' → σ'.length = σ.length → (∀ i, i ∉ ts → σ'[i]? = σ[i]?) → Q4 ρ' μ' → R σ' H') → pg x ρ μ Q4 → g v σ H R
def Gs4 (X : Sx) (g : TGs) (pg : QGs4) (ts : List Nat) : Prop := ∀ (c : C4), c.X = X → ∀ (σ : L2.St) (F H : Hp) (μ : Mu) (ρ : PS) (xs : List Vl) (vs : List V) (R : L2.St → Hp → Prop) (Q4 : PS → Mu → Prop), R4 c F H μ σ ρ → RVs c.K F xs vs →
  (∀ ρ' σ' F' H' μ', R4 c F' H' μ' σ' ρ' → Same F F' → σ'.length = σ.length → (∀ i, i ∉ ts → σ'[i]? = σ[i]?) → Q4 ρ' μ' → R σ' H') → pg xs ρ μ Q4 → g vs σ H R
structure Agr4 (c : C4) (F : Hp) (D : Ends) (P : P4) : Prop where
  nx : ∀ σ' F' H' μ' ρ', R4 c F' H' μ' σ' ρ' → Same F F' → P.nx ρ' μ' → D.nx σ' H'
  rt : ∀ σ' F' H' μ' ρ' v x, R4 c F' H' μ' σ' ρ' → Same F F' → RV c.K F' x v → P.rt x μ' → D.rt v H'
  bk : ∀ σ' F' H' μ' ρ', R4 c F' H' μ' σ' ρ' → Same F F' → P.bk ρ' μ' → D.bk σ' H'
  ct : ∀ σ' F' H' μ' ρ', R4 c F' H' μ' σ' ρ' → Same F F' → P.ct ρ' μ' → D.ct σ' H'
/-- the refusal at hand -/
def XOk (K : PySem.W.Frag) (F _H : Hp) (cls : Value) (d : Option Addr) (xd : XD) : Prop := cls = .ref xd.C ∧ ((d = none ∧ xd.fs = []) ∨ ∃ dx ws, d = some dx ∧ F dx = some (.xd ws) ∧ RK K F xd.fs ws)
def AgX (c : C4) (F : Hp) (W : WX) (ex : XD → PS → Mu → Prop) : Prop := ∀ σ' F' H' μ' ρ' cls d xd, R4 c F' H' μ' σ' ρ' → Same F F' → XOk c.K F' H' cls d xd → ex xd ρ' μ' → W cls d σ' H'
theorem Agr4.mono {c : C4} {F F' : Hp} {D : Ends} {P : P4} (a : Agr4 c F D P) (s : Same F F') : Agr4 c F' D P :=
  ⟨fun σ' G H' μ' ρ' R q => a.nx σ' G H' μ' ρ' R (tr s q), fun σ' G H' μ' ρ' v x R q => a.rt σ' G H' μ' ρ' v x R (tr s q), fun σ' G H' μ' ρ' R q => a.bk σ' G H' μ' ρ' R (tr s q), fun σ' G H' μ' ρ' R q => a.ct σ' G H' μ' ρ' R (tr s q)⟩
theorem AgX.mono {c : C4} {F F' : Hp} {W : WX} {ex : XD → PS → Mu → Prop} (a : AgX c F W ex) (s : Same F F') : AgX c F' W ex := fun σ' G H' μ' ρ' cls d xd R q => a σ' G H' μ' ρ' cls d xd R (tr s q)
def S4c (c : C4) (W : WX) (t : TS) (p : QS4) : Prop := ∀ (σ : L2.St) (F H : Hp) (μ : Mu) (ρ : PS) (D : Ends) (P : P4), R4 c F H μ σ ρ → Agr4 c F D P → AgX c F W P.ex → p P ρ μ → t D σ H
section
variable {X : Sx} {c : C4} {W : WX}
def it3 (pi : QI) : QI4 := fun ρ μ Q => pi (view ρ) fun ds _ => Q ⟨ds.map Vl.d, fun _ => True⟩ μ
theorem i_of3 {wi : TI} {pi : QI} (h : LiI X wi pi) : I4 X wi (it3 pi) := by
  intro c hX σ F H μ ρ Rr Q4 R hq hp
  refine h (c.c3 F H) hX σ F H (view ρ) Rr _ R.rel ?_ hp
  intro ds ρ' J F' H' R' s wd q
  refine hq _ J F' H' μ (R.back R') s ?_ q
  intro i c1 σ1 F1 H1 μ1 ρ1 hX1 s1 R1 _
  obtain ⟨w1, w2⟩ := wd i (c1.c3 F1 H1) σ1 (view ρ1) F1 H1 hX1 s1 R1.rel
  refine ⟨fun x e => ?_, fun e => w2 ?_⟩
  · rw [List.getElem?_map] at e
    obtain ⟨d, e1, rfl⟩ := Option.map_eq_some_iff.mp e
    obtain ⟨go, yl⟩ := w1 d e1
    refine ⟨go, fun v H2 hy => ?_⟩
    obtain ⟨_, F2, R2, s2, rp⟩ := yl v H2 hy
    exact ⟨F2, R1.back R2, s2, rp⟩
  · rw [List.getElem?_map] at e
    exact Option.map_eq_none_iff.mp e
def qVar4 (i : Nat) : QE4 := fun ρ μ Q => ∃ x, ρ[i]? = some (some x) ∧ Q x μ
theorem e_var {i : Nat} : E4 X (tVar i) (qVar4 i) := by
  rintro c hX σ F H μ ρ Q Q4 R hq ⟨x, e, q⟩
  obtain ⟨v, e1, r⟩ := R.slot i x e
  exact ⟨v, e1, hq x v F H μ R (L3.Same.refl F) r q⟩
def gName4 (i : Nat) : QG4 := fun x ρ μ Q => Q (ρ.set i (some x)) μ
theorem g_name {i : Nat} : G4 X (gName i) (gName4 i) [i] := by
  intro c hX σ F H μ ρ x v Rr Q4 R h hq hp
  refine hq _ _ F H μ (R.setV (i := i) h) (L3.Same.refl F) List.length_set (fun j hj => ?_) hp
  rw [List.getElem?_set_ne (fun e => hj (by rw [e]; exact List.mem_singleton.mpr rfl))]
def gNil4 : QGs4 := fun xs ρ μ Q => xs = [] ∧ Q ρ μ
def gCons4 (g : QG4) (gs : QGs4) : QGs4 := fun xs ρ μ Q => ∃ x r, xs = x :: r ∧ g x ρ μ fun ρ' μ' => gs r ρ' μ' Q
theorem g_nil : Gs4 X gNil gNil4 [] := by
  rintro c hX σ F H μ ρ xs vs Rr Q4 R h hq ⟨rfl, q⟩
  exact ⟨h, hq _ _ F H μ R (L3.Same.refl F) rfl (fun _ _ => rfl) q⟩
theorem g_cons {g : TG} {gs : TGs} {p : QG4} {ps : QGs4} {t1 t2 : List Nat} (h1 : G4 X g p t1) (h2 : Gs4 X gs ps t2) : Gs4 X (gCons g gs) (gCons4 p ps) (t1 ++ t2) := by
  rintro c hX σ F H μ ρ xs vs Rr Q4 R h hq ⟨x, r, rfl, q⟩
  obtain ⟨v, ws, rfl, k1, k2⟩ := h
  refine ⟨v, ws, rfl, ?_⟩
  refine h1 c hX σ F H μ ρ x v _ _ R k1 ?_ q
  intro ρ1 σ1 F1 H1 μ1 R1 s1 l1 e1 q1
  refine h2 c hX σ1 F1 H1 μ1 ρ1 r ws _ _ R1 (k2.mono s1) ?_ q1
  intro ρ2 σ2 F2 H2 μ2 R2 s2 l2 e2 q2
  refine hq ρ2 σ2 F2 H2 μ2 R2 (tr s1 s2) (l2.trans l1) (fun i hi => ?_) q2
  rw [e2 i (fun z => hi (List.mem_append_right _ z)), e1 i (fun z => hi (List.mem_append_left _ z))]
/-- the items of a tuple -/
def tupOf : Vl → Option (List Vl)
  | .d (.tup ds) => some (ds.map Vl.d)
  | .tup vs => some vs
  | _ => none
theorem tupOf_at {K : PySem.W.Frag} {F : Hp} {x : Vl} {xs : List Vl} {v : V} (e : tupOf x = some xs) (h : RV K F x v) : ∃ a vs, v = .ref a ∧ SqT K F a vs ∧ RVs K F xs vs := by
  match x, e, h with
  | .d (.tup ds), e, h =>
    obtain rfl := Option.some.inj e
    obtain ⟨a, vs, e1, q, r⟩ := h
    exact ⟨a, vs, e1, q, RVs.ofData r⟩
  | .tup vs, e, h =>
    obtain rfl := Option.some.inj e
    exact h
def gTup4 (n : Nat) (gs : QGs4) : QG4 := fun x ρ μ Q => ∃ xs, tupOf x = some xs ∧ xs.length = n ∧ gs xs ρ μ Q
theorem g_tup {n : Nat} {K : PySem.W.Frag} {gs : TGs} {ps : QGs4} {t : List Nat} (h1 : Gs4 X gs ps t) (hK : X.K = K := by rfl) : G4 X (gTup K n gs) (gTup4 n ps) t := by
  subst hK
  rintro c hX σ F H μ ρ x v Rr Q4 R h hq ⟨xs, e, hn, q⟩
  obtain ⟨a, vs, rfl, sq, r⟩ := tupOf_at e h
  subst hX
  exact ⟨a, vs, rfl, sqT_mono R.sub sq, by rw [r.len]; exact hn, h1 c rfl σ F H μ ρ xs vs Rr Q4 R r hq q⟩
def aNil : QA4 := fun ρ μ Q => Q [] μ
def aCons (pe : QE4) (pa : QA4) : QA4 := fun ρ μ Q => pe ρ μ fun x μ1 => pa ρ μ1 fun xs μ2 => Q (x :: xs) μ2
theorem a_nil : A4 X tNil aNil := by
  intro c hX σ F H μ ρ Q Q4 R hq h
  exact hq [] [] F H μ R (L3.Same.refl F) rfl h
theorem a_cons {te : TE} {ta : TA} {pe : QE4} {pa : QA4} (h1 : E4 X te pe) (h2 : A4 X ta pa) : A4 X (tCons te ta) (aCons pe pa) := by
  intro c hX σ F H μ ρ Q Q4 R hq h
  refine h1 c hX σ F H μ ρ _ _ R ?_ h
  intro x v F1 H1 μ1 R1 s1 rv q1
  refine h2 c hX σ F1 H1 μ1 ρ _ _ R1 ?_ q1
  intro xs vs F2 H2 μ2 R2 s2 rvs q2
  exact hq (x :: xs) (v :: vs) F2 H2 μ2 R2 (tr s1 s2) ⟨v, vs, rfl, rv.mono s2, rvs⟩ q2
/-- all data -/
def allD : List Vl → Option (List D)
  | [] => some []
  | .d d :: r => (allD r).map (d :: ·)
  | _ => none
theorem allD_is : ∀ {xs : List Vl} {ds : List D}, allD xs = some ds → xs = ds.map Vl.d
  | [], ds, h => by
    obtain rfl : [] = ds := Option.some.inj h
    rfl
  | .d d :: r, ds, h => by
    have h2 : (allD r).map (d :: ·) = some ds := h
    obtain ⟨es, e, rfl⟩ := Option.map_eq_some_iff.mp h2
    rw [allD_is e]
    rfl
/-- (..): data where all is data -/
def mkTup (xs : List Vl) : Vl := match allD xs with
  | some ds => .d (.tup ds)
  | none => .tup xs
def qTup4 (pa : QA4) : QE4 := fun ρ μ Q => pa ρ μ fun xs μ' => xs.length ≤ sizeLine ∧ Q (mkTup xs) μ'
theorem e_tup {ta : TA} {pa : QA4} (h : A4 X ta pa) : E4 X (tTup ta) (qTup4 pa) := by
  intro c hX σ F H μ ρ Q Q4 R hq hp
  refine h c hX σ F H μ ρ _ _ R ?_ hp
  intro xs vs F' H' μ' R' s r ⟨z, q⟩
  refine ⟨by rw [r.len]; exact z, fun p np => ?_⟩
  have s2 : Same F' (upd F' p (.tup vs)) := fun _ _ e => old_upd (R'.fnone np) e
  refine hq (mkTup xs) (.ref p) _ _ μ' (R'.alloc np trivial) (tr s s2) ?_ q
  unfold mkTup
  cases e : allD xs with
  | none => exact ⟨p, vs, rfl, sqT_of upd_same, r.mono s2⟩
  | some ds =>
    rw [allD_is e] at r
    exact ⟨p, vs, rfl, sqT_of upd_same, (RVs.data r).mono s2⟩
/-- [..]: a new list -/
def qLst4 (pa : QA4) : QE4 := fun ρ μ Q => pa ρ μ fun xs μ' => xs.length ≤ sizeLine ∧ ∀ p, μ' p = none → Q (.loc p) (updM μ' p (.lst xs))
theorem R4.newM {F H : Hp} {μ : Mu} {σ : L2.St} {ρ : PS} (R : R4 c F H μ σ ρ) {p : Addr} {o : HO} {m : MO} (np : H p = none) (no : noT o) (hm : MOk c.K F (upd H p o) p m) : R4 c F (upd H p o) (updM μ p m) σ ρ := (R.allocH np no).own (R.fnone np) hm (Or.inr (R.dom p np))
theorem e_lst {ta : TA} {pa : QA4} (h : A4 X ta pa) : E4 X (tLst ta) (qLst4 pa) := by
  intro c hX σ F H μ ρ Q Q4 R hq hp
  refine h c hX σ F H μ ρ _ _ R ?_ hp
  intro xs vs F' H' μ' R' s r ⟨z, q⟩
  refine ⟨by rw [r.len]; exact z, fun p np => ?_⟩
  exact hq (.loc p) (.ref p) F' _ _ (R'.newM (m := .lst xs) np trivial ⟨vs, upd_same, r⟩) s rfl (q p (R'.mnone np))
def isB4 (Q : Bool → Prop) : Vl → Prop
  | .d (.bl b) => Q b
  | _ => False
theorem isB4_is {Q : Bool → Prop} : ∀ {x : Vl}, isB4 Q x → ∃ b, x = .d (.bl b) ∧ Q b
  | .d (.bl b), h => ⟨b, rfl, h⟩
def qTest4 (pe : QE4) : QT4 := fun ρ μ Q => pe ρ μ fun x μ' => isB4 (fun b => Q b μ') x
theorem t_tB {te : TE} {pe : QE4} (h : E4 X te pe) : T4 X (tB te) (qTest4 pe) := by
  intro c hX σ F H μ ρ Q Q4 R hq hp
  refine h c hX σ F H μ ρ _ _ R ?_ hp
  intro x v F' H' μ' R' s rv q
  obtain ⟨b, rfl, q⟩ := isB4_is q
  exact ⟨b, rv, hq b F' H' μ' R' s q⟩
theorem t_test {te : TE} {pe : QE4} (h : E4 X te pe) : T4 X (tTest te) (qTest4 pe) := t_tB h
def qAnd4 (p q : QT4) : QT4 := fun ρ μ Q => p ρ μ fun b μ1 => if b = true then q ρ μ1 Q else Q false μ1
def qOr4 (p q : QT4) : QT4 := fun ρ μ Q => p ρ μ fun b μ1 => if b = true then Q true μ1 else q ρ μ1 Q
def qNot4 (p : QT4) : QT4 := fun ρ μ Q => p ρ μ fun b μ1 => Q (!b) μ1
def qYes4 : QT4 := fun ρ μ Q => Q true μ
theorem t_and {t u : TT} {p q : QT4} (h1 : T4 X t p) (h2 : T4 X u q) : T4 X (tAnd t u) (qAnd4 p q) := by
  intro c hX σ F H μ ρ Q Q4 R hq hp
  refine h1 c hX σ F H μ ρ _ _ R ?_ hp
  intro b F1 H1 μ1 R1 s1 q1
  cases b with
  | true => exact h2 c hX σ F1 H1 μ1 ρ _ _ R1 (fun b F2 H2 μ2 R2 s2 q2 => hq b F2 H2 μ2 R2 (tr s1 s2) q2) q1
  | false => exact hq false F1 H1 μ1 R1 s1 q1
theorem t_or {t u : TT} {p q : QT4} (h1 : T4 X t p) (h2 : T4 X u q) : T4 X (tOr t u) (qOr4 p q) := by
  intro c hX σ F H μ ρ Q Q4 R hq hp
  refine h1 c hX σ F H μ ρ _ _ R ?_ hp
  intro b F1 H1 μ1 R1 s1 q1
  cases b with
  | true => exact hq true F1 H1 μ1 R1 s1 q1
  | false => exact h2 c hX σ F1 H1 μ1 ρ _ _ R1 (fun b F2 H2 μ2 R2 s2 q2 => hq b F2 H2 μ2 R2 (tr s1 s2) q2) q1
theorem t_not {t : TT} {p : QT4} (h1 : T4 X t p) : T4 X (tNot t) (qNot4 p) := by
  intro c hX σ F H μ ρ Q Q4 R hq hp
  exact h1 c hX σ F H μ ρ _ _ R (fun b F1 H1 μ1 R1 s1 q1 => hq _ F1 H1 μ1 R1 s1 q1) hp
theorem t_yes : T4 X tYes qYes4 := by
  intro c hX σ F H μ ρ Q Q4 R hq hp
  exact hq _ F H μ R (L3.Same.refl F) hp
def sNext4 : QS4 := fun P ρ μ => P.nx ρ μ
def sSeq4 (p q : QS4) : QS4 := fun P ρ μ => p { P with nx := q P } ρ μ
def sCut4 (p q : QS4) : QS4 := fun P ρ μ => ∃ M : PS → Mu → Prop, p { P with nx := M } ρ μ ∧ ∀ ρ' μ', M ρ' μ' → q P ρ' μ'
def sDrop4 (pe : QE4) : QS4 := fun P ρ μ => pe ρ μ fun _ μ' => P.nx ρ μ'
def sRet4 (pe : QE4) : QS4 := fun P ρ μ => pe ρ μ fun x μ' => P.rt x μ'
def sIf4 (pt : QT4) (p q : QS4) : QS4 := fun P ρ μ => pt ρ μ fun b μ1 => if b = true then p P ρ μ1 else q P ρ μ1
def sAsg4 (pe : QE4) (g : QG4) : QS4 := fun P ρ μ => pe ρ μ fun x μ1 => g x ρ μ1 P.nx
theorem s_nextc : S4c c W tNext sNext4 := fun σ F H μ ρ D P R a _ h => a.nx σ F H μ ρ R (L3.Same.refl F) h
theorem s_neverc : S4c c W tNever (fun _ _ _ => False) := fun σ F H μ ρ D P R a _ h => h.elim
theorem s_seqc {t u : TS} {p q : QS4} (h1 : S4c c W t p) (h2 : S4c c W u q) : S4c c W (tSeq t u) (sSeq4 p q) := by
  intro σ F H μ ρ D P R a ax h
  exact h1 σ F H μ ρ _ { P with nx := q P } R ⟨fun σ' F' H' μ' ρ' R' s z => h2 σ' F' H' μ' ρ' D P R' (a.mono s) (ax.mono s) z, a.rt, a.bk, a.ct⟩ ax h
theorem s_cutc {t u : TS} {p q : QS4} (h1 : S4c c W t p) (h2 : S4c c W u q) : S4c c W (tCut t u) (sCut4 p q) := by
  intro σ F H μ ρ D P R a ax h
  obtain ⟨M, hm, hu⟩ := h
  refine ⟨fun σ' H' => ∃ F' μ' ρ', R4 c F' H' μ' σ' ρ' ∧ Same F F' ∧ M ρ' μ', ?_, ?_⟩
  · exact h1 σ F H μ ρ _ { P with nx := M } R ⟨fun σ' F' H' μ' ρ' R' s q => ⟨F', μ', ρ', R', s, q⟩, a.rt, a.bk, a.ct⟩ ax hm
  · rintro σ' H' ⟨F', μ', ρ', R', s, q⟩
    exact h2 σ' F' H' μ' ρ' D P R' (a.mono s) (ax.mono s) (hu ρ' μ' q)
theorem s_dropc {te : TE} {pe : QE4} (h1 : E4 c.X te pe) : S4c c W (tDrop te) (sDrop4 pe) := by
  intro σ F H μ ρ D P R a ax h
  exact h1 c rfl σ F H μ ρ _ _ R (fun x v F' H' μ' R' s rv q => a.nx σ F' H' μ' ρ R' s q) h
theorem s_retc {te : TE} {pe : QE4} (h1 : E4 c.X te pe) : S4c c W (tRet te) (sRet4 pe) := by
  intro σ F H μ ρ D P R a ax h
  exact h1 c rfl σ F H μ ρ _ _ R (fun x v F' H' μ' R' s rv q => a.rt σ F' H' μ' ρ v x R' s rv q) h
theorem s_ifc {tc : TT} {t u : TS} {pt : QT4} {p q : QS4} (h0 : T4 c.X tc pt) (h1 : S4c c W t p) (h2 : S4c c W u q) : S4c c W (tIfS tc t u) (sIf4 pt p q) := by
  intro σ F H μ ρ D P R a ax h
  refine h0 c rfl σ F H μ ρ _ _ R ?_ h
  intro b F' H' μ' R' s q
  cases b with
  | true => exact h1 σ F' H' μ' ρ D P R' (a.mono s) (ax.mono s) q
  | false => exact h2 σ F' H' μ' ρ D P R' (a.mono s) (ax.mono s) q
theorem s_asgc {te : TE} {g : TG} {pe : QE4} {pg : QG4} {t : List Nat} (h1 : E4 c.X te pe) (h2 : G4 c.X g pg t) : S4c c W (tAsg te g) (sAsg4 pe pg) := by
  intro σ F H μ ρ D P R a ax h
  refine h1 c rfl σ F H μ ρ _ _ R ?_ h
  intro x v F' H' μ' R' s rv q
  exact h2 c rfl σ F' H' μ' ρ x v _ _ R' rv (fun ρ2 σ2 F2 H2 μ2 R2 s2 _ _ q2 => a.nx σ2 F2 H2 μ2 ρ2 R2 (tr s s2) q2) q
def For4 (k : Wk) (g : QG4) (p : QS4) (P : P4) (ρ : PS) (μ : Mu) : Prop := ∃ W : Nat → PS → Mu → Prop, W 0 ρ μ ∧ ∀ i ρ μ, W i ρ μ → k.ok μ ∧ (k.vs[i]? = none → P.nx ρ μ) ∧ ∀ x, k.vs[i]? = some x → g x ρ μ fun ρ1 μ1 => p { P with nx := W (i + 1), ct := W (i + 1), bk := P.nx } ρ1 μ1
def sFor4 (pi : QI4) (g : QG4) (p : QS4) : QS4 := fun P ρ μ => pi ρ μ fun k μ1 => For4 k g p P ρ μ1
theorem s_forc {wi : TI} {g : TG} {tb : TS} {pi : QI4} {pg : QG4} {p : QS4} {t : List Nat} (h0 : I4 c.X wi pi) (h1 : G4 c.X g pg t) (h2 : S4c c W tb p) : S4c c W (tFor wi g tb) (sFor4 pi pg p) := by
  intro σ F H μ ρ D P R a ax h
  refine h0 c rfl σ F H μ ρ _ _ R ?_ h
  rintro k J F1 H1 μ1 R1 s1 wd ⟨I, w0, turn⟩
  refine ⟨fun i m σ' H' => m = k.vs.length - i ∧ ∃ F' μ' ρ', R4 c F' H' μ' σ' ρ' ∧ Same F1 F' ∧ I i ρ' μ', ⟨_, rfl, F1, μ1, ρ, R1, L3.Same.refl F1, w0⟩, ?_⟩
  rintro i m σ2 H2 ⟨rfl, F2, μ2, ρ2, R2, s2, q2⟩
  obtain ⟨ok, t1, t2⟩ := turn i ρ2 μ2 q2
  obtain ⟨w1, w2⟩ := wd i c σ2 F2 H2 μ2 ρ2 rfl s2 R2 ok
  cases e1 : k.vs[i]? with
  | none => exact Or.inl ⟨w2 e1, a.nx σ2 F2 H2 μ2 ρ2 R2 (tr s1 s2) (t1 e1)⟩
  | some x =>
    obtain ⟨go, yl⟩ := w1 x e1
    have hlt := (List.getElem?_eq_some_iff.mp e1).1
    refine Or.inr ⟨go, fun σ' H' => ∃ F' μ' ρ', R4 c F' H' μ' σ' ρ' ∧ Same F1 F' ∧ I (i + 1) ρ' μ', fun σ' H' ⟨F', μ', ρ', R', s', q'⟩ => ⟨k.vs.length - (i + 1), by omega, rfl, F', μ', ρ', R', s', q'⟩, ?_⟩
    intro v H3 hy
    obtain ⟨F3, R3, s3, rp⟩ := yl v H3 hy
    refine h1 c rfl σ2 F3 H3 μ2 ρ2 x v _ _ R3 rp ?_ (t2 x e1)
    intro ρ4 σ4 F4 H4 μ4 R4' s4 _ _ q4
    have sB : Same F1 F4 := tr (tr s2 s3) s4
    have sA : Same F F4 := tr s1 sB
    exact h2 σ4 F4 H4 μ4 ρ4 _ { P with nx := I (i + 1), ct := I (i + 1), bk := P.nx } R4' ⟨fun σ' F' H' μ' ρ' R' s' q' => ⟨F', μ', ρ', R', tr sB s', q'⟩, fun σ' F' H' μ' ρ' v x R' s' r q' => a.rt σ' F' H' μ' ρ' v x R' (tr sA s') r q', fun σ' F' H' μ' ρ' R' s' q' => a.nx σ' F' H' μ' ρ' R' (tr sA s') q', fun σ' F' H' μ' ρ' R' s' q' => ⟨F', μ', ρ', R', tr sB s', q'⟩⟩ (ax.mono sA) q4
end
/-- for all places -/
def S4 (X : Sx) (W : WX) (t : TS) (p : QS4) : Prop := ∀ c : C4, c.X = X → S4c c W t p
section
variable {X : Sx} {W : WX}
theorem s_next : S4 X W tNext sNext4 := fun c _ => s_nextc
theorem s_never : S4 X W tNever (fun _ _ _ => False) := fun c _ => s_neverc
theorem s_seq {t u : TS} {p q : QS4} (h1 : S4 X W t p) (h2 : S4 X W u q) : S4 X W (tSeq t u) (sSeq4 p q) := fun c e => s_seqc (h1 c e) (h2 c e)
theorem s_cut {t u : TS} {p q : QS4} (h1 : S4 X W t p) (h2 : S4 X W u q) : S4 X W (tCut t u) (sCut4 p q) := fun c e => s_cutc (h1 c e) (h2 c e)
theorem s_drop {te : TE} {pe : QE4} (h1 : E4 X te pe) : S4 X W (tDrop te) (sDrop4 pe) := fun c e => by subst e; exact s_dropc h1
theorem s_ret {te : TE} {pe : QE4} (h1 : E4 X te pe) : S4 X W (tRet te) (sRet4 pe) := fun c e => by subst e; exact s_retc h1
theorem s_if {tc : TT} {t u : TS} {pt : QT4} {p q : QS4} (h0 : T4 X tc pt) (h1 : S4 X W t p) (h2 : S4 X W u q) : S4 X W (tIfS tc t u) (sIf4 pt p q) := fun c e => by subst e; exact s_ifc h0 (h1 c rfl) (h2 c rfl)
theorem s_asg {te : TE} {g : TG} {pe : QE4} {pg : QG4} {t : List Nat} (h1 : E4 X te pe) (h2 : G4 X g pg t) : S4 X W (tAsg te g) (sAsg4 pe pg) := fun c e => by subst e; exact s_asgc h1 h2
theorem s_for {wi : TI} {g : TG} {tb : TS} {pi : QI4} {pg : QG4} {p : QS4} {t : List Nat} (h0 : I4 X wi pi) (h1 : G4 X g pg t) (h2 : S4 X W tb p) : S4 X W (tFor wi g tb) (sFor4 pi pg p) := fun c e => by subst e; exact s_forc h0 h1 (h2 c rfl)
end
end L4
namespace L4
open PySem PySem.Spec PyProof.Rows L2 TB LamX L3
abbrev PSp4 := List Vl → Mu → (Vl → Mu → Prop) → (XD → Mu → Prop) → Prop
def lsp4 (X : Sx) (P : PSp4) : Sp := fun vs H Q E => ∃ F μ xs Q4 X4, R4 ⟨X, F, H, μ⟩ F H μ [] [] ∧ RVs X.K F xs vs ∧ P xs μ Q4 X4 ∧
  (∀ x v F' H' μ', R4 ⟨X, F, H, μ⟩ F' H' μ' [] [] → RV X.K F' x v → Q4 x μ' → Q v H') ∧ (∀ xd cls d F' H' μ', R4 ⟨X, F, H, μ⟩ F' H' μ' [] [] → XOk X.K F' H' cls d xd → X4 xd μ' → E cls d H')
def start4 (N : List Str) (xs : List Vl) : PS := xs.map some ++ List.replicate (N.length - xs.length) none
def ends4 (Q4 : Vl → Mu → Prop) (X4 : XD → Mu → Prop) : P4 := { nx := fun _ μ => Q4 (.d .non) μ, rt := Q4, ex := fun xd _ μ => X4 xd μ }
section
variable {X : Sx} {c : C4} {F H F' H' : Hp} {μ μ' : Mu} {σ : L2.St} {ρ : PS}
theorem R4.bare (R : R4 c F H μ σ ρ) : R4 c F H μ [] [] := ⟨rfl, R.sub, fun i x e => by simp at e, R.mu, R.mf, R.nt, R.tab, R.tabF, R.fr, R.kp, R.dom, R.nw⟩
theorem start4_rel {N : List Str} {xs : List Vl} {vs : List V} (R : R4 c F H μ [] []) (r : RVs c.K F xs vs) : R4 c F H μ (L2.start N vs) (start4 N xs) := by
  refine ⟨?_, R.sub, fun i x e => ?_, R.mu, R.mf, R.nt, R.tab, R.tabF, R.fr, R.kp, R.dom, R.nw⟩
  · unfold L2.start start4
    rw [List.length_append, List.length_append, List.length_map, List.length_map, List.length_replicate, List.length_replicate, r.len]
  · unfold start4 at e
    by_cases hj : i < xs.length
    · rw [List.getElem?_append_left (by rw [List.length_map]; exact hj), List.getElem?_map] at e
      obtain ⟨y, e1, e2⟩ := Option.map_eq_some_iff.mp e
      obtain rfl := Option.some.inj e2
      obtain ⟨v, e3, rv⟩ := r.get' e1
      refine ⟨v, ?_, rv⟩
      rw [start_get (by rw [r.len]; exact hj), e3]
      rfl
    · rw [List.getElem?_append_right (by rw [List.length_map]; omega)] at e
      have := List.eq_of_mem_replicate (List.mem_of_getElem? e)
      exact nomatch this
/-- a whole def -/
theorem run4 {t : TS} {N : List Str} {P : PSp4} {vs : List V} {Q : VK} {E : XK} (hp : ∃ p, S4 X (fun cls d _ H => E cls d H) t p ∧ ∀ xs μ Q4 X4, P xs μ Q4 X4 → p (ends4 Q4 X4) (start4 N xs) μ) (h : lsp4 X P vs H Q E) : t { nx := fun _ H' => Q .non H', rt := Q } (L2.start N vs) H := by
  obtain ⟨p, hl, hp⟩ := hp
  obtain ⟨F, μ, xs, Q4, X4, R, rv, hP, hQ, hX⟩ := h
  refine hl ⟨X, F, H, μ⟩ rfl (L2.start N vs) F H μ (start4 N xs) _ (ends4 Q4 X4) (start4_rel R rv) ⟨?_, ?_, fun _ _ _ _ _ _ _ z => z.elim, fun _ _ _ _ _ _ _ z => z.elim⟩ ?_ (hp xs μ Q4 X4 hP)
  · intro σ' F' H' μ' ρ' R' _ q
    exact hQ (.d .non) .non F' H' μ' R'.bare rfl q
  · intro σ' F' H' μ' ρ' v x R' _ r q
    exact hQ x v F' H' μ' R'.bare r q
  · intro σ' F' H' μ' ρ' cls d xd R' _ xo q
    exact hX xd cls d F' H' μ' R'.bare xo q
theorem lsp4_len {P : PSp4} {n : Nat} (h : ∀ xs μ Q4 X4, P xs μ Q4 X4 → xs.length = n) : ∀ vs H Q E, lsp4 X P vs H Q E → vs.length = n := by
  rintro vs H Q E ⟨F, μ, xs, Q4, X4, R, rv, hP, _⟩
  rw [rv.len]
  exact h xs μ Q4 X4 hP
def qCall4 (P : PSp4) (pa : QA4) : QE4 := fun ρ μ Q => pa ρ μ fun xs μ1 => P xs μ1 Q (fun _ _ => False)
theorem e_call {P : PSp4} {ta : TA} {pa : QA4} {E : XK} (h : A4 X ta pa) : E4 X (tCall (lsp4 X P) [] E ta) (qCall4 P pa) := by
  intro c hX σ F H μ ρ Q Q4 R hq hp
  subst hX
  refine h c rfl σ F H μ ρ _ _ R ?_ hp
  intro xs vs F1 H1 μ1 R1 s1 rv q1
  rw [List.append_nil]
  refine ⟨F1, μ1, xs, _, _, R1.here.bare, rv, q1, ?_, fun _ _ _ _ _ _ _ _ z => z.elim⟩
  intro x v F2 H2 μ2 R2 r q
  exact hq x v F2 H2 μ2 (R1.slots R2) (tr s1 R2.fr) r q
theorem rk_some {K : PySem.W.Frag} {m : Str} {x : Vl} : ∀ {fs : List (Str × Vl)} {gs : List (Str × V)}, RK K F fs gs → fs.lookup m = some x → ∃ v, gs.lookup m = some v ∧ RV K F x v
  | [], gs, h, e => nomatch e
  | (k, y) :: fs, gs, h, e => by
    obtain ⟨v, r, rfl, q, t⟩ := h
    rw [List.lookup_cons] at e ⊢
    cases c : (m == k) with
    | true =>
      rw [c] at e
      obtain rfl : y = x := Option.some.inj e
      exact ⟨v, rfl, q⟩
    | false =>
      rw [c] at e
      exact rk_some t e
abbrev QX4 := PS → Mu → (Vl → Mu → Prop) → (XD → PS → Mu → Prop) → Prop
def E4X (X : Sx) (W : WX) (te : TE) (pe : QX4) : Prop := ∀ (c : C4), c.X = X → ∀ (σ : L2.St) (F H : Hp) (μ : Mu) (ρ : PS) (Q : VK) (Q4 : Vl → Mu → Prop) (ex : XD → PS → Mu → Prop), R4 c F H μ σ ρ → AgX c F W ex →
  (∀ x v F' H' μ', R4 c F' H' μ' σ ρ → Same F F' → RV c.K F' x v → Q4 x μ' → Q v H') → pe ρ μ Q4 ex → te σ H Q
def xCall (P : PSp4) (pa : QA4) : QX4 := fun ρ μ Q ex => pa ρ μ fun xs μ1 => P xs μ1 Q (fun xd μ' => ex xd ρ μ')
theorem x_call {W : WX} {P : PSp4} {ta : TA} {pa : QA4} (h : A4 X ta pa) : E4X X W (tCallS (lsp4 X P) (WE W) ta) (xCall P pa) := by
  intro c hX σ F H μ ρ Q Q4 ex R ax hq hp
  subst hX
  refine h c rfl σ F H μ ρ _ _ R ?_ hp
  intro xs vs F1 H1 μ1 R1 s1 rv q1
  refine ⟨F1, μ1, xs, _, _, R1.here.bare, rv, q1, fun x v F2 H2 μ2 R2 r q => hq x v F2 H2 μ2 (R1.slots R2) (tr s1 R2.fr) r q, fun xd cls d F2 H2 μ2 R2 xo q => ?_⟩
  exact ax σ F2 H2 μ2 ρ cls d xd (R1.slots R2) (tr s1 R2.fr) xo q
def sDropX (pe : QX4) : QS4 := fun P ρ μ => pe ρ μ (fun _ μ' => P.nx ρ μ') P.ex
theorem rk_data {K : PySem.W.Frag} {F : Hp} : ∀ {kvs : List (Key × Vl)} {ws : List (Key × V)} {ds : List D}, RK K F kvs ws → allD (kvs.map (·.2)) = some ds → ∃ vs, ws = (kvs.map (·.1)).zip vs ∧ RpL K F ds vs
  | [], ws, ds, h, e => by
    obtain rfl : [] = ds := Option.some.inj e
    exact ⟨[], h, rfl⟩
  | (k, x) :: kvs, ws, ds, h, e => by
    obtain ⟨v, r, rfl, q, t⟩ := h
    cases x with
    | loc a => exact nomatch (show (none : Option (List D)) = some ds from e)
    | tup xs => exact nomatch (show (none : Option (List D)) = some ds from e)
    | d d =>
      have e2 : (allD (kvs.map (·.2))).map (d :: ·) = some ds := e
      obtain ⟨es, e3, rfl⟩ := Option.map_eq_some_iff.mp e2
      obtain ⟨vs, rfl, rp⟩ := rk_data t e3
      exact ⟨v :: vs, rfl, v, vs, rfl, q, rp⟩
theorem R4.backS (R : R4 c F H μ σ ρ) {σ' : L2.St} {ρ' : PSt} {G : Hp} (r : Rel (c.c3 G H) F' H' σ' ρ') : R4 c F H' μ σ ρ := by
  have kp : ∀ b o, H b = some o → (∀ ps, o ≠ .tbl ps) → H' b = some o := fun b o e n => r.kp b o e (by simp [C4.c3]) (R.notab e n)
  refine ⟨R.len, fun b o e => ?_, R.slot, fun a m e => ?_, R.mf, r.nt, r.tab, R.tabF, R.fr, fun b o e n t => r.kp b o (R.kp b o e n t) (by simp [C4.c3]) t, fun b e => R.dom b (r.dom b e), R.nw⟩
  · refine r.kp b o (R.sub b o e) (by simp [C4.c3]) fun x hx z => ?_
    rw [z, R.tabF x hx] at e
    exact nomatch e
  · obtain ⟨f, mo⟩ := R.mu a m e
    obtain ⟨o, eo, mto⟩ := mo.at
    refine ⟨f, mo.keep (L3.Same.refl F) fun b u e2 hb => kp b u e2 fun ps z => ?_⟩
    rcases hb with rfl | hb
    · rw [eo] at e2
      obtain rfl := Option.some.inj e2
      rw [z] at mto
      exact mto
    · rw [hb] at z; exact nomatch z
end
end L4
namespace L4
open PySem PySem.Spec PyProof.Rows L2 TB LamX L3
section
variable {X : Sx} {K : PySem.W.Frag} {W : WX}
abbrev OM := List Vl → List Vl → (Vl → List Vl → Prop) → Prop
def LM (X : Sx) (r : V → List V → Hp → VK → Prop) (r4 : OM) : Prop := ∀ (c : C4), c.X = X → ∀ (σ : L2.St) (F H : Hp) (μ : Mu) (ρ : PS) (a : Addr) (vs xs : List Vl) (ws : List V) (Q : VK) (Q4 : Vl → List Vl → Prop), R4 c F H μ σ ρ → μ a = some (.lst vs) → RVs c.K F xs ws →
  (∀ x v vs' H', R4 c F H' (updM μ a (.lst vs')) σ ρ → RV c.K F x v → Q4 x vs' → Q v H') → r4 vs xs Q4 → r (.ref a) ws H Q
theorem R4.mutL {c : C4} {F H : Hp} {μ : Mu} {σ : L2.St} {ρ : PS} (R : R4 c F H μ σ ρ) {a : Addr} {vs vs' : List Vl} {ws' : List V} (h : μ a = some (.lst vs)) (r : RVs c.K F vs' ws') : R4 c F (upd H a (.lst ws')) (updM μ a (.lst vs')) σ ρ := R.mut h trivial ⟨ws', upd_same, r⟩
def qBM4 (r4 : OM) (pe : QE4) (pa : QA4) : QE4 := fun ρ μ Q => pe ρ μ fun x μ1 => ∃ a, x = .loc a ∧ (∃ vs0, μ1 a = some (.lst vs0)) ∧ pa ρ μ1 fun xs μ2 => ∃ vs, μ2 a = some (.lst vs) ∧ r4 vs xs fun y vs' => Q y (updM μ2 a (.lst vs'))
theorem e_bm {r : V → List V → Hp → VK → Prop} {r4 : OM} {te : TE} {ta : TA} {pe : QE4} {pa : QA4} (hr : LM X r r4) (h0 : E4 X te pe) (h1 : A4 X ta pa) (hK : X.K = K := by rfl) : E4 X (tBM K "list" r te ta) (qBM4 r4 pe pa) := by
  subst hK
  intro c hX σ F H μ ρ Q Q4 R hq hp
  subst hX
  refine h0 c rfl σ F H μ ρ _ _ R ?_ hp
  rintro x v F1 H1 μ1 R1 s1 rv ⟨a, rfl, ⟨vs0, e0⟩, q1⟩
  obtain rfl : v = .ref a := rv
  obtain ⟨_, ws0, ea, _⟩ := R1.mu a _ e0
  refine ⟨Or.inl ⟨rfl, _, sqL_of ea⟩, ?_⟩
  refine h1 c rfl σ F1 H1 μ1 ρ _ _ R1 ?_ q1
  rintro xs ws F2 H2 μ2 R2 s2 rw2 ⟨vs, em, q2⟩
  exact hr c rfl σ F2 H2 μ2 ρ a vs xs ws Q _ R2 em rw2 (fun y v vs' H' R' rv q => hq y v F2 H' _ R' (tr s1 s2) rv q) q2
def mAppend : OM := fun vs xs Q => ∃ y, xs = [y] ∧ vs.length < sizeLine ∧ Q (.d .non) (vs ++ [y])
theorem m_append : LM X rAppend mAppend := by
  rintro c hX σ F H μ ρ a vs xs ws Q Q4 R em rx hq ⟨y, rfl, hz, q⟩
  obtain ⟨v, t, rfl, r1, r2⟩ := rx
  obtain rfl : t = [] := r2
  obtain ⟨hF, us, ea, ru⟩ := R.mu a _ em
  exact ⟨a, us, v, rfl, rfl, ea, by rw [ru.len]; exact hz, hq (.d .non) .non _ _ (R.mutL em (ru.app (RVs.one r1))) rfl q⟩
def mPopAt : OM := fun vs xs Q => ∃ (k : Int) (j : Nat) (y : Vl), xs = [.d (.int k)] ∧ -(2 ^ 63) ≤ k ∧ k < 2 ^ 63 ∧ seqIndex? k vs.length = some j ∧ vs[j]? = some y ∧ Q y (vs.eraseIdx j)
theorem m_popAt : LM X rPopAt mPopAt := by
  rintro c hX σ F H μ ρ a vs xs ws Q Q4 R em rx hq ⟨k, j, y, rfl, k0, k1, e1, e2, q⟩
  obtain ⟨v, t, rfl, r1, r2⟩ := rx
  obtain rfl : t = [] := r2
  obtain rfl : v = .int k := r1
  obtain ⟨hF, us, ea, ru⟩ := R.mu a _ em
  obtain ⟨u, e3, rv⟩ := ru.get' e2
  exact ⟨a, us, k, j, u, rfl, rfl, ea, k0, k1, by rw [ru.len]; exact e1, e3, hq y u _ _ (R.mutL em (ru.erase j)) rv q⟩
def mIns : OM := fun vs xs Q => ∃ (k : Int) (y : Vl), xs = [.d (.int k), y] ∧ vs.length < sizeLine ∧ 0 ≤ k ∧ k < 2 ^ 63 ∧ Q (.d .non) (vs.take k.toNat ++ [y] ++ vs.drop k.toNat)
theorem m_ins : LM X rIns mIns := by
  rintro c hX σ F H μ ρ a vs xs ws Q Q4 R em rx hq ⟨k, y, rfl, hz, k0, k1, q⟩
  obtain ⟨v, t, rfl, r1, u, t2, rfl, r2, r3⟩ := rx
  obtain rfl : t2 = [] := r3
  obtain rfl : v = .int k := r1
  obtain ⟨hF, us, ea, ru⟩ := R.mu a _ em
  exact ⟨a, us, k, u, rfl, rfl, ea, by rw [ru.len]; exact hz, k0, k1, hq (.d .non) .non _ _ (R.mutL em (((ru.take _).app (RVs.one r2)).app (ru.drop _))) rfl q⟩
def lstOf (μ : Mu) : Vl → Option (List Vl)
  | .d (.lst ds) => some (ds.map Vl.d)
  | .loc a => match μ a with
    | some (.lst vs) => some vs
    | _ => none
  | _ => none
theorem lstOf_at {c : C4} {F H : Hp} {μ : Mu} {σ : L2.St} {ρ : PS} (R : R4 c F H μ σ ρ) {x : Vl} {vs : List Vl} {v : V} (e : lstOf μ x = some vs) (h : RV c.K F x v) : ∃ a ws, v = .ref a ∧ H a = some (.lst ws) ∧ RVs c.K F vs ws := by
  cases x with
  | tup xs => exact nomatch e
  | loc a =>
    have e2 : (match μ a with | some (MO.lst vs) => some vs | _ => none) = some vs := e
    cases q : μ a with
    | none => rw [q] at e2; exact nomatch e2
    | some m =>
      rw [q] at e2
      cases m with
      | lst us =>
        obtain rfl : us = vs := Option.some.inj e2
        obtain ⟨_, ws, ea, r⟩ := R.mu a _ q
        exact ⟨a, ws, h, ea, r⟩
      | dic _ => exact nomatch e2
      | dicT _ => exact nomatch e2
      | ins _ _ _ => exact nomatch e2
  | d d =>
    cases d with
    | lst ds =>
      obtain rfl : ds.map Vl.d = vs := Option.some.inj e
      obtain ⟨a, ws, e1, q, r⟩ := h
      exact ⟨a, ws, e1, R.sub _ _ q, RVs.ofData r⟩
    | _ => exact nomatch e
theorem atI_rv {K : PySem.W.Frag} {F : Hp} {xs : List Vl} {vs : List V} {i : Int} {x : Vl} (r : RVs K F xs vs) (h : atI xs i = some x) : ∃ v, atI vs i = some v ∧ RV K F x v := by
  unfold atI at h ⊢
  rw [r.len]
  cases q : ixN xs.length i with
  | none => rw [q] at h; exact nomatch h
  | some j => rw [q] at h; exact r.get' h
def qIx4 (of : Mu → Vl → Option (List Vl)) (pa pb : QE4) : QE4 := fun ρ μ Q => pa ρ μ fun x μ1 => pb ρ μ1 fun y μ2 => ∃ (vs : List Vl) (k : Int) (z : Vl), of μ2 x = some vs ∧ y = .d (.int k) ∧ atI vs k = some z ∧ Q z μ2
theorem e_ixL {ta tb : TE} {pa pb : QE4} (h1 : E4 X ta pa) (h2 : E4 X tb pb) (hK : X.K = K := by rfl) : E4 X (tOp (rIxL K) ta tb) (qIx4 lstOf pa pb) := by
  subst hK
  intro c hX σ F H μ ρ Q Q4 R hq hp
  subst hX
  refine h1 c rfl σ F H μ ρ _ _ R ?_ hp
  intro x v F1 H1 μ1 R1 s1 rv q1
  refine h2 c rfl σ F1 H1 μ1 ρ _ _ R1 ?_ q1
  rintro y w F2 H2 μ2 R2 s2 rw2 ⟨vs, k, z, e1, rfl, e2, q⟩
  obtain rfl : w = .int k := rw2
  obtain ⟨a, ws, rfl, ea, r⟩ := lstOf_at R2 e1 (rv.mono s2)
  obtain ⟨u, e3, ru⟩ := atI_rv r e2
  exact ⟨a, ws, k, u, rfl, rfl, sqL_of ea, e3, hq z u F2 H2 μ2 R2 (tr s1 s2) ru q⟩
def val4 (kvs : List (Key × Vl)) (k : Key) : Option Vl := (kvs.find? fun kv => decide (kv.1 = k)).map (·.2)
end
end L4
namespace L4
open PySem PySem.Spec PyProof.Rows L2 TB LamX L3
/-- a mutable thing is wanted -/
def tMu (t : TE) : TE := t
theorem toMu {Y : Cx} {e : Expr} {t : TE} (h : PE Y e t) : PE Y e (tMu t) := h
/-- data as it stands -/
def rd4 (μ : Mu) : Vl → Option D
  | .d d => some d
  | .loc a => match μ a with
    | some (.lst vs) => (allD vs).map .lst
    | _ => none
  | .tup _ => none
def rdL4 (μ : Mu) : List Vl → Option (List D)
  | [] => some []
  | x :: xs => match rd4 μ x, rdL4 μ xs with
    | some d, some ds => some (d :: ds)
    | _, _ => none
section
variable {X : Sx} {K : PySem.W.Frag} {W : WX}
section
variable {c : C4} {F F' H H' : Hp} {μ : Mu} {σ : L2.St} {ρ : PS}
theorem rd4_rn (R : R4 c F H μ σ ρ) {x : Vl} {v : V} {d : D} (h : RV c.K F x v) (e : rd4 μ x = some d) : Rn c.K F H d v := by
  cases x with
  | d d0 =>
    obtain rfl : d0 = d := Option.some.inj e
    exact Rn.of R.sub h
  | tup xs => exact nomatch (show (none : Option D) = some d from e)
  | loc a =>
    obtain rfl : v = .ref a := h
    have e2 : (match μ a with | some (.lst vs) => (allD vs).map D.lst | _ => none) = some d := e
    cases q : μ a with
    | none => rw [q] at e2; exact nomatch e2
    | some m =>
      rw [q] at e2
      cases m with
      | lst us =>
        obtain ⟨ds, e3, rfl⟩ := Option.map_eq_some_iff.mp e2
        obtain ⟨_, ws, ea, r⟩ := R.mu a _ q
        rw [allD_is e3] at r
        exact ⟨a, ws, rfl, ea, RVs.data r⟩
      | dic _ => exact nomatch e2
      | dicT _ => exact nomatch e2
      | ins _ _ _ => exact nomatch e2
theorem rdL4_rn (R : R4 c F H μ σ ρ) : ∀ {xs : List Vl} {vs : List V} {ds : List D}, RVs c.K F xs vs → rdL4 μ xs = some ds → RnL c.K F H ds vs
  | [], vs, ds, h, e => by
    obtain rfl : [] = ds := Option.some.inj e
    exact h
  | x :: xs, vs, ds, h, e => by
    obtain ⟨v, r, rfl, q, t⟩ := h
    have e2 : (match rd4 μ x, rdL4 μ xs with | some d, some ds => some (d :: ds) | _, _ => none) = some ds := e
    cases e3 : rd4 μ x with
    | none => rw [e3] at e2; exact nomatch e2
    | some d =>
      cases e4 : rdL4 μ xs with
      | none => rw [e3, e4] at e2; exact nomatch e2
      | some es =>
        rw [e3, e4] at e2
        obtain rfl := Option.some.inj e2
        exact ⟨v, r, rfl, rd4_rn R q e3, rdL4_rn R t e4⟩
theorem allD_rp {xs : List Vl} {vs : List V} {ds : List D} (h : RVs c.K F xs vs) (e : allD xs = some ds) : RpL c.K F ds vs := by
  rw [allD_is e] at h
  exact RVs.data h
end
def qOp4 (o : O2) (pa pb : QE4) : QE4 := fun ρ μ Q => pa ρ μ fun x μ1 => pb ρ μ1 fun y μ2 => some2 (fun dx dy => o dx dy fun d => Q (.d d) μ2) (rd4 μ2 x) (rd4 μ2 y)
theorem e_op {r : R2} {o : O2} {ta tb : TE} {pa pb : QE4} (hr : LiR X r o) (h1 : E4 X ta pa) (h2 : E4 X tb pb) : E4 X (tOp r ta tb) (qOp4 o pa pb) := by
  intro c hX σ F H μ ρ Q Q4 R hq hp
  refine h1 c hX σ F H μ ρ _ _ R ?_ hp
  intro x v F1 H1 μ1 R1 s1 rv q1
  refine h2 c hX σ F1 H1 μ1 ρ _ _ R1 ?_ q1
  intro y w F2 H2 μ2 R2 s2 rw2 q2
  cases e1 : rd4 μ2 x with
  | none => rw [e1] at q2; exact q2.elim
  | some dx =>
    cases e2 : rd4 μ2 y with
    | none => rw [e1, e2] at q2; exact q2.elim
    | some dy =>
      rw [e1, e2] at q2
      exact hr (c.c3 F2 H2) hX σ F2 H2 (view ρ) v w dx dy Q _ R2.rel (rd4_rn R2 (rv.mono s2) e1) (rd4_rn R2 rw2 e2) (fun d u F' H' R' s r q => hq (.d d) u F' H' μ2 (R2.back R') (tr (tr s1 s2) s) r q) q2
/-- a new list, told as one that may be changed -/
theorem R4.newL {c : C4} {F H F' H' : Hp} {μ : Mu} {σ : L2.St} {ρ : PS} {ρ' : PSt} {p : Addr} {ds : List D} (R : R4 c F H μ σ ρ) (R' : Rel (c.c3 F H) F' H' σ ρ') (n : NewL (c.c3 F H) F' H' σ ρ' p ds) : R4 c F' H' (updM μ p (.lst (ds.map Vl.d))) σ ρ ∧ μ p = none := by
  have R2 := R.back R'
  obtain ⟨ws, hp2, hr⟩ := n.l
  have hn : H p = none := n.b.elim id (fun z => nomatch z.1)
  exact ⟨R2.own (m := .lst (ds.map Vl.d)) n.f ⟨ws, hp2, RVs.ofData hr⟩ (Or.inr (R.dom p hn)), R.mnone hn⟩
def qCB4 (o : OL) (pa : QA4) : QE4 := fun ρ μ Q => pa ρ μ fun xs μ1 => some1 (fun ds => o ds fun d => Q (.d d) μ1) (rdL4 μ1 xs)
theorem e_cb {r : List V → Hp → VK → Prop} {o : OL} {ta : TA} {pa : QA4} (hr : LiC X r o) (h1 : A4 X ta pa) : E4 X (tCB r ta) (qCB4 o pa) := by
  intro c hX σ F H μ ρ Q Q4 R hq hp
  refine h1 c hX σ F H μ ρ _ _ R ?_ hp
  intro xs vs F1 H1 μ1 R1 s1 rv q1
  cases e1 : rdL4 μ1 xs with
  | none => rw [e1] at q1; exact q1.elim
  | some ds =>
    rw [e1] at q1
    exact hr (c.c3 F1 H1) hX σ F1 H1 (view ρ) vs ds Q _ R1.rel (rdL4_rn R1 rv e1) (fun d u F' H' R' s r q => hq (.d d) u F' H' μ1 (R1.back R') (tr s1 s) r q) q1
def qCBK (o : OLN) (pa : QA4) : QE4 := fun ρ μ Q => pa ρ μ fun xs μ1 => some1 (fun ds => o ds fun es => Q (.d (.lst es)) μ1) (rdL4 μ1 xs)
theorem e_cbK {r : List V → Hp → VK → Prop} {o : OLN} {ta : TA} {pa : QA4} (hr : LiCN X r o) (h1 : A4 X ta pa) : E4 X (tCB r ta) (qCBK o pa) := by
  intro c hX σ F H μ ρ Q Q4 R hq hp
  refine h1 c hX σ F H μ ρ _ _ R ?_ hp
  intro xs vs F1 H1 μ1 R1 s1 rv q1
  cases e1 : rdL4 μ1 xs with
  | none => rw [e1] at q1; exact q1.elim
  | some ds =>
    rw [e1] at q1
    refine hr (c.c3 F1 H1) hX σ F1 H1 (view ρ) vs ds Q _ R1.rel (rdL4_rn R1 rv e1) (fun es p F' H' R' s n q => ?_) q1
    obtain ⟨us, R3, s3, rp⟩ := n.keep R'
    exact hq (.d (.lst es)) (.ref p) _ H' μ1 (R1.back R3) (tr (tr s1 s) s3) rp q
def qCBM (o : OLN) (pa : QA4) : QE4 := fun ρ μ Q => pa ρ μ fun xs μ1 => some1 (fun ds => o ds fun es => ∀ p, μ1 p = none → Q (.loc p) (updM μ1 p (.lst (es.map Vl.d)))) (rdL4 μ1 xs)
theorem e_cbM {r : List V → Hp → VK → Prop} {o : OLN} {ta : TA} {pa : QA4} (hr : LiCN X r o) (h1 : A4 X ta pa) : E4 X (tMu (tCB r ta)) (qCBM o pa) := by
  intro c hX σ F H μ ρ Q Q4 R hq hp
  refine h1 c hX σ F H μ ρ _ _ R ?_ hp
  intro xs vs F1 H1 μ1 R1 s1 rv q1
  cases e1 : rdL4 μ1 xs with
  | none => rw [e1] at q1; exact q1.elim
  | some ds =>
    rw [e1] at q1
    refine hr (c.c3 F1 H1) hX σ F1 H1 (view ρ) vs ds Q _ R1.rel (rdL4_rn R1 rv e1) (fun es p F' H' R' s n q => ?_) q1
    obtain ⟨R3, hn⟩ := R1.newL R' n
    exact hq (.loc p) (.ref p) F' H' _ R3 (tr s1 s) rfl (q p hn)
def qLstK (pa : QA4) : QE4 := fun ρ μ Q => pa ρ μ fun xs μ' => ∃ ds, allD xs = some ds ∧ ds.length ≤ sizeLine ∧ Q (.d (.lst ds)) μ'
theorem e_lstK {ta : TA} {pa : QA4} (h : A4 X ta pa) : E4 X (tLst ta) (qLstK pa) := by
  intro c hX σ F H μ ρ Q Q4 R hq hp
  refine h c hX σ F H μ ρ _ _ R ?_ hp
  rintro xs vs F' H' μ' R' s r ⟨ds, e, z, q⟩
  have rp := allD_rp r e
  refine ⟨by rw [rp.len]; exact z, fun p np => ?_⟩
  have s2 : Same F' (upd F' p (.lst vs)) := fun _ _ e => old_upd (R'.fnone np) e
  exact hq (.d (.lst ds)) (.ref p) _ _ μ' (R'.alloc np trivial) (tr s s2) ⟨p, vs, rfl, upd_same, rp.mono s2⟩ q
theorem e_lstM {ta : TA} {pa : QA4} (h : A4 X ta pa) : E4 X (tMu (tLst ta)) (qLst4 pa) := e_lst h
def qC4 (v : V) : QE4 := fun ρ μ Q => some1 (fun d => Q (.d d) μ) (vD v)
theorem e_c {v : V} : E4 X (tC v) (qC4 v) := by
  intro c hX σ F H μ ρ Q Q4 R hq h
  match v, h with
  | .non, h => exact hq (.d .non) _ F H μ R (L3.Same.refl F) rfl h
  | .bl b, h => exact hq (.d (.bl b)) _ F H μ R (L3.Same.refl F) rfl h
  | .int b, h => exact hq (.d (.int b)) _ F H μ R (L3.Same.refl F) rfl h
  | .str b, h => exact hq (.d (.str b)) _ F H μ R (L3.Same.refl F) rfl h
  | .ty b, h => exact hq (.d (.ty b)) _ F H μ R (L3.Same.refl F) rfl h
  | .byt _, h => exact h.elim
  | .flt _, h => exact h.elim
  | .ref _, h => exact h.elim
def QO4 := PS → Mu → (Option Int → Mu → Prop) → Prop
def O4 (X : Sx) (to : TO) (po : QO4) : Prop := ∀ (c : C4), c.X = X → ∀ (σ : L2.St) (F H : Hp) (μ : Mu) (ρ : PS) (Q : Option Int → Hp → Prop) (Q4 : Option Int → Mu → Prop), R4 c F H μ σ ρ →
  (∀ i F' H' μ', R4 c F' H' μ' σ ρ → Same F F' → Q4 i μ' → Q i H') → po ρ μ Q4 → to σ H Q
def qNo4 : QO4 := fun ρ μ Q => Q none μ
theorem o_none : O4 X tNoPart qNo4 := by
  intro c hX σ F H μ ρ Q Q4 R hq hp
  exact hq none F H μ R (L3.Same.refl F) hp
def isI4 (Q : Int → Prop) : Vl → Prop
  | .d (.int i) => Q i
  | _ => False
theorem isI4_is {Q : Int → Prop} : ∀ {x : Vl}, isI4 Q x → ∃ i, x = .d (.int i) ∧ Q i
  | .d (.int i), h => ⟨i, rfl, h⟩
def qSo4 (pe : QE4) : QO4 := fun ρ μ Q => pe ρ μ fun x μ1 => isI4 (fun i => Q (some i) μ1) x
theorem o_some {te : TE} {pe : QE4} (h : E4 X te pe) : O4 X (tPart te) (qSo4 pe) := by
  intro c hX σ F H μ ρ Q Q4 R hq hp
  refine h c hX σ F H μ ρ _ _ R ?_ hp
  intro x v F' H' μ' R' s rv q
  obtain ⟨i, rfl, q⟩ := isI4_is q
  exact ⟨i, rv, hq (some i) F' H' μ' R' s q⟩
def qSlK (o : D → Option Int → Option Int → (List D → Prop) → Prop) (pe : QE4) (pl ph : QO4) : QE4 := fun ρ μ Q => pe ρ μ fun x μ1 => pl ρ μ1 fun lo μ2 => ph ρ μ2 fun hi μ3 => some1 (fun dx => o dx lo hi fun ds => Q (.d (.lst ds)) μ3) (rd4 μ3 x)
theorem e_slK {r : V → Option Int → Option Int → Hp → VK → Prop} {o : D → Option Int → Option Int → (List D → Prop) → Prop} {te : TE} {tl th : TO} {pe : QE4} {pl ph : QO4} (hr : LiSlN X r o) (h1 : E4 X te pe) (h2 : O4 X tl pl) (h3 : O4 X th ph) : E4 X (L2.tSl r te tl th) (qSlK o pe pl ph) := by
  intro c hX σ F H μ ρ Q Q4 R hq hp
  refine h1 c hX σ F H μ ρ _ _ R ?_ hp
  intro x v F1 H1 μ1 R1 s1 rv q1
  refine h2 c hX σ F1 H1 μ1 ρ _ _ R1 ?_ q1
  intro lo F2 H2 μ2 R2 s2 q2
  refine h3 c hX σ F2 H2 μ2 ρ _ _ R2 ?_ q2
  intro hi F3 H3 μ3 R3 s3 q3
  cases e1 : rd4 μ3 x with
  | none => rw [e1] at q3; exact q3.elim
  | some dx =>
    rw [e1] at q3
    refine hr (c.c3 F3 H3) hX σ F3 H3 (view ρ) v dx lo hi Q _ R3.rel (rd4_rn R3 ((rv.mono s2).mono s3) e1) (fun ds p F' H' R' s n q => ?_) q3
    obtain ⟨vs, R4', s4, rp⟩ := n.keep R'
    exact hq (.d (.lst ds)) (.ref p) _ H' μ3 (R3.back R4') (tr (tr (tr (tr s1 s2) s3) s) s4) rp q
def rs4 (μ : Mu) (Q : Vl → Mu → Prop) : Rs → Prop
  | .val d => Q (.d d) μ
  | .new es => Q (.d (.lst es)) μ
theorem entry4 {c : C4} {F H : Hp} {μ : Mu} {σ : L2.St} {ρ : PS} (R : R4 c F H μ σ ρ) {vs : List V} {ds : List D} (r : RpL c.K F ds vs) : Entry c.X none F H vs ds :=
  ⟨R.sub, R.nt, R.tab, R.tabF, r.len, fun j d v e1 e2 _ => by
    obtain ⟨u, e3, q⟩ := r.get' e1
    rw [e2] at e3
    obtain rfl := Option.some.inj e3
    exact q, fun j z => nomatch z⟩
def qCall3 (P : PSp) (pa : QA4) : QE4 := fun ρ μ Q => pa ρ μ fun xs μ1 => some1 (fun ds => P ds fun r _ => rs4 μ1 Q r) (allD xs)
theorem e_call3 {P : PSp} {ta : TA} {pa : QA4} {E : XK} (h : A4 X ta pa) : E4 X (tCall (lsp X none P) [] E ta) (qCall3 P pa) := by
  intro c hX σ F H μ ρ Q Q4 R hq hp
  subst hX
  refine h c rfl σ F H μ ρ _ _ R ?_ hp
  intro xs vs F1 H1 μ1 R1 s1 rv q1
  rw [List.append_nil]
  cases e : allD xs with
  | none => rw [e] at q1; exact q1.elim
  | some ds =>
    rw [e] at q1
    have q1 : P ds fun r _ => rs4 μ1 Q4 r := q1
    refine ⟨F1, ds, _, entry4 R1 (allD_rp rv e), q1, ?_⟩
    intro r out v F2 H2 ex q
    have R2 : Rel (c.c3 F1 H1) F2 H2 [] [] := ex.step
    match r, ex.res, q with
    | .val d, rp, q => exact hq (.d d) v F2 H2 μ1 (R1.back R2) (tr s1 R2.fr) rp q
    | .new es, ⟨p, ws, e1, f, hn, hp2, hr⟩, q =>
      subst e1
      have n : NewL (c.c3 F1 H1) F2 H2 [] [] p es := ⟨⟨ws, hp2, hr⟩, f, hn, Or.inl hn, fun i f2 ds2 z => by simp at z⟩
      obtain ⟨us, R3, s3, rp⟩ := n.keep R2
      exact hq (.d (.lst es)) (.ref p) _ H2 μ1 (R1.back R3) (tr (tr s1 R2.fr) s3) rp q
end
end L4
namespace L4
open PySem PySem.Spec PyProof.Rows L2 TB LamX L3
section
variable {X : Sx} {K : PySem.W.Frag} {W : WX}
/-- d is an instance of C without an own m -/
def InsD (K : PySem.W.Frag) (C : Addr) (m : Str) (d : D) : Prop := ∀ F v, Rp K F d v → ∃ a dx fs, v = .ref a ∧ F a = some (.ins C dx fs) ∧ fs.lookup m = none
theorem look_none {m : Str} : ∀ {ns : List Str} {vs : List V}, m ∉ ns → (ns.zip vs).lookup m = none
  | [], vs, _ => rfl
  | n :: ns, [], _ => rfl
  | n :: ns, v :: vs, h => by
    rw [List.zip_cons_cons, List.lookup_cons]
    cases c : (m == n) with
    | true => exact absurd (beq_iff_eq.mp c) (fun e => h (by rw [e]; exact List.mem_cons_self))
    | false => exact look_none (fun z => h (List.mem_cons_of_mem _ z))
theorem InsD.ins {C : Addr} {m : Str} {ns : List Str} {ds : List D} (h : m ∉ ns) : InsD K C m (.ins C ns ds) := by
  rintro F v ⟨a, dx, vs, rfl, q, _, r⟩
  exact ⟨a, dx, _, rfl, q, look_none h⟩
def qMeth3 (K : PySem.W.Frag) (C : Addr) (m : Str) (P : PSp) (pe : QE4) (pa : QA4) : QE4 := fun ρ μ Q => pe ρ μ fun x μ1 => ∃ d, x = .d d ∧ InsD K C m d ∧ pa ρ μ1 fun xs μ2 => some1 (fun ds => P (d :: ds) fun r _ => rs4 μ2 Q r) (allD xs)
theorem e_meth3 {C : Addr} {m : Str} {P : PSp} {te : TE} {ta : TA} {pe : QE4} {pa : QA4} {E : XK} (h0 : E4 X te pe) (h : A4 X ta pa) (hK : X.K = K := by rfl) : E4 X (tMeth C m (lsp X none P) [] E te ta) (qMeth3 K C m P pe pa) := by
  subst hK
  intro c hX σ F H μ ρ Q Q4 R hq hp
  subst hX
  refine h0 c rfl σ F H μ ρ _ _ R ?_ hp
  rintro x v F1 H1 μ1 R1 s1 rv ⟨d, rfl, hd, q1⟩
  have rv : Rp c.K F1 d v := rv
  obtain ⟨a, dx, fs, rfl, ea, el⟩ := hd F1 v rv
  refine ⟨a, dx, fs, rfl, R1.sub _ _ ea, el, ?_⟩
  refine h c rfl σ F1 H1 μ1 ρ _ _ R1 ?_ q1
  intro xs vs F2 H2 μ2 R2 s2 rv2 q2
  rw [List.append_nil]
  cases e : allD xs with
  | none => rw [e] at q2; exact q2.elim
  | some ds =>
    rw [e] at q2
    have q2 : P (d :: ds) fun r _ => rs4 μ2 Q4 r := q2
    have r2 : RpL c.K F2 (d :: ds) (V.ref a :: vs) := ⟨_, _, rfl, Rp.mono s2 rv, allD_rp rv2 e⟩
    refine ⟨F2, d :: ds, _, entry4 R2 r2, q2, ?_⟩
    intro r out v F3 H3 ex q
    have R3 : Rel (c.c3 F2 H2) F3 H3 [] [] := ex.step
    have s3 : Same F F2 := tr s1 s2
    match r, ex.res, q with
    | .val d, rp, q => exact hq (.d d) v F3 H3 μ2 (R2.back R3) (tr s3 R3.fr) rp q
    | .new es, ⟨p, ws, e1, f, hn, hp2, hr⟩, q =>
      subst e1
      have n : NewL (c.c3 F2 H2) F3 H3 [] [] p es := ⟨⟨ws, hp2, hr⟩, f, hn, Or.inl hn, fun i f2 ds2 z => by simp at z⟩
      obtain ⟨us, R4', s4, rp⟩ := n.keep R3
      exact hq (.d (.lst es)) (.ref p) _ H3 μ2 (R2.back R4') (tr (tr s3 R3.fr) s4) rp q
end
end L4
namespace L4
open PySem PySem.Spec PyProof.Rows L2 TB LamX L3
section
variable {X : Sx} {K : PySem.W.Frag} {W : WX}
/-- what defaults are -/
def DvOk (K : PySem.W.Frag) (dv : List D) (dvs : List V) : Prop := ∀ F, RpL K F dv dvs
theorem DvOk.nil : DvOk K [] [] := fun _ => rfl
theorem DvOk.non : DvOk K [.non] [.non] := fun _ => ⟨_, _, rfl, rfl, rfl⟩
def wipe4 (ρ : PS) : List Nat → PS
  | [] => ρ
  | v :: vs => (wipe4 ρ vs).set v none
theorem wipe4_len (ρ : PS) : ∀ vs, (wipe4 ρ vs).length = ρ.length
  | [] => rfl
  | v :: vs => by rw [wipe4, List.length_set, wipe4_len ρ vs]
theorem wipe4_get {ρ : PS} {i : Nat} {x : Vl} : ∀ {vs : List Nat}, (wipe4 ρ vs)[i]? = some (some x) → ρ[i]? = some (some x) ∧ i ∉ vs
  | [], h => ⟨h, by simp⟩
  | v :: vs, h => by
    unfold wipe4 at h
    by_cases hi : v = i
    · subst hi
      by_cases hv : v < (wipe4 ρ vs).length
      · rw [List.getElem?_set_self hv] at h
        exact nomatch (Option.some.inj h)
      · rw [List.getElem?_eq_none (by simpa using hv)] at h; cases h
    · rw [List.getElem?_set_ne hi] at h
      obtain ⟨h1, h2⟩ := wipe4_get h
      exact ⟨h1, by simp only [List.mem_cons, not_or]; exact ⟨fun e => hi e.symm, h2⟩⟩
theorem R4.wipe {c : C4} {F H : Hp} {μ : Mu} {σ : L2.St} {ρ : PS} (R : R4 c F H μ σ ρ) (vs : List Nat) : R4 c F H μ (L2.wipe σ vs) (wipe4 ρ vs) := by
  refine ⟨by rw [wipe_length, wipe4_len]; exact R.len, R.sub, fun i x h => ?_, R.mu, R.mf, R.nt, R.tab, R.tabF, R.fr, R.kp, R.dom, R.nw⟩
  obtain ⟨h1, h2⟩ := wipe4_get h
  rw [wipe_out' h2]
  exact R.slot i x h1
/-- a turn: the item x, what is kept -/
def LcP4 (k : Wk) (g : QG4) (pt : QT4) (pe : QE4) (vs : List Nat) (ρ0 : PS) (μ0 : Mu) (Q : List Vl → Mu → Prop) : Prop := ∃ I : Nat → List Vl → Mu → Prop, I 0 [] μ0 ∧ ∀ i acc μ, I i acc μ → k.ok μ ∧ (k.vs[i]? = none → Q acc μ) ∧
  ∀ x, k.vs[i]? = some x → g x (wipe4 ρ0 vs) μ fun ρ2 μ2 => pt ρ2 μ2 fun b μ3 => if b = true then pe ρ2 μ3 fun y μ4 => acc.length < sizeLine ∧ I (i + 1) (acc ++ [y]) μ4 else I (i + 1) acc μ3
def qLcK (pi : QI4) (g : QG4) (pt : QT4) (pe : QE4) (vs : List Nat) : QE4 := fun ρ μ Q => pi ρ μ fun k μ1 => LcP4 k g pt pe vs ρ μ1 fun acc μ2 => ∃ ds, allD acc = some ds ∧ Q (.d (.lst ds)) μ2
/-- the list at A in the making: nobody's -/
structure Mkg (c : C4) (F H : Hp) (μ : Mu) (A : Addr) (acc : List Vl) : Prop where
  l : ∃ ws, H A = some (.lst ws) ∧ RVs c.K F acc ws
  f : F A = none
  m : μ A = none
  b : c.H0 A = none
theorem lc_run {wi : TI} {g : TG} {tt : TT} {te : TE} {vs : List Nat} {pi : QI4} {pg : QG4} {pt : QT4} {pe : QE4} {t : List Nat} (h0 : I4 X wi pi) (h1 : G4 X g pg t) (h2 : T4 X tt pt) (h3 : E4 X te pe) (ht : ∀ i ∈ t, i ∈ vs)
    {c : C4} (hX : c.X = X) {σ : L2.St} {F H : Hp} {μ : Mu} {ρ : PS} {Q : VK} {Q4 : List Vl → Mu → Prop} (R : R4 c F H μ σ ρ) (hq : ∀ acc A F' H' μ', R4 c F' H' μ' σ ρ → Same F F' → Mkg c F' H' μ' A acc → Q4 acc μ' → Q (.ref A) H')
    (h : pi ρ μ fun k μ1 => LcP4 k pg pt pe vs ρ μ1 Q4) : tLc wi g tt te vs σ H Q := by
  refine h0 c hX σ F H μ ρ _ _ R ?_ h
  rintro k J F1 H1 μ1 R1 s1 wd ⟨I, w0, turn⟩
  intro A nA
  have RA := R1.allocH (o := .lst []) nA trivial
  have mA : Mkg c F1 (upd H1 A (.lst [])) μ1 A [] := ⟨⟨[], upd_same, rfl⟩, R1.fnone nA, R1.mnone nA, R1.dom A nA⟩
  refine ⟨fun i m H' => m = k.vs.length - i ∧ ∃ F' μ' acc, R4 c F' H' μ' σ ρ ∧ Same F1 F' ∧ Mkg c F' H' μ' A acc ∧ I i acc μ', ⟨_, rfl, F1, μ1, [], RA, L3.Same.refl F1, mA, w0⟩, ?_⟩
  rintro i m H2 ⟨rfl, F2, μ2, acc, R2, s2, n2, w2⟩
  obtain ⟨ok, t1, t2⟩ := turn i acc μ2 w2
  have R2h := R2.here
  have hXh : (c.at F2 H2 μ2).X = X := hX
  obtain ⟨ws, hA2, rA2⟩ := n2.l
  have ntb : NoTb4 c.X A := R2.notab hA2 (fun ps => by simp)
  obtain ⟨d1, d2⟩ := wd i _ σ F2 H2 μ2 ρ hXh s2 R2h ok
  cases e1 : k.vs[i]? with
  | none => exact Or.inl ⟨d2 e1, hq acc A F2 H2 μ2 R2 (tr s1 s2) n2 (t1 e1)⟩
  | some x =>
    obtain ⟨go, yl⟩ := d1 x e1
    have hlt := (List.getElem?_eq_some_iff.mp e1).1
    refine Or.inr ⟨go, fun H' => ∃ F' μ' acc, R4 c F' H' μ' σ ρ ∧ Same F1 F' ∧ Mkg c F' H' μ' A acc ∧ I (i + 1) acc μ', fun H' ⟨F', μ', acc', R', s', n', w'⟩ => ⟨k.vs.length - (i + 1), by omega, rfl, F', μ', acc', R', s', n', w'⟩, ?_⟩
    intro v H3 hy
    obtain ⟨F3, R3, s3, rp⟩ := yl v H3 hy
    have Rw := R3.wipe vs
    have after : ∀ {F4 H4 : Hp} {μ4 : Mu} {σ4 : L2.St} {ρ4 : PS}, R4 (c.at F2 H2 μ2) F4 H4 μ4 σ4 ρ4 → R4 c F4 H4 μ4 σ ρ ∧ Mkg c F4 H4 μ4 A acc ∧ Same F2 F4 := by
      intro F4 H4 μ4 σ4 ρ4 R4'
      have sF : Same F2 F4 := R4'.fr
      have RR := R2.slots R4'
      have hA4 : H4 A = some (.lst ws) := R4'.kp A _ hA2 n2.m ntb
      refine ⟨RR, ⟨⟨ws, hA4, rA2.mono sF⟩, ?_, ?_, n2.b⟩, sF⟩
      · cases e : F4 A with
        | none => rfl
        | some o =>
          rcases R4'.nw A o e with z | z | z | z
          · have z2 : F2 A = some o := z
            rw [n2.f] at z2; exact nomatch z2
          · have z2 : H2 A = none := z
            rw [hA2] at z2; exact nomatch z2
          · exact absurd n2.m z
          · have z2 := R4'.sub _ _ e
            rw [hA4] at z2
            cases z2
            exact z.elim
      · cases e : μ4 A with
        | none => rfl
        | some mm =>
          rcases R4'.mf A mm e with z | z
          · exact absurd n2.m z
          · have z2 : H2 A = none := z
            rw [hA2] at z2; exact nomatch z2
    refine h1 _ hXh (L2.wipe σ vs) F3 H3 μ2 (wipe4 ρ vs) x v _ _ Rw (by rw [← hX] at rp; exact rp) ?_ (t2 x e1)
    intro ρ4 σ4 F4 H4 μ4 R4' s4 l4 o4 q4
    have hw4 : L2.wipe σ4 vs = L2.wipe σ vs := by
      refine wipe_eq (by rw [l4, wipe_length]) (fun j hj => ?_)
      rw [o4 j (fun z => hj (ht j z))]
    refine ⟨hw4, ?_⟩
    refine h2 _ hXh σ4 F4 H4 μ4 ρ4 _ _ R4' ?_ q4
    intro b F5 H5 μ5 R5 s5 q5
    cases b with
    | false =>
      obtain ⟨R6, n6, s6⟩ := after R5
      exact ⟨F5, μ5, acc, R6, tr s2 s6, n6, q5⟩
    | true =>
      refine h3 _ hXh σ4 F5 H5 μ5 ρ4 _ _ R5 ?_ q5
      rintro y u F6 H6 μ6 R6 s6 ru ⟨hz, q6⟩
      obtain ⟨R7, n7, s7⟩ := after R6
      obtain ⟨us, hA7, rA7⟩ := n7.l
      have rA8 : RVs c.K F6 (acc ++ [y]) (us ++ [u]) := rA7.app (RVs.one ru)
      have R8 : R4 c F6 (upd H6 A (.lst (us ++ [u]))) μ6 σ ρ := by
        have R9 := (R7.own (m := .lst acc) n7.f ⟨us, hA7, rA7⟩ (Or.inr n7.b)).mutL updM_same rA8
        refine ⟨R9.len, R9.sub, R9.slot, fun b m e => ?_, R7.mf, R9.nt, R9.tab, R9.tabF, R9.fr, R9.kp, R9.dom, R9.nw⟩
        have ne : b ≠ A := fun z => by rw [z, n7.m] at e; exact nomatch e
        have e2 : updM (updM μ6 A (.lst acc)) A (.lst (acc ++ [y])) b = some m := by rw [updM_ne ne, updM_ne ne]; exact e
        exact R9.mu b m e2
      exact ⟨us, hA7, by rw [rA7.len]; exact hz, F6, μ6, acc ++ [y], R8, tr s2 s7, ⟨⟨us ++ [u], upd_same, rA8⟩, n7.f, n7.m, n7.b⟩, q6⟩
theorem e_lcK {wi : TI} {g : TG} {tt : TT} {te : TE} {vs : List Nat} {pi : QI4} {pg : QG4} {pt : QT4} {pe : QE4} {t : List Nat} (h0 : I4 X wi pi) (h1 : G4 X g pg t) (h2 : T4 X tt pt) (h3 : E4 X te pe) (ht : ∀ i ∈ t, i ∈ vs) : E4 X (tLc wi g tt te vs) (qLcK pi pg pt pe vs) := by
  intro c hX σ F H μ ρ Q Q4 R hq h
  refine lc_run h0 h1 h2 h3 ht hX R ?_ h
  rintro acc A F' H' μ' R' s n ⟨ds, e, q⟩
  obtain ⟨ws, hA, rA⟩ := n.l
  have hm : allD acc = some ds := e
  obtain ⟨us, R3, s3, rp⟩ := (R'.own (m := .lst (ds.map Vl.d)) n.f ⟨ws, hA, by rw [← allD_is hm]; exact rA⟩ (Or.inr n.b)).freezeL updM_same
  refine hq (.d (.lst ds)) (.ref A) _ H' μ' ⟨R3.len, R3.sub, R3.slot, fun b m e => ?_, R'.mf, R3.nt, R3.tab, R3.tabF, R3.fr, R3.kp, R3.dom, R3.nw⟩ (tr s s3) rp q
  have ne : b ≠ A := fun z => by rw [z, n.m] at e; exact nomatch e
  exact R3.mu b m (by rw [delM_ne ne, updM_ne ne]; exact e)
end
end L4
namespace L4
open PySem PySem.Spec PyProof.Rows L2 TB LamX L3
theorem szN {n : Nat} (h : n ≤ 1000000) : n ≤ sizeLine := by rw [sizeLine_eq]; omega
theorem szL {n : Nat} (h : n < 1000000) : n < sizeLine := by rw [sizeLine_eq]; omega
def tupK (xs : List Vl) (F : Vl → Prop) : Prop := xs.length ≤ sizeLine ∧ F (mkTup xs)
section
variable {K : PySem.W.Frag} {P : P4} {ρ : PS} {μ : Mu} {Q : Vl → Mu → Prop} {QT : Bool → Mu → Prop} {QA : List Vl → Mu → Prop} {QO : Option Int → Mu → Prop} {QG : PS → Mu → Prop} {p q : QS4} {pe pb po pd pk pv : QE4} {pa : QA4} {pt pu : QT4} {g : QG4} {gs : QGs4} {pi : QI4} {i j : Nat} {x y : Vl} {d : D} {C : Addr}
theorem v_next (h : P.nx ρ μ) : sNext4 P ρ μ := h
theorem v_seq (h : p { P with nx := q P } ρ μ) : sSeq4 p q P ρ μ := h
theorem v_drop (h : pe ρ μ fun _ μ' => P.nx ρ μ') : sDrop4 pe P ρ μ := h
theorem v_ret (h : pe ρ μ fun x μ' => P.rt x μ') : sRet4 pe P ρ μ := h
theorem v_ifs (h : pt ρ μ fun b μ1 => if b = true then p P ρ μ1 else q P ρ μ1) : sIf4 pt p q P ρ μ := h
theorem v_asg (h : pe ρ μ fun x μ1 => g x ρ μ1 P.nx) : sAsg4 pe g P ρ μ := h
theorem v_for (h : pi ρ μ fun k μ1 => For4 k g p P ρ μ1) : sFor4 pi g p P ρ μ := h
theorem v_name (h : QG (ρ.set i (some x)) μ) : gName4 i x ρ μ QG := h
theorem v_gnil (h : QG ρ μ) : gNil4 [] ρ μ QG := ⟨rfl, h⟩
theorem v_gcons {xs : List Vl} (h : g x ρ μ fun ρ' μ' => gs xs ρ' μ' QG) : gCons4 g gs (x :: xs) ρ μ QG := ⟨x, xs, rfl, h⟩
theorem v_gtup {n : Nat} {xs : List Vl} (e : tupOf x = some xs) (hn : xs.length = n) (h : gs xs ρ μ QG) : gTup4 n gs x ρ μ QG := ⟨xs, e, hn, h⟩
theorem v_var (e : ρ[i]? = some (some x)) (h : Q x μ) : qVar4 i ρ μ Q := ⟨x, e, h⟩
theorem v_c {v : V} {d : D} (e : vD v = some d) (h : Q (.d d) μ) : qC4 v ρ μ Q := by
  show some1 _ (vD v)
  rw [e]
  exact h
theorem v_nil (h : QA [] μ) : aNil ρ μ QA := h
theorem v_cons (h : pe ρ μ fun x μ1 => pa ρ μ1 fun xs μ2 => QA (x :: xs) μ2) : aCons pe pa ρ μ QA := h
theorem v_tup (h : pa ρ μ fun xs μ' => tupK xs fun v => Q v μ') : qTup4 pa ρ μ Q := h
theorem v_tupD {xs : List Vl} {ds : List D} {F : Vl → Prop} (e : allD xs = some ds) (hz : xs.length ≤ 1000000) (h : F (.d (.tup ds))) : tupK xs F := ⟨szN hz, by unfold mkTup; rw [e]; exact h⟩
theorem v_lstK (h : pa ρ μ fun xs μ' => ∃ ds, allD xs = some ds ∧ ds.length ≤ sizeLine ∧ Q (.d (.lst ds)) μ') : qLstK pa ρ μ Q := h
theorem v_lstD {xs : List Vl} {ds : List D} {F : List D → Prop} (e : allD xs = some ds) (hz : ds.length ≤ 1000000) (h : F ds) : ∃ ds, allD xs = some ds ∧ ds.length ≤ sizeLine ∧ F ds := ⟨ds, e, szN hz, h⟩
theorem v_lst (h : pa ρ μ fun xs μ' => xs.length ≤ sizeLine ∧ ∀ p, μ' p = none → Q (.loc p) (updM μ' p (.lst xs))) : qLst4 pa ρ μ Q := h
theorem v_test (h : pe ρ μ fun x μ' => isB4 (fun b => QT b μ') x) : qTest4 pe ρ μ QT := h
theorem v_isB {F : Bool → Prop} {b : Bool} (h : F b) : isB4 F (.d (.bl b)) := h
theorem v_isI {F : Int → Prop} {b : Int} (h : F b) : isI4 F (.d (.int b)) := h
theorem v_and (h : pt ρ μ fun b μ1 => if b = true then pu ρ μ1 QT else QT false μ1) : qAnd4 pt pu ρ μ QT := h
theorem v_or (h : pt ρ μ fun b μ1 => if b = true then QT true μ1 else pu ρ μ1 QT) : qOr4 pt pu ρ μ QT := h
theorem v_not (h : pt ρ μ fun b μ1 => QT (!b) μ1) : qNot4 pt ρ μ QT := h
theorem v_yes (h : QT true μ) : qYes4 ρ μ QT := h
theorem v_op {o : O2} (h : pe ρ μ fun x μ1 => pb ρ μ1 fun y μ2 => some2 (fun dx dy => o dx dy fun d => Q (.d d) μ2) (rd4 μ2 x) (rd4 μ2 y)) : qOp4 o pe pb ρ μ Q := h
theorem v_cb {o : OL} (h : pa ρ μ fun xs μ1 => some1 (fun ds => o ds fun d => Q (.d d) μ1) (rdL4 μ1 xs)) : qCB4 o pa ρ μ Q := h
theorem v_cbK {o : OLN} (h : pa ρ μ fun xs μ1 => some1 (fun ds => o ds fun es => Q (.d (.lst es)) μ1) (rdL4 μ1 xs)) : qCBK o pa ρ μ Q := h
theorem v_cbM {o : OLN} (h : pa ρ μ fun xs μ1 => some1 (fun ds => o ds fun es => ∀ p, μ1 p = none → Q (.loc p) (updM μ1 p (.lst (es.map Vl.d)))) (rdL4 μ1 xs)) : qCBM o pa ρ μ Q := h
theorem v_none (h : QO none μ) : qNo4 ρ μ QO := h
theorem v_some (h : pe ρ μ fun x μ1 => isI4 (fun i => QO (some i) μ1) x) : qSo4 pe ρ μ QO := h
theorem v_slK {o : D → Option Int → Option Int → (List D → Prop) → Prop} {pl ph : QO4} (h : pe ρ μ fun x μ1 => pl ρ μ1 fun lo μ2 => ph ρ μ2 fun hi μ3 => some1 (fun dx => o dx lo hi fun ds => Q (.d (.lst ds)) μ3) (rd4 μ3 x)) : qSlK o pe pl ph ρ μ Q := h
theorem v_call {S : PSp4} (h : pa ρ μ fun xs μ1 => S xs μ1 Q (fun _ _ => False)) : qCall4 S pa ρ μ Q := h
theorem v_call3 {S : PSp} (h : pa ρ μ fun xs μ1 => some1 (fun ds => S ds fun r _ => rs4 μ1 Q r) (allD xs)) : qCall3 S pa ρ μ Q := h
theorem v_rsV (h : Q (.d d) μ) : rs4 μ Q (.val d) := h
theorem v_rsN {ds : List D} (h : Q (.d (.lst ds)) μ) : rs4 μ Q (.new ds) := h
theorem v_meth3 {m : Str} {S : PSp} (h : pe ρ μ fun x μ1 => ∃ d, x = .d d ∧ InsD K C m d ∧ pa ρ μ1 fun xs μ2 => some1 (fun ds => S (d :: ds) fun r _ => rs4 μ2 Q r) (allD xs)) : qMeth3 K C m S pe pa ρ μ Q := h
theorem v_lcK {vs : List Nat} (h : pi ρ μ fun k μ1 => LcP4 k g pt pe vs ρ μ1 fun acc μ2 => ∃ ds, allD acc = some ds ∧ Q (.d (.lst ds)) μ2) : qLcK pi g pt pe vs ρ μ Q := h
theorem v_bm {r : OM} (h : pe ρ μ fun x μ1 => ∃ a, x = .loc a ∧ (∃ vs0, μ1 a = some (.lst vs0)) ∧ pa ρ μ1 fun xs μ2 => ∃ vs, μ2 a = some (.lst vs) ∧ r vs xs fun y vs' => Q y (updM μ2 a (.lst vs'))) : qBM4 r pe pa ρ μ Q := h
theorem v_some2 {F : D → D → Prop} {a b : Option D} {dx dy : D} (e1 : a = some dx) (e2 : b = some dy) (h : F dx dy) : some2 F a b := by
  rw [e1, e2]
  exact h
theorem v_some1 {α : Type} {F : α → Prop} {a : Option α} {dx : α} (e1 : a = some dx) (h : F dx) : some1 F a := by
  rw [e1]
  exact h
/-- for: by its data -/
theorem v_for3 {ds : List D} (h : ∃ I : Nat → PS → Mu → Prop, I 0 ρ μ ∧ ∀ i ρ μ, I i ρ μ → (ds[i]? = none → P.nx ρ μ) ∧ ∀ d, ds[i]? = some d → g (.d d) ρ μ fun ρ1 μ1 => p { P with nx := I (i + 1), ct := I (i + 1), bk := P.nx } ρ1 μ1) : For4 ⟨ds.map Vl.d, fun _ => True⟩ g p P ρ μ := by
  obtain ⟨I, h0, h⟩ := h
  refine ⟨I, h0, fun i ρ μ hi => ⟨trivial, fun e => (h i ρ μ hi).1 ?_, fun x e => ?_⟩⟩
  · have e : (ds.map Vl.d)[i]? = none := e
    rw [List.getElem?_map] at e
    exact Option.map_eq_none_iff.mp e
  · have e : (ds.map Vl.d)[i]? = some x := e
    rw [List.getElem?_map] at e
    obtain ⟨d, e1, rfl⟩ := Option.map_eq_some_iff.mp e
    exact (h i ρ μ hi).2 d e1
theorem v_it3 {pq : QI} {R : Wk → Mu → Prop} (h : pq (view ρ) fun ds _ => R ⟨ds.map Vl.d, fun _ => True⟩ μ) : it3 pq ρ μ R := h
theorem allD_map (ds : List D) : allD (ds.map Vl.d) = some ds := by
  induction ds with
  | nil => rfl
  | cons d r ih =>
    show (allD (r.map Vl.d)).map (d :: ·) = some (d :: r)
    rw [ih]
    rfl
end
end L4
namespace L4
open PySem PySem.Spec PyProof.Rows L2 TB LamX L3
section
variable {K : PySem.W.Frag} {ρ : PS} {μ : Mu} {Q : Vl → Mu → Prop} {pe pb : QE4}
theorem v_ix {of : Mu → Vl → Option (List Vl)} (h : pe ρ μ fun x μ1 => pb ρ μ1 fun y μ2 => ∃ (vs : List Vl) (k : Int) (z : Vl), of μ2 x = some vs ∧ y = .d (.int k) ∧ atI vs k = some z ∧ Q z μ2) : qIx4 of pe pb ρ μ Q := h
theorem atI_mapV {ds : List D} {k : Int} {d : D} (h : atI ds k = some d) : atI (ds.map Vl.d) k = some (.d d) := by
  unfold atI at h ⊢
  rw [List.length_map]
  cases q : ixN ds.length k with
  | none => rw [q] at h; exact nomatch h
  | some j =>
    rw [q] at h
    show (ds.map Vl.d)[j]? = _
    rw [List.getElem?_map, show ds[j]? = some d from h]
    rfl
end
end L4
namespace L4
open PySem PySem.Spec PyProof.Rows L2 TB LamX L3
end L4
namespace L4
open PySem PySem.Spec PyProof.Rows L2 TB LamX L3
theorem v_szA {n : Nat} {B : Prop} (hz : n ≤ 1000000) (h : B) : n ≤ sizeLine ∧ B := ⟨szN hz, h⟩
end L4
namespace L3
open PySem PySem.Spec PyProof.Rows L2 TB LamX
end L3
namespace L3
open PySem PySem.Spec PyProof.Rows L2 TB LamX
end L3
namespace L4
open PySem PySem.Spec PyProof.Rows L2 TB LamX L3
end L4
namespace L2
open PySem PySem.Spec PyProof.Rows TB
section
variable {X : Cx}
def rMulS : R2 := fun x y H Q => ∃ (z : Str) (n : Int), x = .str z ∧ y = .int n ∧ z.length ≤ 100 ∧ 0 ≤ n ∧ n ≤ 1000 ∧ Q (.str (Txt.mul z n)) H
theorem op_mulS : OpR X (binaryOp .Mult) rMulS := by
  intro pins s σ H x y v u Q I rx ry h
  obtain ⟨z, n, rfl, rfl, hz, h0, h1, q⟩ := h
  obtain ⟨t, rfl⟩ := rx
  obtain ⟨t2, rfl⟩ := ry
  exact SB.mul (mulOk_of 100 1000 hz h1 (by omega) (by decide) (by decide)) fun t' k => ⟨.str _, H, I.tok k, ⟨_, rfl⟩, q⟩
def rUp : V → List V → Hp → VK → Prop := fun x xs H Q => ∃ a, x = .str a ∧ xs = [] ∧ a.length ≤ 5592405 ∧ Q (.str (Txt.upper a)) H
theorem pe_upperK {o : Expr} {to : TE} {apos pos : Pos} (ho : PE X o to) (hbase : attributeBase o "upper" X.env (eval o X.env) = eval o X.env := by rfl) (hline : (apos.endLine == pos.line) = true := by rfl) :
    PE X (.Call (.Attribute o "upper" apos) [] [] pos) (tM0 rUp to) := pe_upper ho hbase hline
def tD1 (z : Str) (n : Int) : TE := fun σ H Q => ∀ p, H p = none → Q (.ref p) (upd H p (.dK [(.inr z, .int n)]))
theorem pe_d1 {z : Str} {n : Int} {j1 j2 : Nat} {p1 p2 pos : Pos} : PE X (.Dict [some (.Constant (.str z) j1 p1)] [.Constant (.int n) j2 p2] pos) (tD1 z n) :=
  ⟨fun pins s σ H Q I h => (pe_disp (pps_cons (pe_str (x := z)) (pe_int (i := n)) pps_nil) rfl rfl (by simp) (by show 1 ≤ 15; decide)).run pins s σ H Q I fun p hp => by
    refine ⟨upd_same, [(.inr z, .int n)], rfl, by show 1 ≤ 15; decide, ?_⟩
    have := h p hp
    rw [upd_upd]
    exact this⟩
end
end L2
namespace L3
open PySem PySem.Spec PyProof.Rows L2 TB LamX
section
variable {X : Sx} {K : PySem.W.Frag}
def oMulS : O2 := fun dx dy Q => ∃ (z : Str) (n : Int), dx = .str z ∧ dy = .int n ∧ z.length ≤ 100 ∧ 0 ≤ n ∧ n ≤ 1000 ∧ Q (.str (Txt.mul z n))
theorem lr_mulS : LiR X rMulS oMulS := by
  intro c hX σ F H ρ x y dx dy Q Q3 R rx ry hq h
  obtain ⟨z, n, rfl, rfl, hz, h0, h1, q⟩ := h
  exact ⟨z, n, rx, ry, hz, h0, h1, hq (.str _) _ F H R (Same.refl F) rfl q⟩
theorem w_mulS {z : Str} {n : Int} {Q : D → Prop} (hz : z.length ≤ 100) (h0 : 0 ≤ n) (h1 : n ≤ 1000) (h : Q (.str (Txt.mul z n))) : oMulS (.str z) (.int n) Q := ⟨z, n, rfl, rfl, hz, h0, h1, h⟩
def qD1 (z : Str) (n : Int) : QD := fun ρ Q => Q (.dic [.inr z] [.int n]) ρ
theorem li_d1 {z : Str} {n : Int} : LiD X (tD1 z n) (qD1 z n) := by
  intro c hX σ F H ρ Q Q3 R hq h p np
  have s : Same F (upd F p (.dK [(.inr z, .int n)])) := fun _ _ e => old_upd (R.fnone np) e
  exact hq (.dic [.inr z] [.int n]) ρ (.ref p) _ _ (R.alloc np trivial) s ⟨p, [.int n], rfl, upd_same, ⟨_, _, rfl, rfl, rfl⟩⟩ h
theorem w_d1 {z : Str} {n : Int} {ρ : PSt} {Q : D → PSt → Prop} (h : Q (.dic [.inr z] [.int n]) ρ) : qD1 z n ρ Q := h
def qUp (pa : QE) : QE := fun ρ Q => pa ρ fun x ρ1 => ∃ a : Str, x = .val (.str a) ∧ a.length ≤ 5592405 ∧ Q (.val (.str (Txt.upper a))) ρ1
theorem li_up {ta : TE} {pa : QE} (h1 : LiE X ta pa) : LiE X (tM0 rUp ta) (qUp pa) := by
  intro c hX σ F H ρ Q Q3 R hq h
  refine h1 c hX σ F H ρ _ _ R ?_ h
  rintro x ρ1 v F1 H1 R1 s1 rv ⟨a, rfl, hz, q⟩
  obtain rfl : v = .str a := rv
  exact ⟨⟨a, rfl⟩, a, rfl, rfl, hz, hq (.val (.str _)) _ _ F1 H1 R1 s1 rfl q⟩
theorem w_up {pa : QE} {ρ : PSt} {Q : Rv → PSt → Prop} (h : pa ρ fun x ρ1 => ∃ a : Str, x = .val (.str a) ∧ a.length ≤ 5592405 ∧ Q (.val (.str (Txt.upper a))) ρ1) : qUp pa ρ Q := h
end
end L3
namespace L3
open PySem PySem.Spec PyProof.Rows L2 TB LamX
/-- what is no part of a plan -/
inductive Od : D → Prop
  | it {d : D} : It d → Od d
  | dic : Od (.dic [.inr "a"] [.int 1])
theorem Od.shw {d : D} (h : Od d) : Shw 1 9000 d := by
  cases h with
  | dic => exact ⟨.dict [(.str "a", .int 1)], rfl, by decide +kernel, by decide +kernel, by decide +kernel⟩
  | it h => exact h.pd
/-- a part of a spoilt deed -/
inductive Im : D → Prop
  | od {d : D} : Od d → Im d
  | num {i : Int} : i.natAbs < 10 ^ 19 → Im (.int i)
  | deed {d : Dd} {ls ns : List Str} : d.ok ls ns → (∀ z ∈ ls, Nm z) → (∀ z ∈ ns, Nm z) → Im (ddD d)
theorem Im.str {z : Str} (h : Sg z) : Im (.str z) := .od (.it (.str h))
theorem sg_lit {z : Str} (h : z.length ≤ 100 ∧ (z.cps.toList.all fun c => decide (c < 1114112)) = true) : Sg z := ⟨h.1, fun c hc => of_decide_eq_true (List.all_eq_true.mp h.2 c hc)⟩
theorem dd_sg (d : Dd) : Sg d.w := by
  have go : ∀ w ∈ (["set", "add", "take", "read", "write", "skip", "quit"] : List Str), Sg w := by
    intro w hw
    refine sg_lit ?_
    have : ∀ w ∈ (["set", "add", "take", "read", "write", "skip", "quit"] : List Str), w.length ≤ 100 ∧ (w.cps.toList.all fun c => decide (c < 1114112)) = true := by decide +kernel
    exact this w hw
  refine go _ ?_
  cases d <;> simp [Dd.w]
theorem far_lt {n : Int} (h : -far ≤ n ∧ n ≤ far) : n.natAbs < 10 ^ 19 := by
  have e : far = 1000000000000000000 := by decide
  rw [e] at h
  have e2 : (10 : Nat) ^ 19 = 10000000000000000000 := by decide
  rw [e2]
  omega
/-- the parts of a deed -/
theorem dd_im {d : Dd} {ls ns : List Str} (h : d.ok ls ns) (h1 : ∀ z ∈ ls, Nm z) (h2 : ∀ z ∈ ns, Nm z) : ∀ x ∈ (D.str d.w :: d.ps), (∃ z, x = .str z ∧ Sg z) ∨ ∃ i : Int, x = .int i ∧ i.natAbs < 10 ^ 19 := by
  intro x hx
  rcases List.mem_cons.mp hx with rfl | hx
  · exact Or.inl ⟨_, rfl, dd_sg d⟩
  · cases d with
    | set n => rw [List.mem_singleton.mp hx]; exact Or.inr ⟨_, rfl, far_lt h⟩
    | add n => rw [List.mem_singleton.mp hx]; exact Or.inr ⟨_, rfl, far_lt h⟩
    | take l => rw [List.mem_singleton.mp hx]; exact Or.inl ⟨_, rfl, Nm.sg (h1 _ h)⟩
    | read l => rw [List.mem_singleton.mp hx]; exact Or.inl ⟨_, rfl, Nm.sg (h2 _ h)⟩
    | write l => rw [List.mem_singleton.mp hx]; exact Or.inl ⟨_, rfl, Nm.sg (h2 _ h)⟩
    | skip n m =>
      have hx : x = .int n ∨ x = .int m := by simpa [Dd.ps] using hx
      rcases hx with rfl | rfl
      · exact Or.inr ⟨_, rfl, far_lt h.1⟩
      · refine Or.inr ⟨_, rfl, ?_⟩
        have h3 := h.2
        have e2 : (10 : Nat) ^ 19 = 10000000000000000000 := by decide
        rw [e2]
        omega
    | quit => exact absurd hx List.not_mem_nil
theorem dd_len (d : Dd) : (D.str d.w :: d.ps).length ≤ 3 := by cases d <;> simp [Dd.ps]
theorem atom_shw {x : D} (h : (∃ z, x = .str z ∧ Sg z) ∨ ∃ i : Int, x = .int i ∧ i.natAbs < 10 ^ 19) : Shw 0 1002 x := by
  rcases h with ⟨z, rfl, s⟩ | ⟨i, rfl, hi⟩
  · exact (Shw.str s.2 s.1).mono (Nat.le_refl _) (by omega)
  · exact (Shw.int (k := 19) (by decide) (by decide) hi).mono (Nat.le_refl _) (by decide)
theorem dd_shw {d : Dd} {ls ns : List Str} (h : d.ok ls ns) (h1 : ∀ z ∈ ls, Nm z) (h2 : ∀ z ∈ ns, Nm z) : Shw 1 9000 (ddD d) :=
  (Shw.tup (dd_len d) fun x hx => atom_shw (dd_im h h1 h2 x hx)).mono (Nat.le_refl _) (by decide)
theorem Im.shw {d : D} (h : Im d) : Shw 1 9000 d := by
  cases h with
  | od h => exact h.shw
  | num h => exact (Shw.int (k := 19) (by decide) (by decide) h).mono (by decide) (by decide)
  | deed h h1 h2 => exact dd_shw h h1 h2
/-- held against a text -/
theorem Im.eq {x : D} (h : Im x) {z : Str} (hz : Sg z) : ∃ b, eqXD x (.str z) b ∧ (b = true ↔ x = .str z) := by
  have flat : ∀ {e : PyData}, pd x = some e → e.canLay0 = true → e.depth ≤ 64 → PyData.eqv (.str z) e = false → x ≠ .str z → ∃ b, eqXD x (.str z) b ∧ (b = true ↔ x = .str z) := by
    intro e h1 h2 h3 h4 h5
    refine ⟨false, Or.inl ⟨.str z, e, rfl, h1, ?_, sh_flat h2 h3, h4.symm⟩, (fun y => nomatch y), fun y => absurd y h5⟩
    exact sh_flat hz.ok (by simp [PyData.depth])
  have lays : ∀ {ds : List D}, (∀ d ∈ ds, cln d = true ∧ dpt d ≤ 1) → ∃ xs, pdL ds = some xs ∧ PyData.canLayAll0 xs = true ∧ PyData.depthAll xs ≤ 2 := by
    intro ds hd
    obtain ⟨xs, e, c, dp⟩ := clnL_pd (clnL_iff.mpr fun d m => (hd d m).1)
    exact ⟨xs, e, c, by rw [dp]; exact Nat.le_trans (dptL_le (n := 1) fun d m => (hd d m).2) (by decide)⟩
  have txs : ∀ {ws : List Str}, (∀ y ∈ ws, Sg y) → ∀ d ∈ strsD ws, cln d = true ∧ dpt d ≤ 1 := by
    intro ws hw d hd
    obtain ⟨y, hy, rfl⟩ := List.mem_map.mp hd
    exact ⟨(hw y hy).ok, by simp [dpt]⟩
  cases h with
  | num h => exact flat (e := .int _) rfl (by simp [PyData.canLay0]) (by simp [PyData.depth]) rfl (fun y => nomatch y)
  | @deed d ls ns h h1 h2 =>
    obtain ⟨xs, e, c, dp⟩ := lays (ds := D.str d.w :: d.ps) fun x hx => by
      rcases dd_im h h1 h2 x hx with ⟨y, rfl, s⟩ | ⟨i, rfl, _⟩
      · exact ⟨s.ok, by simp [dpt]⟩
      · exact ⟨rfl, by simp [dpt]⟩
    refine flat (e := .tuple xs) ?_ c ?_ rfl (fun y => nomatch y)
    · show (pdL (D.str d.w :: d.ps)).map _ = _
      rw [e]
      rfl
    · simp only [PyData.depth]
      omega
  | od h =>
    cases h with
    | dic => exact ⟨false, Or.inr (Or.inr ⟨_, _, z, rfl, rfl, rfl⟩), (fun y => nomatch y), fun y => nomatch y⟩
    | it h =>
      cases h with
      | @str y hy =>
        refine ⟨PyData.eqv (.str z) (.str y), Or.inl ⟨.str z, .str y, rfl, rfl, sh_flat hz.ok (by simp [PyData.depth]), sh_flat hy.ok (by simp [PyData.depth]), rfl⟩, ?_⟩
        simp only [PyData.eqv, beq_iff_eq]
        exact ⟨fun e => by rw [e], fun e => by injection e with e; exact e.symm⟩
      | non => exact flat (e := .none) rfl rfl (by simp [PyData.depth]) rfl (fun y => nomatch y)
      | int h => exact flat (e := .int _) rfl (by simp [PyData.canLay0]) (by simp [PyData.depth]) rfl (fun y => nomatch y)
      | bl => exact flat (e := .bool _) rfl (by simp [PyData.canLay0]) (by simp [PyData.depth]) rfl (fun y => nomatch y)
      | @lst ws _ hw =>
        obtain ⟨xs, e, c, dp⟩ := lays (txs hw)
        refine flat (e := .list xs) ?_ c ?_ rfl (fun y => nomatch y)
        · show (pdL (strsD ws)).map _ = _
          rw [e]
          rfl
        · simp only [PyData.depth]
          omega
      | @tup ws _ hw =>
        obtain ⟨xs, e, c, dp⟩ := lays (txs hw)
        refine flat (e := .tuple xs) ?_ c ?_ rfl (fun y => nomatch y)
        · show (pdL (strsD ws)).map _ = _
          rw [e]
          rfl
        · simp only [PyData.depth]
          omega
      | dic => exact ⟨false, Or.inr (Or.inr ⟨_, _, z, rfl, rfl, rfl⟩), (fun y => nomatch y), fun y => nomatch y⟩
def inB (x : D) (ws : List Str) : Bool := match x with
  | .str z => decide (z ∈ ws)
  | _ => false
theorem inB_iff {x : D} {ws : List Str} : inB x ws = true ↔ ∃ z ∈ ws, x = .str z := by
  cases x <;> simp [inB]
theorem ims_in {x : D} (h : Im x) : ∀ {ws : List Str}, (∀ z ∈ ws, Sg z) → ∃ bs, Paired (eqXD x) (strsD ws) bs ∧ (bs.any id = true ↔ ∃ z ∈ ws, x = .str z)
  | [], _ => ⟨[], .nil, by simp⟩
  | z :: ws, hw => by
    obtain ⟨b, h1, h2⟩ := h.eq (hw z List.mem_cons_self)
    obtain ⟨bs, h3, h4⟩ := ims_in h fun y hy => hw y (List.mem_cons_of_mem _ hy)
    refine ⟨b :: bs, .cons h1 h3, ?_⟩
    rw [List.any_cons, Bool.or_eq_true, h4]
    simp only [id, List.mem_cons, h2]
    constructor
    · rintro (e | ⟨y, hy, e⟩)
      · exact ⟨z, Or.inl rfl, e⟩
      · exact ⟨y, Or.inr hy, e⟩
    · rintro ⟨y, rfl | hy, e⟩
      · exact Or.inl e
      · exact Or.inr ⟨y, hy, e⟩
/-- what is_deed is asked of -/
def Ac (t : D) : Prop := Od t ∨ ∃ ds, (t = .lst ds ∨ t = .tup ds) ∧ ds.length ≤ 8 ∧ ∀ d ∈ ds, Im d
theorem od_tup {ds : List D} (h : Od (.tup ds)) : ds.length ≤ 8 ∧ ∀ d ∈ ds, Im d := by
  generalize e : D.tup ds = t at h
  cases h with
  | dic => exact nomatch e
  | it h =>
    cases h with
    | @tup ws h1 h2 =>
      obtain rfl : ds = strsD ws := by injection e
      refine ⟨by rw [List.length_map]; exact h1, fun d hd => ?_⟩
      obtain ⟨z, hz, rfl⟩ := List.mem_map.mp hd
      exact Im.str (h2 z hz)
    | _ => exact nomatch e
theorem Ac.tup {ds : List D} (h : Ac (.tup ds)) : ds.length ≤ 8 ∧ ∀ d ∈ ds, Im d := by
  rcases h with h | ⟨es, e | e, h1, h2⟩
  · exact od_tup h
  · exact nomatch e
  · obtain rfl : ds = es := by injection e
    exact ⟨h1, h2⟩
theorem Ac.shw {t : D} (h : Ac t) : Shw 2 80000 t := by
  rcases h with h | ⟨es, rfl | rfl, h1, h2⟩
  · exact h.shw.mono (by decide) (by decide)
  · exact (Shw.lst h1 fun d hd => (h2 d hd).shw).mono (by decide) (by decide)
  · exact (Shw.tup h1 fun d hd => (h2 d hd).shw).mono (by decide) (by decide)
def one (f : D → Bool) : List D → Bool
  | [a] => f a
  | _ => false
def two (f : D → D → Bool) : List D → Bool
  | [a, b] => f a b
  | _ => false
def Cz (n : Nat) (z : Str) : Prop := z.length ≤ n ∧ ∀ c ∈ z.cps.toList, c < 1114112
theorem Cz.app {n m : Nat} {a b : Str} (h1 : Cz n a) (h2 : Cz m b) : Cz (n + m) (a ++ b) := by
  have e : (a ++ b).cps = a.cps ++ b.cps := PySem.Str.cps_append a b
  refine ⟨?_, fun c hc => ?_⟩
  · show (a ++ b).cps.size ≤ _
    rw [e, Array.size_append]
    exact Nat.add_le_add h1.1 h2.1
  · rw [e, Array.toList_append] at hc
    exact (List.mem_append.mp hc).elim (h1.2 c) (h2.2 c)
theorem Cz.sg {n : Nat} {z : Str} (h : Cz n z) (hn : n ≤ 100) : Sg z := ⟨Nat.le_trans h.1 hn, h.2⟩
theorem cz_lit {n : Nat} {z : Str} (h : z.length ≤ n ∧ (z.cps.toList.all fun c => decide (c < 1114112)) = true) : Cz n z := ⟨h.1, fun c hc => of_decide_eq_true (List.all_eq_true.mp h.2 c hc)⟩
theorem nm_cz {z : Str} (h : Nm z) : Cz 8 z := by
  have h8 := h.2.1
  rw [show tl z = z.cps.toList from rfl, Array.length_toList] at h8
  exact ⟨h8, (Nm.sg h).2⟩
theorem cz_up {z : Str} (h : Nm z) : Cz 8 (Txt.upper z) := by
  have h8 := (nm_cz h).1
  rw [PyProof.Rows.upper_ascii (x := z) (fun c hc => by have := (h.2.2 c hc).2; omega)]
  refine ⟨?_, fun c hc => ?_⟩
  · show (z.cps.map PyProof.Rows.up1).size ≤ 8
    rw [Array.size_map]
    exact h8
  · have hc : c ∈ (z.cps.map PyProof.Rows.up1).toList := hc
    rw [Array.toList_map] at hc
    obtain ⟨d, hd, rfl⟩ := List.mem_map.mp hc
    have := (Nm.sg h).2 d hd
    unfold PyProof.Rows.up1
    split <;> omega
theorem cells_at2 {n : Nat} {m : Int} (hm : 1 ≤ m) (hm2 : m ≤ 100) : ∃ k : Nat, (if (if (n : Int) < m then (n : Int) else m) > 1 then (if (n : Int) < m then (n : Int) else m) else 1) = (k : Int) ∧ k ≤ 100 := by
  by_cases h1 : (n : Int) < m
  · rw [if_pos h1]
    by_cases h2 : (n : Int) > 1
    · rw [if_pos h2]
      exact ⟨n, rfl, by omega⟩
    · rw [if_neg h2]
      exact ⟨1, rfl, by omega⟩
  · rw [if_neg h1]
    by_cases h2 : m > 1
    · rw [if_pos h2]
      exact ⟨m.toNat, by omega, by omega⟩
    · rw [if_neg h2]
      exact ⟨1, rfl, by omega⟩
end L3
namespace L4
open PySem PySem.Spec PyProof.Rows L2 TB LamX L3
section
variable {X : Sx} {K : PySem.W.Frag}
def mu0 : Mu := fun _ => none
theorem rel_bare {c : Ct} {F H : Hp} {σ : L2.St} {ρ : PSt} (R : Rel c F H σ ρ) : R4 ⟨c.X, F, H, mu0⟩ F H mu0 [] [] :=
  ⟨rfl, R.sub, (fun i x e => by simp at e), (fun a m e => nomatch e), (fun a m e => nomatch e), R.nt, R.tab, R.tabF, L3.Same.refl F, (fun b o e _ _ => e), (fun b e => e), (fun b o e => Or.inl e)⟩
end
end L4
namespace L4
open PySem PySem.Spec PyProof.Rows L2 TB LamX L3
end L4
namespace L3
open PySem PySem.Spec PyProof.Rows L2 TB LamX
mutual
theorem pd_pdX : ∀ {d : D} {x : PyData}, pd d = some x → pdX d = some x
  | .non, x, h => h
  | .bl _, x, h => h
  | .int _, x, h => h
  | .str _, x, h => h
  | .lst ds, x, h => by
    have h : (pdL ds).map PyData.list = some x := h
    obtain ⟨xs, e, rfl⟩ := Option.map_eq_some_iff.mp h
    show (pdXL ds).map PyData.list = _
    rw [pd_pdXL e]
    rfl
  | .tup ds, x, h => by
    have h : (pdL ds).map PyData.tuple = some x := h
    obtain ⟨xs, e, rfl⟩ := Option.map_eq_some_iff.mp h
    show (pdXL ds).map PyData.tuple = _
    rw [pd_pdXL e]
    rfl
  | .ins .., x, h => nomatch h
  | .dic .., x, h => nomatch h
  | .op _, x, h => nomatch h
theorem pd_pdXL : ∀ {ds : List D} {xs : List PyData}, pdL ds = some xs → pdXL ds = some xs
  | [], xs, h => h
  | d :: ds, xs, h => by
    have h : consO (pd d) (pdL ds) = some xs := h
    cases e1 : pd d with
    | none => rw [e1] at h; cases e2 : pdL ds <;> rw [e2] at h <;> exact nomatch h
    | some y =>
      cases e2 : pdL ds with
      | none => rw [e1, e2] at h; exact nomatch h
      | some ys =>
        rw [e1, e2] at h
        show consO (pdX d) (pdXL ds) = _
        rw [pd_pdX e1, pd_pdXL e2]
        exact h
end
section
variable {X : Sx} {K : PySem.W.Frag}
inductive LiEs (X : Sx) : List TE → List QE → Prop
  | nil : LiEs X [] []
  | cons {t : TE} {p : QE} {ts : List TE} {ps : List QE} (h : LiE X t p) (r : LiEs X ts ps) : LiEs X (t :: ts) (p :: ps)
end
end L3
namespace L3
open PySem PySem.Spec PyProof.Rows L2 TB LamX OwnE
end L3
namespace L3
open PySem PySem.Spec PyProof.Rows L2 TB LamX
theorem Dd.ok.mono {ls ns ls' ns' : List Str} (h1 : ∀ z ∈ ls, z ∈ ls') (h2 : ∀ z ∈ ns, z ∈ ns') : ∀ {d : Dd}, d.ok ls ns → d.ok ls' ns'
  | .set _, h => h
  | .add _, h => h
  | .take _, h => h1 _ h
  | .read _, h => h2 _ h
  | .write _, h => h2 _ h
  | .skip _ _, h => h
  | .quit, h => h
theorem BodyOk.mono {ls ns ls' ns' : List Str} {b : List Dd} (h1 : ∀ z ∈ ls, z ∈ ls') (h2 : ∀ z ∈ ns, z ∈ ns') (h : BodyOk ls ns b) : BodyOk ls' ns' b := ⟨h.len, fun d hd => Dd.ok.mono h1 h2 (h.ok d hd), h.leap⟩
theorem BodyOk.nil {ls ns : List Str} : BodyOk ls ns [] := ⟨by decide, (fun _ h => nomatch h), fun i d e => by simp at e⟩
theorem BodyOk.tail {ls ns : List Str} {b : List Dd} (h : BodyOk ls ns b) : BodyOk ls ns (b.drop 1) := by
  refine ⟨by rw [List.length_drop]; have := h.len; omega, fun d hd => h.ok d (List.mem_of_mem_drop hd), fun i d e => ?_⟩
  rw [List.getElem?_drop] at e
  have h1 := h.leap _ d e
  have h2 := (List.getElem?_eq_some_iff.mp e).1
  rw [List.length_drop]
  omega
theorem BodyOk.quit {ls ns : List Str} {b : List Dd} (h : BodyOk ls ns b) (l : b.length < 12) : BodyOk ls ns (b ++ [Dd.quit]) := by
  refine ⟨by rw [List.length_append, List.length_singleton]; omega, fun d hd => ?_, fun i d e => ?_⟩
  · rcases List.mem_append.mp hd with hd | hd
    · exact h.ok d hd
    · rw [List.mem_singleton.mp hd]; exact trivial
  · rw [List.length_append, List.length_singleton]
    by_cases c : i < b.length
    · rw [List.getElem?_append_left c] at e
      have := h.leap i d e
      omega
    · rw [List.getElem?_append_right (by omega)] at e
      have hm := List.mem_of_getElem? e
      rw [List.mem_singleton.mp hm]
      have hi : i - b.length < 1 := (List.getElem?_eq_some_iff.mp e).1
      show (-1 : Int) < _
      omega
theorem BodyOk.set {ls ns : List Str} {b : List Dd} {k : Nat} {d e : Dd} (h : BodyOk ls ns b) (hk : b[k]? = some d) (he : e.ok ls ns) (hl : e.leap = d.leap) : BodyOk ls ns (b.set k e) := by
  refine ⟨by rw [List.length_set]; exact h.len, fun x hx => ?_, fun i x ex => ?_⟩
  · rcases List.mem_or_eq_of_mem_set hx with hx | rfl
    · exact h.ok x hx
    · exact he
  · rw [List.length_set]
    by_cases c : k = i
    · subst c
      rw [List.getElem?_set_self (List.getElem?_eq_some_iff.mp hk).1] at ex
      obtain rfl := Option.some.inj ex
      rw [hl]
      exact h.leap k d hk
    · rw [List.getElem?_set_ne c] at ex
      exact h.leap i x ex
section
variable {p : PlanL}
theorem PlanOk.perm {q : PlanL} (ok : PlanOk p) (h1 : q.locks.Perm p.locks) (h2 : q.cells.Perm p.cells) (h3 : q.tasks.Perm p.tasks) : PlanOk q := by
  have hc : q.cellNames.Perm p.cellNames := h2.map _
  have ht : q.names.Perm p.names := h3.map _
  have hk : q.taken.Perm p.taken := (h1.append hc).append ht
  refine ⟨by rw [h1.length_eq]; exact ok.l1, by rw [h1.length_eq]; exact ok.l7, by rw [h2.length_eq]; exact ok.c8, by rw [h3.length_eq]; exact ok.t6, hk.nodup_iff.mpr ok.nd, fun z hz => ok.nm z (hk.mem_iff.mp hz), fun c hc => ?_, fun t ht => ?_⟩
  · have := ok.cl c (h2.mem_iff.mp hc)
    exact ⟨h1.mem_iff.mpr this.1, this.2⟩
  · exact (ok.bd t (h3.mem_iff.mp ht)).mono (fun z hz => h1.mem_iff.mpr hz) (fun z hz => hc.mem_iff.mpr hz)
end
end L3
namespace L2
open PySem PySem.Spec PyProof.Rows TB
end L2
namespace L3
open PySem PySem.Spec PyProof.Rows L2 TB LamX OwnE
/-- .. that is no name, either -/
def pOddN : PSp := fun ds Q => ds = [potD] ∧ ∀ d, Od d → (∀ z, d = .str z → ¬ Nm z) → Q (.val d) none
theorem inB_no {d : D} {ws : List Str} (h : ∀ z, d = .str z → ¬ Nm z) (nm : ∀ z ∈ ws, Nm z) : inB d ws = false := by
  cases e : inB d ws with
  | false => rfl
  | true =>
    obtain ⟨z, hz, e2⟩ := inB_iff.mp e
    exact absurd (nm z hz) (h z e2)
end L3
namespace L3
open PySem PySem.Spec PyProof.Rows L2 TB LamX
end L3
namespace L3
open PySem PySem.Spec PyProof.Rows L2 TB LamX OwnE
end L3
namespace L2
open PySem PySem.Spec PyProof.Rows LiI
abbrev SI := Str × Int
def dSI (b : SI) : PyData := .tuple [.str b.1, .int b.2]
def leSI : SI → SI → Bool := PySem.W.dataLe false dSI
end L2
namespace L2
open PySem PySem.Spec PyProof.Rows
/-- a tuple whose object is known -/
def KnT (K : PySem.W.Frag) (H : Hp) (a : Addr) (vs : List V) : Prop := (∃ o : Obj, o.dict = none ∧ H a = some (.frz o (.tup vs))) ∨ ∃ o : Obj, K.lookup a = some o ∧ o.cls = .type "tuple" ∧ o.dict = none ∧ (∃ n, o.data = .seq #[] n) ∧ vs = []
section
variable {X : Cx}
theorem KnT.at {pins : List (Addr × Obj)} {σ : St} {H : Hp} {s : Shared} (I : Inv X pins σ H s) {a : Addr} {vs : List V} (h : KnT X.K H a vs) : ∃ (o : Obj) (its : List Value) (n : Nat), s.heap.get? a = some o ∧ o.cls = .type "tuple" ∧ o.dict = none ∧ o.data = .seq its.toArray n ∧ Vals vs its ∧ vs.length ≤ sizeLine := by
  rcases h with ⟨o, hd, h⟩ | ⟨o, hk, hc, hd, ⟨n, hdat⟩, rfl⟩
  · obtain ⟨e, hz, its, rv, o2, e2, c2, n, d2⟩ := I.hok a _ h
    rw [e] at e2
    obtain rfl := Option.some.inj e2
    exact ⟨o, its, n, e, c2, hd, d2, rv, hz⟩
  · exact ⟨o, [], n, I.kIn _ _ hk, hc, hd, hdat, .nil, Nat.zero_le _⟩
end
end L2
namespace L4
open PySem PySem.Spec PyProof.Rows L2 TB LamX L3
def keyD : Key → D
  | .inl i => .int i
  | .inr z => .str z
def dKV (m : List (Key × D)) : List (Key × Vl) := m.map fun p => (p.1, .d p.2)
def dicD (m : List (Key × D)) : D := .dic (m.map (·.1)) (m.map (·.2))
def zipKk : List Key → List D → List (Key × Vl)
  | n :: ns, d :: ds => (n, .d d) :: zipKk ns ds
  | _, _ => []
def dicOf (μ : Mu) : Vl → Option (List (Key × Vl))
  | .d (.dic ks ds) => some (zipKk ks ds)
  | .loc a => match μ a with
    | some (.dic kvs) => some kvs
    | _ => none
  | _ => none
section
variable {X : Sx} {K : PySem.W.Frag} {W : WX}
def siK (b : SI) : Key × D := (.inr b.1, .int b.2)
def sortSI (kvs : List SI) : List SI := kvs.mergeSort leSI
def dicSI (kvs : List SI) : D := dicD (kvs.map siK)
def kvSI (kvs : List SI) : List (Key × Vl) := dKV (kvs.map siK)
theorem KnT.mono {F F' : Hp} {a : Addr} {vs : List V} (s : Same F F') (h : KnT K F a vs) : KnT K F' a vs := by
  rcases h with ⟨o, hd, h⟩ | h
  · exact Or.inl ⟨o, hd, s _ _ h⟩
  · exact Or.inr h
theorem KnT.sq {F : Hp} {a : Addr} {vs : List V} (h : KnT K F a vs) : SqT K F a vs := by
  rcases h with ⟨o, hd, h⟩ | ⟨o, hk, hc, hd, ⟨n, hdat⟩, rfl⟩
  · exact Or.inl (Or.inr ⟨o, h⟩)
  · exact Or.inr ⟨o, #[], n, hk, hc, hdat, Nat.zero_le _, .nil⟩
theorem rk_dicD {F : Hp} {m : List (Key × D)} {ws : List (Key × V)} (r : RK K F (dKV m) ws) : ∃ vs, ws = (m.map (·.1)).zip vs ∧ RpL K F (m.map (·.2)) vs := by
  have e : allD ((dKV m).map (·.2)) = some (m.map (·.2)) := by
    rw [show (dKV m).map (·.2) = (m.map (·.2)).map Vl.d by simp [dKV, List.map_map]]
    exact allD_map _
  obtain ⟨vs, h1, h2⟩ := rk_data r e
  exact ⟨vs, by rw [h1, dKV, List.map_map]; rfl, h2⟩
end
end L4
namespace L4
open PySem PySem.Spec PyProof.Rows L2 TB LamX L3
section
variable {X : Sx} {K : PySem.W.Frag} {W : WX}
/-- a promise of L4 that asks for data alone, as one of L3 -/
theorem lsp4_of {P4 : PSp4} {P3 : PSp} (h : ∀ ds Q3, P3 ds Q3 → P4 (ds.map Vl.d) mu0 (fun x μ' => (∃ d, x = .d d ∧ Q3 (.val d) none) ∨ ∃ p es, x = .loc p ∧ μ' p = some (.lst (es.map Vl.d)) ∧ Q3 (.new es) none) (fun _ _ => False)) : ∀ vs H Q E, lsp X none P3 vs H Q E → lsp4 X P4 vs H Q E := by
  rintro vs H Q E ⟨F, ds, Q3, en, hP, k⟩
  refine ⟨F, mu0, ds.map Vl.d, _, _, rel_bare (en.rel []), RVs.ofData en.rpl, h ds Q3 hP, ?_, fun _ _ _ _ _ _ _ _ z => z.elim⟩
  intro x v F' H' μ' R rv q
  have st : Step X [] F H F' H' := ⟨rfl, R.sub, (fun i pv e => by simp at e), (fun i j f1 o1 f2 o2 p e => by simp at e), R.nt, R.tab, R.tabF, R.fr, (fun b o e _ nt => R.kp b o e rfl nt), R.dom, (fun b o e => by
      rcases R.nw b o e with h | h | h | h
      · exact Or.inl h
      · exact Or.inr (Or.inl h)
      · exact absurd rfl h
      · exact Or.inr (Or.inr (Or.inr h))), fun p hp => R.dom p hp⟩
  rcases q with ⟨d, rfl, q⟩ | ⟨p, es, rfl, em, q⟩
  · exact k (.val d) none v F' H' ⟨st, rv, fun _ _ z => nomatch z⟩ q
  · obtain rfl : v = .ref p := rv
    obtain ⟨hF, ws, ep, r⟩ := R.mu p _ em
    have hn : H p = none := (R.mf p _ em).elim (fun z => absurd rfl z) id
    exact k (.new es) none (.ref p) F' H' ⟨st, ⟨p, ws, rfl, hF, hn, ep, RVs.data r⟩, fun _ _ z => nomatch z⟩ q
end
end L4
namespace L4
open PySem PySem.Spec PyProof.Rows L2 TB LamX L3
def kltSI (p q : SI) : Prop := p.1.cps.toList < q.1.cps.toList ∨ (p.1 = q.1 ∧ p.2 < q.2)
instance (p q : SI) : Decidable (kltSI p q) := inferInstanceAs (Decidable (_ ∨ _))
theorem str_cps {x y : Str} (h : x.cps.toList = y.cps.toList) : x = y := by
  cases x; cases y
  congr 1
  exact Array.toList_inj.mp h
theorem dataLt_SI (p q : SI) : PySem.W.dataLt (dSI p) (dSI q) = decide (kltSI p q) := by
  unfold dSI
  rw [PySem.W.dataLt_pair (by simp [PySem.W.alike]) (by simp [PySem.W.alike]), PySem.W.dataLt_int, PySem.W.dataLt_str]
  unfold kltSI
  simp only [PyData.eqv, beq_iff_eq]
  by_cases h1 : p.1 = q.1
  · rw [if_pos h1]
    have n1 : ¬ p.1.cps.toList < q.1.cps.toList := by rw [h1]; exact List.lt_irrefl _
    by_cases h2 : p.2 = q.2
    · rw [if_pos h2]
      refine (decide_eq_false fun h => ?_).symm
      rcases h with h | ⟨_, h⟩
      · exact n1 h
      · omega
    · rw [if_neg h2]
      exact decide_eq_decide.mpr ⟨fun h => Or.inr ⟨h1, h⟩, fun h => h.elim (fun z => absurd z n1) (fun z => z.2)⟩
  · rw [if_neg h1]
    exact decide_eq_decide.mpr ⟨Or.inl, fun h => h.elim id (fun z => absurd z.1 h1)⟩
theorem leSI_eq (p q : SI) : leSI p q = !decide (kltSI q p) := by
  show (!PySem.W.dataLt (dSI q) (dSI p)) = _
  rw [dataLt_SI]
theorem kltSI_as {p q : SI} (h : kltSI p q) : ¬ kltSI q p := by
  unfold kltSI at *
  rintro (l | ⟨l, n⟩) <;> rcases h with h | ⟨h, m⟩
  · exact List.lt_asymm h l
  · rw [h] at l; exact List.lt_irrefl _ l
  · rw [l] at h; exact List.lt_irrefl _ h
  · omega
theorem kltSI_tr {p q r : SI} (h : ¬ kltSI q p) (k : ¬ kltSI r q) : ¬ kltSI r p := by
  unfold kltSI at *
  intro l
  have h1 : ¬ q.1.cps.toList < p.1.cps.toList := fun z => h (Or.inl z)
  have k1 : ¬ r.1.cps.toList < q.1.cps.toList := fun z => k (Or.inl z)
  have le1 : p.1.cps.toList ≤ q.1.cps.toList := List.not_lt.mp h1
  have le2 : q.1.cps.toList ≤ r.1.cps.toList := List.not_lt.mp k1
  have le3 : p.1.cps.toList ≤ r.1.cps.toList := List.le_trans le1 le2
  rcases l with l | ⟨e, m⟩
  · exact List.not_lt.mpr le3 l
  · rw [e] at le2
    have e1 : p.1 = q.1 := str_cps (List.le_antisymm le1 le2)
    have e2 : r.1 = q.1 := e.trans e1
    have h2 : ¬ q.2 < p.2 := fun z => h (Or.inr ⟨e1.symm, z⟩)
    have k2 : ¬ r.2 < q.2 := fun z => k (Or.inr ⟨e2, z⟩)
    omega
theorem leSI_anti {p q : SI} (h : leSI p q = true) (k : leSI q p = true) : p = q := by
  rw [leSI_eq] at h k
  simp only [Bool.not_eq_true', decide_eq_false_iff_not] at h k
  unfold kltSI at h k
  have h1 : ¬ q.1.cps.toList < p.1.cps.toList := fun z => h (Or.inl z)
  have k1 : ¬ p.1.cps.toList < q.1.cps.toList := fun z => k (Or.inl z)
  have e1 : p.1 = q.1 := str_cps (List.le_antisymm (List.not_lt.mp h1) (List.not_lt.mp k1))
  have h2 : ¬ q.2 < p.2 := fun z => h (Or.inr ⟨e1.symm, z⟩)
  have k2 : ¬ p.2 < q.2 := fun z => k (Or.inr ⟨e1, z⟩)
  exact Prod.ext e1 (by omega)
theorem leSI_tr (a b c : SI) (h1 : leSI a b = true) (h2 : leSI b c = true) : leSI a c = true := by
  rw [leSI_eq] at *
  simp only [Bool.not_eq_true', decide_eq_false_iff_not] at *
  exact kltSI_tr h1 h2
theorem leSI_tot (a b : SI) : (leSI a b || leSI b a) = true := by
  rw [leSI_eq, leSI_eq]
  by_cases h : kltSI b a
  · have := kltSI_as h
    simp [h, this]
  · simp [h]
theorem pair_uniq {α : Type} {le : α → α → Bool} (an : ∀ a b, le a b = true → le b a = true → a = b) : ∀ {xs ys : List α}, xs.Perm ys → xs.Pairwise (fun a b => le a b = true) → ys.Pairwise (fun a b => le a b = true) → xs = ys
  | [], ys, h, _, _ => (List.Perm.eq_nil h.symm).symm
  | x :: xs, [], h, _, _ => absurd h.length_eq (by simp)
  | x :: xs, y :: ys, h, p1, p2 => by
    obtain ⟨a1, a2⟩ := List.pairwise_cons.mp p1
    obtain ⟨b1, b2⟩ := List.pairwise_cons.mp p2
    have e : x = y := by
      by_cases e : x = y
      · exact e
      · have hx : x ∈ ys := (List.mem_cons.mp (h.mem_iff.mp List.mem_cons_self)).resolve_left e
        have hy : y ∈ xs := (List.mem_cons.mp (h.mem_iff.mpr List.mem_cons_self)).resolve_left (fun z => e z.symm)
        exact an x y (a1 y hy) (b1 x hx)
    subst e
    rw [pair_uniq an (List.Perm.cons_inv h) a2 b2]
theorem sortSI_pm (xs : List SI) : (sortSI xs).Perm xs := List.mergeSort_perm _ _
theorem sortSI_pw (xs : List SI) : (sortSI xs).Pairwise (fun a b => leSI a b = true) := List.pairwise_mergeSort leSI_tr leSI_tot xs
theorem sortSI_perm {xs ys : List SI} (h : xs.Perm ys) : sortSI xs = sortSI ys :=
  pair_uniq (fun _ _ => leSI_anti) (((sortSI_pm xs).trans h).trans (sortSI_pm ys).symm) (sortSI_pw xs) (sortSI_pw ys)
theorem sortSI_idem (xs : List SI) : sortSI (sortSI xs) = sortSI xs := sortSI_perm (sortSI_pm xs)
def keysSI (m : List SI) : List Str := m.map (·.1)
def valSI (m : List SI) (z : Str) : Option Int := (m.find? fun b => decide (b.1 = z)).map (·.2)
def putSI (m : List SI) (z : Str) (v : Int) : List SI := if (m.any fun b => decide (b.1 = z)) = true then m.map (fun b => if b.1 = z then (b.1, v) else b) else m ++ [(z, v)]
theorem keys_perm {xs ys : List SI} (h : xs.Perm ys) : (keysSI xs).Perm (keysSI ys) := h.map _
theorem putSI_keys {xs : List SI} {z : Str} {v : Int} (nd : (keysSI xs).Nodup) : (keysSI (putSI xs z v)).Nodup := by
  unfold putSI
  split
  · rw [keysSI, List.map_map, show ((fun b : SI => b.1) ∘ fun b => if b.1 = z then (b.1, v) else b) = (fun b => b.1) by
      funext b
      show (if b.1 = z then (b.1, v) else b).1 = b.1
      split <;> rfl]
    exact nd
  · rename_i h
    rw [keysSI, List.map_append]
    refine List.nodup_append.mpr ⟨nd, (by simp), fun a ha b hb e => h ?_⟩
    rw [List.mem_singleton.mp hb] at e
    obtain ⟨x, hx, e2⟩ := List.mem_map.mp ha
    exact List.any_eq_true.mpr ⟨x, hx, decide_eq_true (e2.trans e)⟩
theorem putSI_keysIn {xs : List SI} {z : Str} {v : Int} {ns : List Str} (h : ∀ k ∈ keysSI xs, k ∈ ns) (hz : z ∈ ns) : ∀ k ∈ keysSI (putSI xs z v), k ∈ ns := by
  unfold putSI
  split
  · intro k hk
    obtain ⟨b, hb, rfl⟩ := List.mem_map.mp hk
    obtain ⟨b0, hb0, rfl⟩ := List.mem_map.mp hb
    have : (if b0.1 = z then (b0.1, v) else b0).1 = b0.1 := by split <;> rfl
    rw [this]
    exact h _ (List.mem_map_of_mem hb0)
  · intro k hk
    rw [keysSI, List.map_append] at hk
    rcases List.mem_append.mp hk with hk | hk
    · exact h k hk
    · rw [List.mem_singleton.mp hk]; exact hz
structure Lf where
  place : Nat
  hand : Int
  dr : List SI
  cl : List Str
/-- what stands in a cell, for a life -/
def foundL (l : Lf) (vs : List SI) (c : Str) : Int := ((valSI l.dr c).getD ((valSI vs c).getD 0))
def lockOf (p : PlanL) (c : Str) : Str := ((p.cells.find? fun x => decide (x.name = c)).map (·.lock)).getD c
/-- what a deed makes of a life -/
def stepL (p : PlanL) (vs : List SI) (l : Lf) : Dd → Option Lf
  | .set n => some { l with place := l.place + 1, hand := n }
  | .add n => some { l with place := l.place + 1, hand := l.hand + n }
  | .take z => some { l with place := l.place + 1, cl := if z ∈ l.cl then l.cl else l.cl ++ [z] }
  | .read c => if lockOf p c ∈ l.cl then some { l with place := l.place + 1, hand := foundL l vs c } else none
  | .write c => if lockOf p c ∈ l.cl then some { l with place := l.place + 1, dr := sortSI (putSI l.dr c l.hand) } else none
  | .skip n m => some { l with place := if l.hand = n then l.place + 1 + m.toNat else l.place + 1 }
  | .quit => none
/-- how a task ends alone -/
structure Out where
  ok : Bool
  hand : Int
  dr : List SI
end L4
namespace L2
open PySem PySem.Spec PyProof.Rows
end L2
namespace L4
end L4
namespace L4
open PySem PySem.Spec PyProof.Rows L2 TB LamX L3
/-- all cells of a plan have a value -/
def ValsOk (p : PlanL) (vs : List SI) : Prop := keysSI vs = p.cellNames
theorem ValsOk.some {p : PlanL} {vs : List SI} (h : ValsOk p vs) {c : Str} (hc : c ∈ p.cellNames) : ∃ v, valSI vs c = some v := by
  unfold ValsOk at h
  rw [← h] at hc
  obtain ⟨b, hb, e⟩ := List.mem_map.mp hc
  unfold valSI
  cases e2 : vs.find? fun b => decide (b.1 = c) with
  | some x => exact ⟨x.2, rfl⟩
  | none => exact absurd (List.find?_eq_none.mp e2 b hb) (by simpa using e)
def valsD (vs : List SI) : D := dicSI vs
/-- a life stays within bounds -/
structure LfOk (p : PlanL) (l : Lf) : Prop where
  nd : (keysSI l.dr).Nodup
  kin : ∀ k ∈ keysSI l.dr, k ∈ p.cellNames
  srt : sortSI l.dr = l.dr
  cnd : l.cl.Nodup
  cin : ∀ z ∈ l.cl, z ∈ p.locks
theorem keys_sort {m : List SI} (nd : (keysSI m).Nodup) : (keysSI (sortSI m)).Nodup := (keys_perm (sortSI_pm m)).nodup_iff.mpr nd
theorem LfOk.step {p : PlanL} {vs : List SI} {l l' : Lf} {d : Dd} (h : LfOk p l) (hd : d.ok p.locks p.cellNames) (e : stepL p vs l d = some l') : LfOk p l' := by
  cases d with
  | set n => obtain rfl := Option.some.inj e; exact ⟨h.nd, h.kin, h.srt, h.cnd, h.cin⟩
  | add n => obtain rfl := Option.some.inj e; exact ⟨h.nd, h.kin, h.srt, h.cnd, h.cin⟩
  | skip n m => obtain rfl := Option.some.inj e; exact ⟨h.nd, h.kin, h.srt, h.cnd, h.cin⟩
  | quit => exact nomatch e
  | take z =>
    obtain rfl := Option.some.inj e
    refine ⟨h.nd, h.kin, h.srt, ?_, ?_⟩
    · show (if z ∈ l.cl then l.cl else l.cl ++ [z]).Nodup
      split
      · exact h.cnd
      · rename_i n
        exact List.nodup_append.mpr ⟨h.cnd, by simp, fun a ha b hb q => n (by rw [List.mem_singleton.mp hb] at q; rw [← q]; exact ha)⟩
    · show ∀ y ∈ (if z ∈ l.cl then l.cl else l.cl ++ [z]), y ∈ p.locks
      split
      · exact h.cin
      · intro y hy
        rcases List.mem_append.mp hy with hy | hy
        · exact h.cin y hy
        · rw [List.mem_singleton.mp hy]; exact hd
  | read c =>
    simp only [stepL] at e
    split at e
    · obtain rfl := Option.some.inj e; exact ⟨h.nd, h.kin, h.srt, h.cnd, h.cin⟩
    · exact nomatch e
  | write c =>
    simp only [stepL] at e
    split at e
    · obtain rfl := Option.some.inj e
      refine ⟨keys_sort (putSI_keys h.nd), fun k hk => ?_, sortSI_idem _, h.cnd, h.cin⟩
      exact putSI_keysIn h.kin hd k ((keys_perm (sortSI_pm _)).mem_iff.mp hk)
    · exact nomatch e
end L4
namespace L4
open PySem PySem.Spec PyProof.Rows L2 TB LamX L3
end L4
namespace L4
open PySem PySem.Spec PyProof.Rows L2 TB LamX L3
def latchD (p : PlanL) : D := dicD (p.cells.map fun c => ((.inr c.name : Key), D.str c.lock))
def rowsD0 (p : PlanL) : D := dicD (p.locks.map fun z => ((.inr z : Key), D.lst []))
def w7 (p : PlanL) (vs : List SI) (o a f : Addr) : List (Key × Vl) := [(.inr "locks", .d (.lst (strsD p.locks))), (.inr "slots", .d (.lst (p.cells.map clD))), (.inr "order", .loc o), (.inr "acts", .loc a), (.inr "folk", .loc f), (.inr "pairs", .d (.lst [])), (.inr "values", .d (valsD vs))]
/-- all that was there is as it was -/
def Kept (μ μ' : Mu) : Prop := ∀ b, μ b ≠ none → μ' b = μ b
theorem Kept.refl (μ : Mu) : Kept μ μ := fun _ _ => rfl
theorem Kept.new {μ μ' : Mu} (h : Kept μ μ') {a : Addr} {m : MO} (n : μ a = none) : Kept μ (updM μ' a m) := fun b hb => by
  rw [updM_ne (fun e => hb (by rw [e]; exact n))]
  exact h b hb
theorem Kept.trans {μ μ' μ'' : Mu} (h : Kept μ μ') (k : Kept μ' μ'') : Kept μ μ'' := fun b hb => by
  rw [k b (by rw [h b hb]; exact hb)]
  exact h b hb
theorem Kept.at {μ μ' : Mu} (h : Kept μ μ') {a : Addr} {m : MO} (e : μ a = some m) : μ' a = some m := by rw [h a (by rw [e]; exact (fun z => nomatch z)), e]
theorem Kept.none {μ μ' : Mu} (h : Kept μ μ') {a : Addr} (e : μ' a = none) : μ a = none := by
  cases q : μ a with
  | none => rfl
  | some m => rw [h.at q] at e; exact nomatch e
end L4
namespace L4
open PySem PySem.Spec PyProof.Rows L2 TB LamX L3
def uN : Nat := 10 ^ 18
def ValsB (vs : List SI) : Prop := ∀ b ∈ vs, b.2.natAbs ≤ uN
theorem far_abs {n : Int} (h : -far ≤ n ∧ n ≤ far) : n.natAbs ≤ uN := by
  have : far = 10 ^ 18 := rfl
  have : uN = 10 ^ 18 := rfl
  omega
/-- a life's numbers -/
def LfB (n : Nat) (l : Lf) : Prop := uN ≤ n ∧ l.hand.natAbs ≤ n ∧ ∀ b ∈ l.dr, b.2.natAbs ≤ n
theorem valSI_in {m : List SI} {z : Str} {v : Int} (h : valSI m z = some v) : ∃ b ∈ m, b.2 = v := by
  unfold valSI at h
  obtain ⟨b, h1, h2⟩ := Option.map_eq_some_iff.mp h
  exact ⟨b, List.mem_of_find?_eq_some h1, h2⟩
theorem found_b {n : Nat} {l : Lf} {vs : List SI} {c : Str} (h : LfB n l) (hv : ValsB vs) : (foundL l vs c).natAbs ≤ n := by
  unfold foundL
  cases e : valSI l.dr c with
  | some v =>
    obtain ⟨b, hb, rfl⟩ := valSI_in e
    exact h.2.2 b hb
  | none =>
    cases e2 : valSI vs c with
    | some v =>
      obtain ⟨b, hb, rfl⟩ := valSI_in e2
      show b.2.natAbs ≤ _
      exact Nat.le_trans (hv b hb) h.1
    | none => exact Nat.zero_le _
theorem putSI_in {m : List SI} {z : Str} {v : Int} {b : SI} (h : b ∈ putSI m z v) : b ∈ m ∨ b.2 = v := by
  unfold putSI at h
  split at h
  · obtain ⟨x, hx, rfl⟩ := List.mem_map.mp h
    split
    · exact Or.inr rfl
    · exact Or.inl hx
  · rcases List.mem_append.mp h with h | h
    · exact Or.inl h
    · rw [List.mem_singleton.mp h]; exact Or.inr rfl
theorem LfB.step {p : PlanL} {vs : List SI} {n : Nat} {l l' : Lf} {d : Dd} (h : LfB n l) (hv : ValsB vs) (hd : d.ok p.locks p.cellNames) (e : stepL p vs l d = some l') : LfB (n + uN) l' := by
  obtain ⟨h0, h1, h2⟩ := h
  have h0' : uN ≤ n + uN := by omega
  have h2' : ∀ b ∈ l.dr, b.2.natAbs ≤ n + uN := fun b hb => by have := h2 b hb; omega
  cases d with
  | set m => obtain rfl := Option.some.inj e; have := far_abs hd; exact ⟨h0', by show m.natAbs ≤ _; omega, h2'⟩
  | add m => obtain rfl := Option.some.inj e; have := far_abs hd; exact ⟨h0', by show (l.hand + m).natAbs ≤ _; omega, h2'⟩
  | skip m k => obtain rfl := Option.some.inj e; exact ⟨h0', by show l.hand.natAbs ≤ _; omega, h2'⟩
  | quit => exact nomatch e
  | take z => obtain rfl := Option.some.inj e; exact ⟨h0', by show l.hand.natAbs ≤ _; omega, h2'⟩
  | read c =>
    simp only [stepL] at e
    split at e
    · obtain rfl := Option.some.inj e
      have := found_b (c := c) ⟨h0, h1, h2⟩ hv
      exact ⟨h0', by show (foundL l vs c).natAbs ≤ _; omega, h2'⟩
    · exact nomatch e
  | write c =>
    simp only [stepL] at e
    split at e
    · obtain rfl := Option.some.inj e
      refine ⟨h0', by show l.hand.natAbs ≤ _; omega, fun b hb => ?_⟩
      rcases putSI_in ((sortSI_pm _).mem_iff.mp hb) with hb | hb
      · exact h2' b hb
      · rw [hb]; omega
    · exact nomatch e
/-- an outcome's bounds -/
def OutB (p : PlanL) (n : Nat) (o : Out) : Prop := o.hand.natAbs ≤ n ∧ (∀ b ∈ o.dr, b.2.natAbs ≤ n) ∧ (keysSI o.dr).Nodup ∧ ∀ k ∈ keysSI o.dr, k ∈ p.cellNames
theorem OutB.mono {p : PlanL} {n m : Nat} {o : Out} (h : OutB p n o) (hm : n ≤ m) : OutB p m o := by
  obtain ⟨a, b, c⟩ := h
  exact ⟨Nat.le_trans a hm, fun x hx => Nat.le_trans (b x hx) hm, c⟩
end L4
namespace L4
open PySem PySem.Spec PyProof.Rows L2 TB LamX L3
def Cps (z : Str) : Prop := ∀ c ∈ z.cps.toList, c < 1114112
theorem char_lt (ch : Char) : ch.toNat < 1114112 := by
  have := ch.valid
  have e : ch.toNat = ch.val.toNat := rfl
  rcases this with h | ⟨_, h⟩
  · have : ch.val.toNat < 55296 := h
    omega
  · exact h
theorem Cps.of (s : String) : Cps (Str.ofString s) := by
  intro c hc
  rw [signs_ofString] at hc
  obtain ⟨ch, _, rfl⟩ := List.mem_map.mp hc
  exact char_lt ch
theorem Cps.app {a b : Str} (h : Cps a) (k : Cps b) : Cps (a ++ b) := fun c hc => (mem_cps_append.mp hc).elim (h c) (k c)
theorem Cps.join {sep : Str} (hs : Cps sep) {ts : List Str} (h : ∀ t ∈ ts, Cps t) : Cps (Str.join sep ts) := fun c hc => by
  rcases (mem_join sep c ts).mp hc with ⟨t, ht, hc⟩ | ⟨_, hc⟩
  · exact h t ht c hc
  · exact hs c hc
theorem hex_lt {w n : Nat} : ∀ c ∈ (List.replicate (w - ((Nat.toDigits 16 n).map Char.toNat).length) 48 ++ (Nat.toDigits 16 n).map Char.toNat), c < 1114112 := by
  intro c hc
  rcases List.mem_append.mp hc with hc | hc
  · rw [(List.mem_replicate.mp hc).2]; decide
  · obtain ⟨ch, _, rfl⟩ := List.mem_map.mp hc
    exact char_lt ch
theorem reprChar_lt {q c : Nat} (hc : c < 1114112) : ∀ d ∈ Builtin.Str.reprChar q c, d < 1114112 := by
  intro d hd
  unfold Builtin.Str.reprChar at hd
  have two : ∀ {a b : Nat}, a < 1114112 → b < 1114112 → d ∈ [a, b] → d < 1114112 := fun ha hb h => by
    rcases List.mem_cons.mp h with rfl | h
    · exact ha
    · rw [List.mem_singleton.mp h]; exact hb
  have three : ∀ {a b w : Nat}, a < 1114112 → b < 1114112 → d ∈ [a, b] ++ (List.replicate (w - ((Nat.toDigits 16 c).map Char.toNat).length) 48 ++ (Nat.toDigits 16 c).map Char.toNat) → d < 1114112 := fun ha hb h => by
    rcases List.mem_append.mp h with h | h
    · exact two ha hb h
    · exact hex_lt d h
  split at hd
  · exact two (by decide) hc hd
  split at hd
  · exact two (by decide) (by decide) hd
  split at hd
  · exact two (by decide) (by decide) hd
  split at hd
  · exact two (by decide) (by decide) hd
  split at hd
  · rw [List.mem_singleton.mp hd]; exact hc
  split at hd
  · exact three (by decide) (by decide) hd
  split at hd
  · exact three (by decide) (by decide) hd
  · exact three (by decide) (by decide) hd
theorem foldl_lt {q : Nat} : ∀ (l : List Nat) (acc : Array Nat), (∀ c ∈ l, c < 1114112) → (∀ c ∈ acc.toList, c < 1114112) → ∀ c ∈ (l.foldl (fun out c => out ++ (Builtin.Str.reprChar q c).toArray) acc).toList, c < 1114112
  | [], acc, _, h, c, hc => h c hc
  | x :: l, acc, hl, h, c, hc => by
    refine foldl_lt l _ (fun y hy => hl y (List.mem_cons_of_mem _ hy)) (fun y hy => ?_) c hc
    rw [Array.toList_append, List.toList_toArray] at hy
    rcases List.mem_append.mp hy with hy | hy
    · exact h y hy
    · exact reprChar_lt (hl x List.mem_cons_self) y hy
theorem Cps.repr {z : Str} (h : Cps z) : Cps (reprText z) := by
  intro c hc
  unfold reprText at hc
  have q : reprQuote z < 1114112 := by unfold reprQuote; split <;> decide
  have hc : c ∈ ((z.cps.foldl (fun out c => out ++ (Builtin.Str.reprChar (reprQuote z) c).toArray) #[reprQuote z]).push (reprQuote z)).toList := hc
  rw [Array.toList_push, ← Array.foldl_toList] at hc
  rcases List.mem_append.mp hc with hc | hc
  · exact foldl_lt _ _ h (fun y hy => by rw [List.mem_singleton.mp hy]; exact q) c hc
  · rw [List.mem_singleton.mp hc]; exact q
theorem Cps.ok {z : Str} (h : Cps z) : PyData.strOk z = true := by
  unfold PyData.strOk
  rw [← Array.all_toList, List.all_eq_true]
  exact fun c hc => decide_eq_true (h c hc)
theorem Cps.back {z : Str} (h : PyData.strOk z = true) : Cps z := by
  unfold PyData.strOk at h
  rw [← Array.all_toList, List.all_eq_true] at h
  exact fun c hc => of_decide_eq_true (h c hc)
theorem Cps.from : ∀ {ts : List Str} {k : Nat} {acc : Str}, Cps acc → (∀ t ∈ ts, Cps t) → Cps (textFrom k acc ts)
  | [], _, acc, h, _ => h
  | t :: ts, k, acc, h, ht => by
    refine Cps.from (ts := ts) ((h.app ?_).app (ht t List.mem_cons_self)) fun u hu => ht u (List.mem_cons_of_mem _ hu)
    split
    · exact Cps.of ", "
    · exact Cps.of ""
mutual
theorem shown_cps : ∀ {x : PyData}, x.canLay0 = true → Cps x.shown
  | .none, _ => by simp only [PyData.shown]; exact Cps.of _
  | .bool b, _ => by
    simp only [PyData.shown]
    cases b
    · exact Cps.of "False"
    · exact Cps.of "True"
  | .int i, _ => by simp only [PyData.shown]; exact Cps.of _
  | .str z, h => by
    simp only [PyData.shown]
    simp only [PyData.canLay0] at h
    exact (Cps.back h).repr
  | .list xs, h => by
    simp only [PyData.shown, listText]
    simp only [PyData.canLay0] at h
    exact (Cps.from (Cps.of "[") (shownAll_cps h)).app (Cps.of "]")
  | .tuple xs, h => by
    simp only [PyData.shown, tupleText]
    simp only [PyData.canLay0] at h
    refine ((Cps.of "(").app (Cps.join (Cps.of ", ") (shownAll_cps h))).app ?_
    split
    · exact Cps.of ",)"
    · exact Cps.of ")"
  | .dict _, h => by simp [PyData.canLay0] at h
theorem shownAll_cps : ∀ {xs : List PyData}, PyData.canLayAll0 xs = true → ∀ t ∈ PyData.shownAll xs, Cps t
  | [], _, t, ht => by rw [PyData.shownAll_nil] at ht; exact absurd ht (by simp)
  | x :: r, h, t, ht => by
    simp only [PyData.canLayAll0, Bool.and_eq_true] at h
    rw [PyData.shownAll_cons, List.mem_cons] at ht
    rcases ht with e | ht
    · rw [e]; exact shown_cps h.1
    · exact shownAll_cps h.2 t ht
end
/-- a text shown is sound -/
theorem sho_ok {d : D} (c : cln d = true) : PyData.strOk (shoD d) = true := by
  obtain ⟨x, e, h, _⟩ := cln_pd c
  have e2 := pd_pdX e
  unfold shoD
  rw [e2]
  exact (shown_cps h).ok
end L4
namespace L4
open PySem PySem.Spec PyProof.Rows L2 TB LamX L3
end L4
namespace L4
open PySem PySem.Spec PyProof.Rows L2 TB LamX L3
def noSkip (d : Dd) : Prop := ∀ n m, d ≠ .skip n m
def pBehind : PSp := fun ds Q => ∃ (ls : List Str) (cs : List Cl), ds = [potD, .lst (strsD ls), .lst (cs.map clD)] ∧ ls.length ≤ 7 ∧ cs.length ≤ 8 ∧ ∀ b : List Dd, b.length ≤ 3 → (∀ d ∈ b, noSkip d ∧ d.ok ls (cs.map (·.name))) → Q (.new (b.map ddD)) none
end L4
namespace L3
open PySem PySem.Spec PyProof.Rows L2 TB LamX
end L3
namespace L3
open PySem PySem.Spec PyProof.Rows L2
end L3
namespace L4
open PySem PySem.Spec PyProof.Rows L2 TB LamX L3
section
variable {X : Sx} {W : WX}
def sPar4 (i j : Nat) (pa : QA4) : QS4 := fun P ρ μ => pa ρ μ fun xs μ1 => ∃ x y, xs = [x, y] ∧ P.nx ((ρ.set i (some x)).set j (some y)) μ1
theorem s_par {i j : Nat} {ta : TA} {pa : QA4} (h1 : A4 X ta pa) : S4 X W (tPar i j ta) (sPar4 i j pa) := fun c e => by
  subst e
  intro σ F H μ ρ D P R a ax h
  refine h1 c rfl σ F H μ ρ _ _ R ?_ h
  rintro xs vs F' H' μ' R' s rv ⟨x, y, rfl, q⟩
  obtain ⟨v, t, rfl, r1, w, t2, rfl, r2, e3⟩ := rv
  obtain rfl : t2 = [] := e3
  exact ⟨v, w, rfl, a.nx _ F' H' μ' _ ((R'.setV (i := i) r1).setV (i := j) r2) s q⟩
theorem v_par {i j : Nat} {pa : QA4} {P : P4} {ρ : PS} {μ : Mu} (h : pa ρ μ fun xs μ1 => ∃ x y, xs = [x, y] ∧ P.nx ((ρ.set i (some x)).set j (some y)) μ1) : sPar4 i j pa P ρ μ := h
end
end L4
namespace L4
open PySem PySem.Spec PyProof.Rows L2 TB LamX L3
end L4
namespace L4
open PySem PySem.Spec PyProof.Rows L2 TB LamX L3
end L4
namespace L4
open PySem PySem.Spec PyProof.Rows L2 TB LamX L3
theorem R4.restate {c : C4} {F H : Hp} {μ : Mu} {σ : L2.St} {ρ : PS} (R : R4 c F H μ σ ρ) {p : Addr} {m m' : MO} (h : μ p = some m) (hm : MOk c.K F H p m') : R4 c F H (updM μ p m') σ ρ := R.own (R.mu p m h).1 hm (R.mf p m h)
theorem R4.freezeG {c : C4} {F H : Hp} {μ : Mu} {σ : L2.St} {ρ : PS} (R : R4 c F H μ σ ρ) {p : Addr} {m : MO} {o : HO} (h : μ p = some m) (e : H p = some o) : R4 c (upd F p o) H (delM μ p) σ ρ ∧ Same F (upd F p o) := by
  obtain ⟨hF, _⟩ := R.mu p _ h
  have sF : Same F (upd F p o) := fun _ _ e => old_upd hF e
  refine ⟨⟨R.len, fun b u e2 => ?_, fun i x e2 => ?_, fun a m e2 => ?_, fun a m e2 => ?_, R.nt, R.tab, fun x hx => ?_, tr R.fr sF, R.kp, R.dom, fun b u e2 => ?_⟩, sF⟩
  · by_cases q : b = p
    · subst q
      rw [upd_same] at e2
      rw [e]; exact e2
    · rw [upd_ne q] at e2
      exact R.sub _ _ e2
  · obtain ⟨v, e1, r⟩ := R.slot i x e2
    exact ⟨v, e1, r.mono sF⟩
  · by_cases q : a = p
    · rw [q, delM_same] at e2; exact nomatch e2
    · rw [delM_ne q] at e2
      obtain ⟨f, mo⟩ := R.mu a m e2
      exact ⟨by rw [upd_ne q]; exact f, mo.keep sF fun _ _ z _ => z⟩
  · by_cases q : a = p
    · rw [q, delM_same] at e2; exact nomatch e2
    · rw [delM_ne q] at e2
      exact R.mf a m e2
  · rw [upd_ne (fun z => R.mtab h x hx z.symm)]
    exact R.tabF x hx
  · by_cases q : b = p
    · subst q
      rcases R.mf b _ h with y | y
      · exact Or.inr (Or.inr (Or.inl y))
      · exact Or.inr (Or.inl y)
    · rw [upd_ne q] at e2
      exact R.nw b u e2
theorem R4.freezeD {c : C4} {F H : Hp} {μ : Mu} {σ : L2.St} {ρ : PS} (R : R4 c F H μ σ ρ) {p : Addr} {m : List (Key × D)} (h : μ p = some (.dic (dKV m))) : ∃ F', R4 c F' H (delM μ p) σ ρ ∧ Same F F' ∧ Rp c.K F' (L4.dicD m) (.ref p) := by
  obtain ⟨hF, ws, e, rk⟩ := R.mu p _ h
  obtain ⟨R2, s2⟩ := R.freezeG h e
  obtain ⟨vs, rfl, rp⟩ := rk_dicD rk
  exact ⟨_, R2, s2, p, vs, rfl, upd_same, rp.mono s2⟩
def subV (n : Addr) (d : D) : Vl → Vl
  | .loc b => if b = n then .d d else .loc b
  | x => x
def subK (n : Addr) (d : D) (kvs : List (Key × Vl)) : List (Key × Vl) := kvs.map fun kx => (kx.1, subV n d kx.2)
theorem rv_sub {K : PySem.W.Frag} {F : Hp} {n : Addr} {d : D} {x : Vl} {v : V} (h : RV K F x v) (hd : Rp K F d (.ref n)) : RV K F (subV n d x) v := by
  cases x with
  | d d => exact h
  | tup xs => exact h
  | loc b =>
    obtain rfl : v = .ref b := h
    show RV K F (if b = n then .d d else .loc b) _
    split
    · rename_i e
      rw [e]
      exact hd
    · exact rfl
theorem rk_sub {K : PySem.W.Frag} {F : Hp} {n : Addr} {d : D} (hd : Rp K F d (.ref n)) : ∀ {kvs : List (Key × Vl)} {ws : List (Key × V)}, RK K F kvs ws → RK K F (subK n d kvs) ws
  | [], ws, h => h
  | (k, x) :: kvs, ws, h => by
    obtain ⟨v, r, rfl, q, t⟩ := h
    exact ⟨v, r, rfl, rv_sub q hd, rk_sub hd t⟩
/-- a dict within a dict is left as it stands -/
def Frz (μ μ2 : Mu) : Prop := μ2 = μ ∨ ∃ n a kvs m, μ n = some (.dic (dKV m)) ∧ n ≠ a ∧ μ a = some (.dic kvs) ∧ μ2 = updM (delM μ n) a (.dic (subK n (dicD m) kvs))
theorem R4.frz {c : C4} {F H : Hp} {μ μ2 : Mu} {σ : L2.St} {ρ : PS} (R : R4 c F H μ σ ρ) (h : Frz μ μ2) : ∃ F', R4 c F' H μ2 σ ρ ∧ Same F F' := by
  rcases h with rfl | ⟨n, a, kvs, m, hn, na, ha, rfl⟩
  · exact ⟨F, R, L3.Same.refl F⟩
  · obtain ⟨F', R2, s2, rp⟩ := R.freezeD hn
    have ha2 : delM μ n a = some (.dic kvs) := by rw [delM_ne (fun e => na e.symm)]; exact ha
    obtain ⟨_, ws, e, rk⟩ := R2.mu a _ ha2
    exact ⟨F', R2.restate ha2 ⟨ws, e, rk_sub rp rk⟩, s2⟩
theorem rd4_loc {μ : Mu} {l : Addr} {ds : List D} (h : μ l = some (.lst (ds.map Vl.d))) : rd4 μ (.loc l) = some (.lst ds) := by
  show (match μ l with | some (MO.lst vs) => (allD vs).map D.lst | _ => none) = _
  rw [h]
  show (allD (ds.map Vl.d)).map D.lst = _
  rw [allD_map]
  rfl
theorem rdL4_loc {μ : Mu} {l : Addr} {ds : List D} (h : μ l = some (.lst (ds.map Vl.d))) : rdL4 μ [.loc l] = some [.lst ds] := by
  show (match rd4 μ (.loc l), rdL4 μ [] with | some d, some ds => some (d :: ds) | _, _ => none) = _
  rw [rd4_loc h]
  rfl
end L4
namespace L4
open PySem PySem.Spec PyProof.Rows L2 TB LamX L3
theorem LfB.mono {n m : Nat} {l : Lf} (h : LfB n l) (hm : n ≤ m) : LfB m l := ⟨Nat.le_trans h.1 hm, Nat.le_trans h.2.1 hm, fun b hb => Nat.le_trans (h.2.2 b hb) hm⟩
end L4
namespace L2
open PySem PySem.Spec PyProof.Rows
end L2
namespace L4
open PySem PySem.Spec PyProof.Rows L2 TB LamX L3
end L4
namespace L2
open PySem PySem.Spec PyProof.Rows
end L2
namespace L4
open PySem PySem.Spec PyProof.Rows L2 TB LamX L3
def FrzR (μ : Mu) (x : Vl) (μ2 : Mu) (x2 : Vl) : Prop := ∀ (c : C4) (F H : Hp) (σ : L2.St) (ρ : PS) (v : V), R4 c F H μ σ ρ → RV c.K F x v → ∃ F', R4 c F' H μ2 σ ρ ∧ Same F F' ∧ RV c.K F' x2 v
theorem FrzR.refl (μ : Mu) (x : Vl) : FrzR μ x μ x := fun c F H σ ρ v R h => ⟨F, R, L3.Same.refl F, h⟩
theorem FrzR.lst {μ : Mu} {p : Addr} {ds : List D} (h : μ p = some (.lst (ds.map Vl.d))) : FrzR μ (.loc p) (delM μ p) (.d (.lst ds)) := fun c F H σ ρ v R r => by
  obtain rfl : v = .ref p := r
  obtain ⟨ws, R2, s2, rp⟩ := R.freezeL h
  exact ⟨_, R2, s2, rp⟩
theorem FrzR.dic {μ : Mu} {p : Addr} {m : List (Key × D)} (h : μ p = some (.dic (dKV m))) : FrzR μ (.loc p) (delM μ p) (.d (dicD m)) := fun c F H σ ρ v R r => by
  obtain rfl : v = .ref p := r
  obtain ⟨F', R2, s2, rp⟩ := R.freezeD h
  exact ⟨F', R2, s2, rp⟩
end L4
namespace L4
open PySem PySem.Spec PyProof.Rows L2 TB LamX L3
def worldX (p : PlanL) (x : Vl) (o a f : Addr) : List (Key × Vl) :=
  [(.inr "locks", .d (.lst (strsD p.locks))), (.inr "slots", .d (.lst (p.cells.map clD))), (.inr "order", .loc o), (.inr "acts", .loc a), (.inr "folk", .loc f), (.inr "pairs", .d (.lst [])),
   (.inr "values", x), (.inr "latch", .d (latchD p)), (.inr "rows", .d (rowsD0 p)), (.inr "asks", .d (.lst [])), (.inr "ends", .d (.lst []))]
def actsK (ts : List Tk) : List (Key × Vl) := ts.map fun t => (.inr t.1, .d (.lst (t.2.map ddD)))
def ordV (ts : List Tk) : List Vl := ts.map fun t => .d (.str t.1)
/-- a world whose latches and values are so, whatever becomes of a -/
def WAt (p : PlanL) (vs : List SI) (w : Addr) (μ : Mu) (a : Addr) : Prop := w ≠ a ∧ ∃ kvs x, μ w = some (.dic kvs) ∧ val4 kvs (.inr "latch") = some (.d (latchD p)) ∧ val4 kvs (.inr "values") = some x ∧ x ≠ .loc a ∧ dicOf μ x = some (kvSI vs)
theorem dicOf_upd {μ : Mu} {x : Vl} {a : Addr} {m : MO} (h : x ≠ .loc a) : dicOf (updM μ a m) x = dicOf μ x := by
  cases x with
  | d d => cases d <;> rfl
  | tup xs => rfl
  | loc b =>
    show (match updM μ a m b with | some (MO.dic kvs) => some kvs | _ => none) = (match μ b with | some (MO.dic kvs) => some kvs | _ => none)
    rw [updM_ne fun e => h (by rw [e])]
theorem WAt.upd {p : PlanL} {vs : List SI} {w : Addr} {μ : Mu} {a : Addr} {m : MO} (h : WAt p vs w μ a) : WAt p vs w (updM μ a m) a := by
  obtain ⟨n, kvs, x, h1, h2, h3, h4, h5⟩ := h
  exact ⟨n, kvs, x, by rw [updM_ne n]; exact h1, h2, h3, h4, by rw [dicOf_upd h4]; exact h5⟩
/-- .. at a new place -/
theorem WAt.new {p : PlanL} {vs : List SI} {w : Addr} {μ : Mu} {kvs : List (Key × Vl)} {x : Vl} {a : Addr} {m : MO} (na : μ a = none) (h1 : μ w = some (.dic kvs)) (h2 : val4 kvs (.inr "latch") = some (.d (latchD p))) (h3 : val4 kvs (.inr "values") = some x) (h5 : dicOf μ x = some (kvSI vs)) : WAt p vs w (updM μ a m) a := by
  have n : w ≠ a := fun e => by rw [e, na] at h1; exact nomatch h1
  have h4 : x ≠ .loc a := fun e => by
    rw [e] at h5
    have e2 : (match μ a with | some (MO.dic kvs) => some kvs | _ => none) = some (kvSI vs) := h5
    rw [na] at e2
    exact nomatch e2
  exact ⟨n, kvs, x, by rw [updM_ne n]; exact h1, h2, h3, h4, by rw [dicOf_upd h4]; exact h5⟩
end L4
namespace L4
open PySem PySem.Spec PyProof.Rows L2 TB LamX L3
def updSI (vs dr : List SI) : List SI := dr.foldl (fun acc b => putSI acc b.1 b.2) vs
def ValsN (n : Nat) (vs : List SI) : Prop := ∀ b ∈ vs, b.2.natAbs ≤ n
theorem ValsN.mono {n m : Nat} {vs : List SI} (h : ValsN n vs) (hm : n ≤ m) : ValsN m vs := fun b hb => Nat.le_trans (h b hb) hm
theorem ValsN.upd {n : Nat} {vs dr : List SI} (h : ValsN n vs) (h2 : ValsN n dr) : ValsN n (updSI vs dr) := by
  induction dr generalizing vs with
  | nil => exact h
  | cons b r ih =>
    refine ih (fun x hx => ?_) fun x hx => h2 x (List.mem_cons_of_mem _ hx)
    rcases putSI_in hx with hx | hx
    · exact h x hx
    · rw [hx]; exact h2 b List.mem_cons_self
def LfN (n : Nat) (l : Lf) : Prop := l.hand.natAbs ≤ n ∧ ValsN n l.dr
theorem LfN.step {p : PlanL} {vs : List SI} {n : Nat} {l l' : Lf} {d : Dd} (h : LfN n l) (hv : ValsN n vs) (hu : uN ≤ n) (hd : d.ok p.locks p.cellNames) (e : stepL p vs l d = some l') : LfN (n + uN) l' := by
  obtain ⟨h1, h2⟩ := h
  have h2' : ValsN (n + uN) l.dr := h2.mono (by omega)
  cases d with
  | set m => obtain rfl := Option.some.inj e; have := far_abs hd; exact ⟨by show m.natAbs ≤ _; omega, h2'⟩
  | add m => obtain rfl := Option.some.inj e; have := far_abs hd; exact ⟨by show (l.hand + m).natAbs ≤ _; omega, h2'⟩
  | skip m k => obtain rfl := Option.some.inj e; exact ⟨by show l.hand.natAbs ≤ _; omega, h2'⟩
  | quit => exact nomatch e
  | take z => obtain rfl := Option.some.inj e; exact ⟨by show l.hand.natAbs ≤ _; omega, h2'⟩
  | read c =>
    simp only [stepL] at e
    split at e
    · obtain rfl := Option.some.inj e
      refine ⟨?_, h2'⟩
      show (foundL l vs c).natAbs ≤ _
      unfold foundL
      cases e : valSI l.dr c with
      | some v =>
        obtain ⟨b, hb, rfl⟩ := valSI_in e
        have := h2 b hb
        show b.2.natAbs ≤ _
        omega
      | none =>
        cases e2 : valSI vs c with
        | some v =>
          obtain ⟨b, hb, rfl⟩ := valSI_in e2
          have := hv b hb
          show b.2.natAbs ≤ _
          omega
        | none => exact Nat.zero_le _
    · exact nomatch e
  | write c =>
    simp only [stepL] at e
    split at e
    · obtain rfl := Option.some.inj e
      refine ⟨by show l.hand.natAbs ≤ _; omega, fun b hb => ?_⟩
      rcases putSI_in ((sortSI_pm _).mem_iff.mp hb) with hb | hb
      · exact h2' b hb
      · rw [hb]; omega
    · exact nomatch e
def tnames (p : PlanL) : List Str := p.tasks.map (·.1)
abbrev Trip := Str × Str × Int
def encT (t : Trip) : D := .tup [.str t.1, .str t.2.1, .int t.2.2]
def StrB (z : Str) : Prop := (∀ c ∈ z.cps.toList, c < 1114112) ∧ z.length ≤ 10 ∧ PyData.strOk z = true
def TripB (n : Nat) (t : Trip) : Prop := StrB t.1 ∧ StrB t.2.1 ∧ t.2.2.natAbs ≤ n
theorem TripB.mono {n m : Nat} {t : Trip} (h : TripB n t) (hm : n ≤ m) : TripB m t := ⟨h.1, h.2.1, Nat.le_trans h.2.2 hm⟩
end L4
namespace L2
open PySem PySem.Spec PyProof.Rows
end L2
namespace L4
open PySem PySem.Spec PyProof.Rows L2 TB LamX L3
end L4
namespace L4
open PySem PySem.Spec PyProof.Rows L2 TB LamX L3
end L4
namespace L2
open PySem PySem.Spec PyProof.Rows TB
open PySem.SeqAt (EqIn EqAt rcIn_tuples)
end L2
namespace L4
open PySem PySem.Spec PyProof.Rows L2 TB LamX L3
end L4
namespace L4
open PySem PySem.Spec PyProof.Rows L2 TB LamX L3
def ShB (vs : List SI) (ts : List Trip) : Prop := ∃ n, n < 10 ^ 20 ∧ ValsN n vs ∧ (∀ b ∈ vs, Nm b.1) ∧ vs.length ≤ 9 ∧ (∀ t ∈ ts, TripB n t) ∧ ts.length ≤ 58
end L4
namespace L4
open PySem PySem.Spec PyProof.Rows L2 TB LamX L3
end L4
namespace L4
open PySem PySem.Spec PyProof.Rows L2 TB LamX L3
end L4
namespace L4
open PySem PySem.Spec PyProof.Rows L2 TB LamX L3
abbrev Rec := Addr × Addr × List SI × List Trip
def LiveR (μ : Mu) (c : Rec) : Prop := c.1 ≠ c.2.1 ∧ μ c.1 = some (.dic (kvSI c.2.2.1)) ∧ μ c.2.1 = some (.lst ((c.2.2.2.map encT).map Vl.d))
def OffR (t : Addr) (c : Rec) : Prop := c.1 ≠ t ∧ c.2.1 ≠ t
theorem LiveR.kept {μ μ' : Mu} {c : Rec} (k : Kept μ μ') (h : LiveR μ c) : LiveR μ' c := ⟨h.1, k.at h.2.1, k.at h.2.2⟩
theorem LiveR.upd {μ : Mu} {c : Rec} {t : Addr} {m : MO} (h : LiveR μ c) (o : OffR t c) : LiveR (updM μ t m) c := ⟨h.1, by rw [updM_ne o.1]; exact h.2.1, by rw [updM_ne o.2]; exact h.2.2⟩
theorem ShB.len {vs : List SI} {ts : List Trip} (h : ShB vs ts) : ((ts.map encT).map Vl.d).length ≤ 1000 := by
  obtain ⟨n, _, _, _, _, _, h5⟩ := h
  rw [List.length_map, List.length_map]
  omega
end L4
namespace L2
open PySem PySem.Spec PyProof.Rows TB L3
end L2
namespace L4
open PySem PySem.Spec PyProof.Rows L2 TB LamX L3
end L4
namespace L4
open PySem PySem.Spec PyProof.Rows L2 TB LamX L3
section
variable {X : Sx} {K : PySem.W.Frag}
theorem Mkg.after {c : C4} {F2 H2 : Hp} {μ2 : Mu} {σ : L2.St} {ρ : PS} {A : Addr} {acc : List Vl} (R2 : R4 c F2 H2 μ2 σ ρ) (n2 : Mkg c F2 H2 μ2 A acc) {F4 H4 : Hp} {μ4 : Mu} {σ4 : L2.St} {ρ4 : PS} (R4' : R4 (c.at F2 H2 μ2) F4 H4 μ4 σ4 ρ4) : Mkg c F4 H4 μ4 A acc := by
  obtain ⟨ws, hA2, rA2⟩ := n2.l
  have ntb : NoTb4 c.X A := R2.notab hA2 (fun ps => by simp)
  have hA4 : H4 A = some (.lst ws) := R4'.kp A _ hA2 n2.m ntb
  refine ⟨⟨ws, hA4, rA2.mono R4'.fr⟩, ?_, ?_, n2.b⟩
  · cases e : F4 A with
    | none => rfl
    | some o =>
      rcases R4'.nw A o e with z | z | z | z
      · have z2 : F2 A = some o := z
        rw [n2.f] at z2; exact nomatch z2
      · have z2 : H2 A = none := z
        rw [hA2] at z2; exact nomatch z2
      · exact absurd n2.m z
      · have z2 := R4'.sub _ _ e
        rw [hA4] at z2
        cases z2
        exact z.elim
  · cases e : μ4 A with
    | none => rfl
    | some mm =>
      rcases R4'.mf A mm e with z | z
      · exact absurd n2.m z
      · have z2 : H2 A = none := z
        rw [hA2] at z2; exact nomatch z2
theorem Mkg.more {c : C4} {F H : Hp} {μ : Mu} {σ : L2.St} {ρ : PS} {A : Addr} {acc : List Vl} {us : List V} {y : Vl} {u : V} (R : R4 c F H μ σ ρ) (n : Mkg c F H μ A acc) (hA : H A = some (.lst us)) (rA : RVs c.K F acc us) (ru : RV c.K F y u) :
    R4 c F (upd H A (.lst (us ++ [u]))) μ σ ρ ∧ Mkg c F (upd H A (.lst (us ++ [u]))) μ A (acc ++ [y]) := by
  have rA8 : RVs c.K F (acc ++ [y]) (us ++ [u]) := rA.app (RVs.one ru)
  refine ⟨?_, ⟨⟨us ++ [u], upd_same, rA8⟩, n.f, n.m, n.b⟩⟩
  have R9 := (R.own (m := .lst acc) n.f ⟨us, hA, rA⟩ (Or.inr n.b)).mutL updM_same rA8
  refine ⟨R9.len, R9.sub, R9.slot, fun b m e => ?_, R.mf, R9.nt, R9.tab, R9.tabF, R9.fr, R9.kp, R9.dom, R9.nw⟩
  have ne : b ≠ A := fun z => by rw [z, n.m] at e; exact nomatch e
  have e2 : updM (updM μ A (.lst acc)) A (.lst (acc ++ [y])) b = some m := by rw [updM_ne ne, updM_ne ne]; exact e
  exact R9.mu b m e2
end
end L4
namespace L4
open PySem PySem.Spec PyProof.Rows L2 TB LamX L3
def folkK (pl : List (Str × Addr)) : List (Key × Vl) := pl.map fun x => (.inr x.1, .loc x.2)
structure WF (p : PlanL) (vs : List SI) (pl : List (Str × Addr)) (st : Str → List (Key × Vl)) (w o a f v : Addr) (μ : Mu) : Prop where
  nd : (w :: o :: a :: f :: v :: pl.map (·.2)).Nodup
  names : pl.map (·.1) = tnames p
  hw : μ w = some (.dic (worldX p (.loc v) o a f))
  ho : μ o = some (.lst (ordV p.tasks))
  ha : μ a = some (.dic (actsK p.tasks))
  hf : μ f = some (.dic (folkK pl))
  hv : μ v = some (.dic (kvSI vs))
  ps : ∀ x ∈ pl, μ x.2 = some (.dic (st x.1))
theorem WF.mem {p : PlanL} {vs : List SI} {pl : List (Str × Addr)} {st : Str → List (Key × Vl)} {w o a f v : Addr} {μ : Mu} (h : WF p vs pl st w o a f v μ) {z : Str} (hz : z ∈ tnames p) : ∃ q, (z, q) ∈ pl := by
  rw [← h.names] at hz
  obtain ⟨x, hx, rfl⟩ := List.mem_map.mp hz
  exact ⟨x.2, hx⟩
theorem WF.same {p : PlanL} {vs : List SI} {pl : List (Str × Addr)} {st st' : Str → List (Key × Vl)} {w o a f v : Addr} {μ : Mu} (h : WF p vs pl st w o a f v μ) (e : ∀ y, st y = st' y) : WF p vs pl st' w o a f v μ :=
  ⟨h.nd, h.names, h.hw, h.ho, h.ha, h.hf, h.hv, fun x hx => by rw [← e]; exact h.ps x hx⟩
theorem WF.kept {p : PlanL} {vs : List SI} {pl : List (Str × Addr)} {st : Str → List (Key × Vl)} {w o a f v : Addr} {μ μ' : Mu} (h : WF p vs pl st w o a f v μ) (k : Kept μ μ') : WF p vs pl st w o a f v μ' :=
  ⟨h.nd, h.names, k.at h.hw, k.at h.ho, k.at h.ha, k.at h.hf, k.at h.hv, fun x hx => k.at (h.ps x hx)⟩
def OffE (pl : List (Str × Addr)) (w o a f v e : Addr) : Prop := w ≠ e ∧ o ≠ e ∧ a ≠ e ∧ f ≠ e ∧ v ≠ e ∧ ∀ x ∈ pl, x.2 ≠ e
theorem WF.fresh {p : PlanL} {vs : List SI} {pl : List (Str × Addr)} {st : Str → List (Key × Vl)} {w o a f v e : Addr} {μ : Mu} (h : WF p vs pl st w o a f v μ) (n : μ e = none) : OffE pl w o a f v e := by
  have g : ∀ {b : Addr} {m : MO}, μ b = some m → b ≠ e := fun h1 h2 => by rw [h2, n] at h1; exact nomatch h1
  exact ⟨g h.hw, g h.ho, g h.ha, g h.hf, g h.hv, fun x hx => g (h.ps x hx)⟩
/-- rows in the making, at μ'' behind μ' -/
def RowsMk (μ' μ'' : Mu) (acc : List Vl) (rw : List (Addr × List Str)) : Prop := acc = rw.map (fun x => .loc x.1) ∧ Kept μ' μ'' ∧ (∀ x ∈ rw, μ'' x.1 = some (.lst ((strsD x.2).map Vl.d))) ∧ (rw.map (·.1)).Nodup ∧ ∀ x ∈ rw, μ' x.1 = none
theorem RowsMk.more {μ' μ'' : Mu} {acc : List Vl} {rw : List (Addr × List Str)} {q : Addr} {o : List Str} (h : RowsMk μ' μ'' acc rw) (n : μ'' q = none) : RowsMk μ' (updM μ'' q (.lst ((strsD o).map Vl.d))) (acc ++ [.loc q]) (rw ++ [(q, o)]) := by
  obtain ⟨h1, h2, h3, h4, h5⟩ := h
  have ne : ∀ x ∈ rw, x.1 ≠ q := fun x hx e => by have := h3 x hx; rw [e, n] at this; exact nomatch this
  refine ⟨by rw [h1, List.map_append]; rfl, h2.new (h2.none n), fun x hx => ?_, ?_, fun x hx => ?_⟩
  · rcases List.mem_append.mp hx with hx | hx
    · rw [updM_ne (ne x hx)]; exact h3 x hx
    · rw [List.mem_singleton.mp hx]; exact updM_same
  · rw [List.map_append]
    refine List.nodup_append.mpr ⟨h4, List.nodup_cons.mpr ⟨List.not_mem_nil, List.nodup_nil⟩, fun a ha b hb e => ?_⟩
    obtain ⟨x, hx, rfl⟩ := List.mem_map.mp ha
    rw [List.mem_singleton.mp hb] at e
    exact ne x hx e
  · rcases List.mem_append.mp hx with hx | hx
    · exact h5 x hx
    · rw [List.mem_singleton.mp hx]; exact h2.none n
end L4
namespace L4
open PySem PySem.Spec PyProof.Rows L2 TB LamX L3
end L4
namespace L4
open PySem PySem.Spec PyProof.Rows L2 TB LamX L3
end L4
namespace L2
open PySem PySem.Spec PyProof.Rows TB
/-- a def that may refuse, by its name -/
structure CalX (P : Program) (w : World) (K : PySem.W.Frag) (mg : Str → Option Value) (base : Heap) (k : Nat) (x : Str) (sp : Sp) (dvs : List V) : Prop where
  ex : ∃ (f : Addr) (fd : FuncData) (ps : List Str) (ds : List Value), FnOk P w K mg base (L2.CX P w) k f fd ps sp ∧ mg x = some (.ref f) ∧ PySem.W.keepIn K (.ref f) = true ∧ Binds K fd ps ds ∧ Vals dvs ds
section
variable {X : Cx} {k j : Nat} {C : Addr} {sp : Sp} {m x : Str} {p pos apos : Pos} {e o : Expr} {es : List Expr} {ta : TE} {t : TA} {W : WX}
theorem pe_cX {dvs : List V} (c : CalX X.prog X.w X.K X.mg X.base k x sp dvs) (hr : Room j X.A) (hk : k ≤ j) (tk : Takes X W) (hg : Gl X x) (ha : PA X (e :: es) t)
    (hdb : (x == ("__debug__" : Str)) = false := by decide) (he : starEach (e :: es) X.env = (false, eval e X.env) :: starEach es X.env := by rfl) (hpl : (backTo pos (starEach es X.env)).any (·.1) = false := by rfl) :
    PE X (.Call (.Name x p) (e :: es) [] pos) (tCallSD sp dvs (WE W) t) := by
  obtain ⟨f, fd, ps, ds, F, hm, hkp, b, hv⟩ := c.ex
  exact pe_callSD F (hr.mono hk) hg hm hkp b hv (passAt tk) ha hdb he hpl
/-- raise C(..) -/
def tRaise (W : WX) (C : Addr) (sp : Sp) (ta : TA) : TS := fun _ σ H => tMkO C sp [] ta σ H fun cls d H' => W cls d σ H'
theorem ps_raiseM {bmB : List Value} {B newId initId : String} {pos' : Pos} (hc : X.calm = true) (tk : Takes X W) (FB : PySem.ExcBaseFacts B newId initId bmB) (c : MakE X.prog X.w X.K X.mg X.base k x C sp bmB newId) (hr : Room j X.A) (hk : k + 1 ≤ j) (hg : Gl X x) (ha : PA X (e :: es) t)
    (hdb : (x == ("__debug__" : Str)) = false := by decide) (he : starEach (e :: es) X.env = (false, eval e X.env) :: starEach es X.env := by rfl) (hpl : (backTo pos (starEach es X.env)).any (·.1) = false := by rfl) :
    PS X (.Raise (some (.Call (.Name x p) (e :: es) [] pos)) none pos') (tRaise W C sp t) := ps_raise hc tk (pmk_e FB c hr hk hg ha hdb he hpl)
end
/-- an own refusal's __init__: what it is handed in is kept under these names -/
def spE (C : Addr) (ns : List Str) (ok : List V → Prop) : Sp := fun vs H Q _ => ∃ (x : Addr) (ws : List V), vs = .ref x :: ws ∧ ws.length = ns.length ∧ ok ws ∧ H x = some (exo x C none) ∧
  ∀ (dx : Addr) (H' : Hp), H dx = none → dx ≠ x → (∀ b, b ≠ x → b ≠ dx → H' b = H b) → H' x = some (exo x C (some dx)) → H' dx = some (exd dx (ns.zip ws).reverse) → Q .non H'
end L2
namespace L4
open PySem PySem.Spec PyProof.Rows L2 TB LamX L3
section
variable {K : PySem.W.Frag} {F F' H H' : Hp} {cls : Value} {d : Option Addr} {xd : XD}
theorem XOk.mono (s : Same F F') (h : XOk K F H cls d xd) : XOk K F' H' cls d xd := by
  obtain ⟨e, h⟩ := h
  refine ⟨e, ?_⟩
  rcases h with h | ⟨dx, ws, e1, e2, r⟩
  · exact Or.inl h
  · exact Or.inr ⟨dx, ws, e1, s _ _ e2, RK.mono s r⟩
theorem XOk.dct (s : Same F H) (h : XOk K F H' cls d xd) : DctAt H d := by
  rcases h.2 with h | ⟨dx, ws, e1, e2, r⟩
  · rw [h.1]; trivial
  · rw [e1]; exact ⟨ws, s _ _ e2⟩
end
/-- the caught refusal -/
def excD (K : PySem.W.Frag) (a : Addr) (cls : Value) (d : Option Addr) (xd : XD) : D := .op ⟨fun F v => v = .ref a ∧ XOk K F F cls d xd, fun s h => ⟨h.1, h.2.mono s⟩⟩
theorem rk_app {K : PySem.W.Frag} {F : Hp} {κ : Type} : ∀ {xs ys : List (κ × Vl)} {vs ws : List (κ × V)}, RK K F xs vs → RK K F ys ws → RK K F (xs ++ ys) (vs ++ ws)
  | [], ys, vs, ws, h, k => by rw [show vs = [] from h]; exact k
  | x :: xs, ys, vs, ws, h, k => by
    obtain ⟨v, r, rfl, q, t⟩ := h
    exact ⟨v, r ++ ws, rfl, q, rk_app t k⟩
theorem rk_rev {K : PySem.W.Frag} {F : Hp} {κ : Type} : ∀ {xs : List (κ × Vl)} {vs : List (κ × V)}, RK K F xs vs → RK K F xs.reverse vs.reverse
  | [], vs, h => by rw [show vs = [] from h]; rfl
  | x :: xs, vs, h => by
    obtain ⟨v, r, rfl, q, t⟩ := h
    rw [List.reverse_cons, List.reverse_cons]
    exact rk_app (rk_rev t) ⟨v, [], rfl, q, rfl⟩
theorem rk_zip {K : PySem.W.Frag} {F : Hp} : ∀ {ns : List Str} {xs : List Vl} {vs : List V}, RVs K F xs vs → RK K F (ns.zip xs) (ns.zip vs)
  | [], xs, vs, h => rfl
  | n :: ns, [], vs, h => by rw [show vs = [] from h]; rfl
  | n :: ns, x :: xs, vs, h => by
    obtain ⟨v, r, rfl, q, t⟩ := h
    exact ⟨v, _, rfl, q, rk_zip t⟩
section
variable {X : Sx} {W : WX}
def sRaise4 (C : Addr) (ns : List Str) (ok4 : List Vl → Prop) (pa : QA4) : QS4 := fun P ρ μ => pa ρ μ fun xs μ' => xs.length = ns.length ∧ ok4 xs ∧ P.ex ⟨C, (ns.zip xs).reverse⟩ ρ μ'
theorem s_raise {C : Addr} {ns : List Str} {ok : List V → Prop} {ok4 : List Vl → Prop} {ta : TA} {pa : QA4} (hn : ns.length ≤ 1000) (hk : ∀ F xs vs, RVs X.K F xs vs → ok4 xs → ok vs) (h : A4 X ta pa) : S4 X W (tRaise W C (spE C ns ok) ta) (sRaise4 C ns ok4 pa) := by
  intro c hX σ F H μ ρ D P R a ax hp
  refine h c hX σ F H μ ρ _ _ R ?_ hp
  rintro xs vs F1 H1 μ1 R1 s1 rv ⟨hl, ok1, q⟩
  have hl2 : vs.length = ns.length := by rw [rv.len]; exact hl
  refine ⟨by omega, fun x hx => ⟨x, vs, by rw [List.append_nil], hl2, hk F1 xs vs (by rw [← hX]; exact rv) ok1, upd_same, fun dx H' nd ne oth e1 e2 => ⟨rfl, dx, _, e1, e2, ?_, ?_⟩⟩⟩
  · rw [upd_ne ne] at nd
    exact nd
  · rw [upd_ne ne] at nd
    have eH : upd (del H' x) dx (.xd (ns.zip vs).reverse) = upd H1 dx (.xd (ns.zip vs).reverse) := by
      funext b
      by_cases eb : b = dx
      · rw [eb, upd_same, upd_same]
      · rw [upd_ne eb, upd_ne eb]
        by_cases ex : b = x
        · rw [ex, del_same, hx]
        · rw [del_ne ex, oth b ex eb, upd_ne ex]
    show W (.ref C) (some dx) σ (upd (del H' x) dx (.xd (ns.zip vs).reverse))
    rw [eH]
    have s2 : Same F1 (upd F1 dx (.xd (ns.zip vs).reverse)) := fun _ _ e => old_upd (R1.fnone nd) e
    exact ax σ _ _ μ1 ρ (.ref C) (some dx) _ (R1.alloc nd trivial) (tr s1 s2) ⟨rfl, Or.inr ⟨dx, _, rfl, upd_same, rk_rev (rk_zip (rv.mono s2))⟩⟩ q
theorem R4.clr {c : C4} {F H : Hp} {μ : Mu} {σ : L2.St} {ρ : PS} (R : R4 c F H μ σ ρ) (i : Nat) : R4 c F H μ (σ.set i none) (ρ.set i none) := by
  refine ⟨by rw [List.length_set, List.length_set]; exact R.len, R.sub, fun j x e => ?_, R.mu, R.mf, R.nt, R.tab, R.tabF, R.fr, R.kp, R.dom, R.nw⟩
  by_cases q : i = j
  · subst q
    have hl := (List.getElem?_eq_some_iff.mp e).1
    rw [List.length_set] at hl
    rw [List.getElem?_set_self hl] at e
    exact nomatch Option.some.inj e
  · rw [List.getElem?_set_ne q] at e ⊢
    exact R.slot j x e
abbrev trN (i : Nat) (P : P4) : P4 := { nx := fun ρ μ => P.nx (ρ.set i none) μ, rt := P.rt, bk := fun ρ μ => P.bk (ρ.set i none) μ, ct := fun ρ μ => P.ct (ρ.set i none) μ, ex := fun _ _ _ => False }
/-- e.f -/
def qXf (K : PySem.W.Frag) (a : Addr) (cls : Value) (d : Option Addr) (C : Addr) (f : Str) (pe : QE4) : QE4 := fun ρ μ Q => pe ρ μ fun x μ1 => ∃ xd y, x = .d (excD K a cls d xd) ∧ xd.C = C ∧ xd.fs.lookup f = some y ∧ Q y μ1
theorem e_xf {K : PySem.W.Frag} {a : Addr} {cls : Value} {d : Option Addr} {C : Addr} {f : Str} {te : TE} {pe : QE4} (h : E4 X te pe) (hK : X.K = K := by rfl) : E4 X (tXf a cls d C f te) (qXf K a cls d C f pe) := by
  subst hK
  intro c hX σ F H μ ρ Q Q4 R hq hp
  subst hX
  refine h c rfl σ F H μ ρ _ _ R ?_ hp
  rintro x v F1 H1 μ1 R1 s1 rv ⟨xd, y, rfl, eC, el, q⟩
  obtain ⟨rfl, e1, xo⟩ := (show v = .ref a ∧ XOk c.K F1 F1 cls d xd from rv)
  rcases xo with ⟨_, e2⟩ | ⟨dx, ws, rfl, e2, rk⟩
  · rw [e2] at el; exact nomatch el
  · obtain ⟨u, e3, ru⟩ := rk_some rk el
    exact ⟨rfl, by rw [e1, eC], dx, ws, u, rfl, R1.sub _ _ e2, e3, hq y u F1 H1 μ1 R1 s1 ru q⟩
theorem v_xf {ρ : PS} {μ : Mu} {K : PySem.W.Frag} {a : Addr} {cls : Value} {d : Option Addr} {C : Addr} {f : Str} {pe : QE4} {Q : Vl → Mu → Prop} (h : pe ρ μ fun x μ1 => ∃ xd y, x = .d (excD K a cls d xd) ∧ xd.C = C ∧ xd.fs.lookup f = some y ∧ Q y μ1) : qXf K a cls d C f pe ρ μ Q := h
/-- isinstance(e, c) -/
inductive ClsD : D → Value → Prop where
  | ty (n : String) : ClsD (.ty n) (.type n)
  | own (C : Addr) : ClsD (clsD C) (.ref C)
theorem ClsD.n {K : PySem.W.Frag} {F H : Hp} {d : D} {u : Value} {v : V} (h : ClsD d u) (r : Rn K F H d v) : ClsV v u := by
  cases h with
  | ty n => rw [show v = .ty n from r]; exact .ty n
  | own C => rw [show v = .ref C from r]; exact .own C
theorem ClsD.v {K : PySem.W.Frag} {F : Hp} {d : D} {u : Value} {v : V} (h : ClsD d u) (r : Rp K F d v) : ClsV v u := by
  cases h with
  | ty n => rw [show v = .ty n from r]; exact .ty n
  | own C => rw [show v = .ref C from r]; exact .own C
def oIsE (K : PySem.W.Frag) (a : Addr) (cls : Value) (d : Option Addr) : OL := fun as Q => ∃ xd t u b, as = [excD K a cls d xd, t] ∧ ClsD t u ∧ ExcC K xd.C ∧ PySem.W.kitOne K (.ref xd.C) u = some b ∧ Q (.bl b)
theorem lc_isE {K : PySem.W.Frag} {a : Addr} {cls : Value} {d : Option Addr} (hK : X.K = K := by rfl) : LiC X (rIsE2 K a cls d) (oIsE K a cls d) := by
  subst hK
  intro c hX σ F H ρ xs dxs Q Q3 R rx hq h
  subst hX
  obtain ⟨xd, t, u, b, rfl, ct, ec, ek, q⟩ := h
  obtain ⟨v, u1, rfl, rv, v2, u2, rfl, rv2, eu⟩ := rx
  obtain rfl : u2 = [] := eu
  obtain ⟨rfl, xo⟩ := (show v = .ref a ∧ XOk c.K F F cls d xd from rv)
  exact ⟨xd.C, v2, u, b, rfl, xo.1, ec, xo.dct R.sub, ct.n rv2, ek, hq (.bl b) _ F H R (L3.Same.refl F) rfl q⟩
theorem w_isE {K : PySem.W.Frag} {a : Addr} {cls : Value} {d : Option Addr} {xd : XD} {t : D} {u : Value} {b : Bool} {Q : D → Prop} (ct : ClsD t u) (ec : ExcC K xd.C) (ek : PySem.W.kitOne K (.ref xd.C) u = some b) (q : Q (.bl b)) : oIsE K a cls d [excD K a cls d xd, t] Q := ⟨xd, t, u, b, rfl, ct, ec, ek, q⟩
theorem x_call0 {P : PSp4} {ta : TA} {pa : QA4} (h : A4 X ta pa) : E4X X W (tCallSD (lsp4 X P) [] (WE W) ta) (xCall P pa) := by
  intro c hX σ F H μ ρ Q Q4 ex R ax hq hp
  refine x_call (W := W) h c hX σ F H μ ρ (fun v H => Q v H) Q4 ex R ax hq hp |> fun z => ?_
  show ta σ H fun vs H1 => lsp4 X P (vs ++ []) H1 Q (WE W σ)
  simp only [List.append_nil]
  exact z
end
end L4
namespace LamX
open PySem PySem.Spec PyProof.Rows L2 TB
/-- a(), where a is a lambda -/
def tAct (f c' : Addr) (q : Str) (tl : XK → Hp → VK → Prop) (W : WX) : TE := fun σ H Q => σ[0]? = some (some (.ref f)) ∧ H c' = some (CodeO c' q) ∧ tl (fun cls d H' => W cls d σ H') H Q
section
variable {X : Cx} {pins : List (Addr × Obj)} {σ : L2.St} {H HZ : Hp} {s s1 : Shared}
/-- .. whatever the state is -/
theorem pe_actS {CXg : CXT} {Eg : XK} {Ng : List Str} {qg : Str} {sg : Scope} {g f c' : Addr} {cdg pm ctv : Value} {params : Arguments} {body : Expr} {scope : Scope} {k i : Nat} {a : Str} {pn : List (Addr × Obj)} {xe : Value → Shared → Prop} {W : WX} {tb : XK → TE} {p1 p2 : Pos}
    (I : Inv X pins σ H s) (L : LamS X.env.scope scope) (hf : s.heap.get? f = some (PySem.W.kla_obj "<lambda>" (X.env.qual ++ "<lambda>") params body scope (cloFrom X.env.cells scope.names []) pm c' ctv)) (hfn : H f = none) (hfr : f ∉ frs X.stack)
    (hbind : bindArgs (PySem.W.kla_fn "<lambda>" (X.env.qual ++ "<lambda>") params body scope (cloFrom X.env.cells scope.names []) pm (.ref c') ctv) ⟨[], []⟩ = pure [])
    (tk : Takes ((cxOf CXg X.prog X.w X.K X.mg X.base Ng qg sg g cdg X.A X.stack s H Eg).tr pn xe) W) (hr : Room (k + 1) (X.A.deeper (envOfC qg sg s.heap.objs.size g cdg)))
    (hbody : ∀ (A : Around) (outer : List Env) (s : Shared) (H : Hp) (E : XK), Room k (A.deeper (lamEnv X scope s.heap.objs.size f c')) → PE (lamCx X A outer s H E scope f c') body (tb E))
    (hN : Ng[i]? = some a) (hv : Vis sg a) (hd : (a == ("__debug__" : Str)) = false := by decide) (hcd : (a == ("__classdict__" : Str)) = false := by decide) :
    PE ((cxOf CXg X.prog X.w X.K X.mg X.base Ng qg sg g cdg X.A X.stack s H Eg).tr pn xe) (.Call (.Name a p1) [] [] p2)
      (fun σZ HZ Q => σZ[i]? = some (some (.ref f)) ∧ HZ c' = some (CodeO c' (X.env.qual ++ "<lambda>")) ∧ tb (fun cls d H' => W cls d σZ H') σ HZ Q) := by
  refine ⟨fun pinsZ sZ σZ HZ Q IZ h => ?_⟩
  obtain ⟨hs, hc, ht⟩ := h
  refine wpAny_Call_Name_kw (thn ((pe_var (pos := p1) (i := i) hN hv hd hcd).run pinsZ sZ σZ HZ (fun v H1 => v = .ref f ∧ H1 = HZ) IZ ⟨.ref f, hs, rfl, rfl⟩) fun u s1 ⟨v, H1, I1, r1, q1⟩ => ?_)
  obtain ⟨ev, eH⟩ := q1
  subst ev
  rw [eH] at I1
  obtain rfl : u = Value.ref f := r1
  have of1 : s1.heap.get? f = some (PySem.W.kla_obj "<lambda>" (X.env.qual ++ "<lambda>") params body scope (cloFrom X.env.cells scope.names []) pm c' ctv) := I1.base.keep f _ hf hfn hfr (fun z => nomatch (show f ∈ ([] : List Addr) from z))
  refine PySem.W.callWith_F0 ⟨_, _, _, _, of1⟩ ?_
  have un : Un (frs X.stack) [] H HZ s.heap s1.heap := I1.base
  obtain ⟨⟨oc, vs, t, hoc, hdc, hvc⟩, _, _⟩ := I1.hok c' _ hc
  have rc : codeAny (model X.prog X.w) (X.A.deeper (envOfC qg sg s.heap.objs.size g cdg)) (.call (.ref f) ⟨[], []⟩) (CR (L2.CX X.prog X.w) (envOfC qg sg s.heap.objs.size g cdg :: X.stack) X.prog X.w HZ s1 Q (fun cls d H' => W cls d σZ H')) s1 := by
    refine PySem.W.kla_callFunE hr.depth of1 rfl L.co L.gen rfl ⟨c', oc, vs, t, rfl, hoc, hdc, hvc⟩ ?_
    rw [hbind]
    refine wpAny_pure (wpAny_newFunctionEnv (fun y hy => (L.own y hy).2) (fun y hy => absurd hy (by simp)) (fun h₁ hns hsb => ⟨I1.nolimit.fresh _ hsb, ?_⟩) L.kind)
    show codeAny _ _ (.expr body (lamEnv X scope s1.heap.objs.size f c')) _ _
    have kp : ∀ b o, s1.heap.get? b = some o → h₁.get? b = some o := fun b o e => hsb.extBut b o (Nat.ne_of_lt (Heap.lt_size e)) (Heap.get?_push_of_some _ e)
    have J : Inv (lamCx X (X.A.deeper (envOfC qg sg s.heap.objs.size g cdg)) (envOfC qg sg s.heap.objs.size g cdg :: X.stack) s1 HZ (fun cls d H' => W cls d σZ H') scope f c') [] σ HZ { s1 with heap := h₁, toks := s1.toks + ([] : List (Str × Value)).length } :=
      lam_start2 I L I1.env0 hr.hd un hns kp
    refine PySem.W.kla_codeExpr (wpAny_mono ((hbody _ _ s1 HZ _ (hr.deeper _)).run [] _ _ HZ Q J ht) (fun v s' hq => ?_) fun e s' hq => hq)
    obtain ⟨w', H', J', rv, q⟩ := hq
    exact ⟨w', H', J'.os, J'.bare, J'.base, J'.hok, rv, q⟩
  have hx := passAt tk σZ
  refine wpAny_call (codeAny_mono rc fun r s' hq => ?_)
  cases r with
  | error e => exact hx pinsZ HZ s1 e s' I1 hq
  | ok fl =>
    cases fl with
    | ret u => exact I1.after hq
    | next => exact False.elim hq
    | brk => exact False.elim hq
    | cont => exact False.elim hq
end
end LamX
namespace L4
open PySem PySem.Spec PyProof.Rows L2 TB LamX L3
/-- a body without parameters, told plainly -/
abbrev QL := Mu → (Vl → Mu → Prop) → (XD → Mu → Prop) → Prop
def Acts (c : C4) (tl : XK → Hp → VK → Prop) (pb : QL) : Prop := ∀ (F1 H1 : Hp) (μ1 : Mu) (Q : VK) (E : XK) (Q4 : Vl → Mu → Prop) (ex : XD → Mu → Prop), R4 c F1 H1 μ1 [] [] →
  (∀ x v F' H' μ', R4 c F' H' μ' [] [] → Same F1 F' → RV c.K F' x v → Q4 x μ' → Q v H') → (∀ xd cls d F' H' μ', R4 c F' H' μ' [] [] → Same F1 F' → XOk c.K F' H' cls d xd → ex xd μ' → E cls d H') → pb μ1 Q4 ex → tl E H1 Q
/-- the lambda's body, let through -/
def E4K (X : Sx) (t : XK → TE) (pe : QX4) : Prop := ∀ E : XK, E4X X (fun cls d _ H => E cls d H) (t E) pe
section
variable {X : Sx} {c : C4} {F H H1 : Hp} {μ : Mu} {σ : L2.St} {ρ : PS}
/-- the slots as they are told of what is kept -/
theorem R4.reslot {F1 : Hp} {μ1 : Mu} (R : R4 c F H μ σ ρ) {c2 : C4} (R1 : R4 c2 F1 H1 μ1 [] []) (s : Same F F1) (hX : c2.X = c.X) : R4 c2 F1 H1 μ1 σ ρ := by
  refine ⟨R.len, R1.sub, fun i x e => ?_, R1.mu, R1.mf, R1.nt, R1.tab, R1.tabF, R1.fr, R1.kp, R1.dom, R1.nw⟩
  obtain ⟨v, e1, r⟩ := R.slot i x e
  refine ⟨v, e1, ?_⟩
  rw [show c2.K = c.K from congrArg Sx.K hX]
  exact r.mono s
def E4Xc (c : C4) (W : WX) (te : TE) (pe : QX4) : Prop := ∀ (σ : L2.St) (F H : Hp) (μ : Mu) (ρ : PS) (Q : VK) (Q4 : Vl → Mu → Prop) (ex : XD → PS → Mu → Prop), R4 c F H μ σ ρ → AgX c F W ex →
  (∀ x v F' H' μ', R4 c F' H' μ' σ ρ → Same F F' → RV c.K F' x v → Q4 x μ' → Q v H') → pe ρ μ Q4 ex → te σ H Q
def xAct (f : Addr) (pb : QL) : QX4 := fun ρ μ Q ex => ρ[0]? = some (some (.loc f)) ∧ pb μ Q fun xd μ' => ex xd ρ μ'
theorem x_actc {W : WX} {f c' : Addr} {q : Str} {tl : XK → Hp → VK → Prop} {pb : QL} (hc : c.H0 c' = some (CodeO c' q)) (hm : c.M0 c' = none) (hn : NoTb4 c.X c') (h : Acts c tl pb) : E4Xc c W (tAct f c' q tl W) (xAct f pb) := by
  rintro σ F H μ ρ Q Q4 ex R ax hq ⟨e0, hp⟩
  obtain ⟨v, e1, r⟩ := R.slot 0 _ e0
  obtain rfl : v = .ref f := r
  refine ⟨e1, R.kp c' _ hc hm hn, ?_⟩
  refine h F H μ _ _ _ _ R.bare ?_ ?_ hp
  · intro x v F' H' μ' R' s r z
    exact hq x v F' H' μ' (R.reslot R' s rfl) s r z
  · intro xd cls d F' H' μ' R' s xo z
    exact ax σ F' H' μ' ρ cls d xd (R.reslot R' s rfl) s xo z
theorem s_dropXc {W : WX} {te : TE} {pe : QX4} (h1 : E4Xc c W te pe) : S4c c W (tDrop te) (sDropX pe) := by
  intro σ F H μ ρ D P R a ax h
  exact h1 σ F H μ ρ _ _ _ R ax (fun x v F' H' μ' R' s rv q => a.nx σ F' H' μ' ρ R' s q) h
end
end L4
namespace L2
open PySem PySem.Spec PyProof.Rows TB
section
variable {P : Program} {w : World} {K : PySem.W.Frag} {mg : Str → Option Value} {base : Heap} {CX : CXT} {k : Nat} {f : Addr} {fd : FuncData} {ps : List Str} {sp sp' : Sp}
/-- what never refuses may be called anywhere -/
theorem FnOk.any (F : FnOk P w K mg base C8.CX0 k f fd ps sp) : FnOk P w K mg base CX k f fd ps sp := by
  refine ⟨F.len, fun A outer s H args us vs Q E hr e0 hb r h => codeAny_mono (F.run A outer s H args us vs Q E hr e0 hb r h) fun r s' q => ?_⟩
  match r, q with
  | .ok (.ret u), q => exact q
  | .error e, q => exact (show False from q).elim
end
end L2
namespace L4
open PySem PySem.Spec PyProof.Rows L2 TB LamX L3
section
variable {X : Sx} {W : WX} {c : C4}
section
variable {P : P4} {ρ : PS} {μ : Mu} {pe : QX4} {pa : QA4} {pg : QG4}
theorem v_raise {C : Addr} {ns : List Str} {ok4 : List Vl → Prop} (h : pa ρ μ fun xs μ' => xs.length = ns.length ∧ ok4 xs ∧ P.ex ⟨C, (ns.zip xs).reverse⟩ ρ μ') : sRaise4 C ns ok4 pa P ρ μ := h
end
/-- NoSuch(who), whatever it is -/
theorem s_raise1 {C : Addr} {n : Str} {ta : TA} {pa : QA4} (h : A4 X ta pa) : S4 X W (tRaise W C (spE C [n] fun _ => True) ta) (sRaise4 C [n] (fun _ => True) pa) := s_raise (by show 1 ≤ 1000; decide) (fun _ _ _ _ _ => trivial) h
end
end L4
namespace L2
open PySem PySem.Spec PyProof.Rows TB
section
variable {X : Cx} {pins : List (Addr × Obj)} {σ : L2.St} {H : Hp} {s : Shared}
theorem dict0_at (I : Inv X pins σ H s) {a : Addr} (h : H a = some (.dK [])) (P : Program) (w : World) : (a == sysModules) = false ∧ s.heap.DictOf (mixKind P w) a [] := by
  obtain ⟨_, hs, vs, kv, o, es, ep, ho, ex, hd, hp⟩ := dk_of I.hok h
  cases kv
  refine ⟨hs, o, es, ep, ho, ex, hd, ?_⟩
  obtain ⟨_, p2, _⟩ := hp
  have e0 : es.toList = [] := by
    cases hq : es.toList with
    | nil => rfl
    | cons e r => rw [hq] at p2; cases p2
  refine ⟨fun e he => ?_, by rw [e0]; exact .nil, List.nodup_nil⟩
  have := Array.mem_toList_iff.mpr he
  rw [e0] at this
  exact nomatch this
def EqI (K : PySem.W.Frag) (H : Hp) (i x : V) : Prop := (∃ d e, Dp K H i d ∧ Dp K H x e ∧ SeqAt.shaped d = true ∧ SeqAt.shaped e = true ∧ PyData.eqv d e = true) ∨ (∃ b, i = .bl b ∧ x = .bl b) ∨ ∃ a c, i = .ref a ∧ x = .ref c ∧ H a = some (.dK []) ∧ H c = some (.dK [])
theorem EqI.at (I : Inv X pins σ H s) {A : Around} (hu : A.units + 64 < cLine) {i x : V} {ui ux : Value} (h : EqI X.K H i x) (ri : RelV i ui) (rx : RelV x ux) : SeqAt.EqAt A s ui ux true := by
  rcases h with ⟨d, e, h1, h2, s1, s2, ev⟩ | ⟨b, rfl, rfl⟩ | ⟨a, c, rfl, rfl, ha, hc⟩
  · rw [← ev]
    exact EqX.at I hu (.inl ⟨d, e, h1, h2, s1, s2, rfl⟩) ri rx
  · cases ri
    cases rx
    have := SeqAt.EqAt.bool_bool (A := A) (s := s) b b
    rwa [beq_self_eq_true] at this
  · cases ri
    cases rx
    by_cases e : a = c
    · subst e
      exact SeqAt.EqAt.same _
    · refine SeqAt.EqAt.of_refs e fun P w E Q q => ?_
      obtain ⟨na, da⟩ := dict0_at I ha P w
      obtain ⟨nc, dc⟩ := dict0_at I hc P w
      exact PySem.W.keq_eq (r := true) na nc da dc (by omega) (fun _ => .nil) q
end
end L2
namespace L4
open PySem PySem.Spec PyProof.Rows L2 TB LamX L3
section
variable {X : Sx} {K : PySem.W.Frag}
def smD (d : D) : Prop := (cln d = true ∧ dpt d ≤ 60) ∨ (∃ b, d = .bl b) ∨ d = .dic [] []
theorem eqI_of {F H : Hp} (s : Same F H) {d : D} {v u : V} (h : smD d) (r1 : Rp K F d v) (r2 : Rp K F d u) : EqI K H v u := by
  rcases h with ⟨c, z⟩ | ⟨b, rfl⟩ | rfl
  · obtain ⟨x, x1, x2, x3⟩ := cln_pd c
    exact Or.inl ⟨x, x, pd_dp s r1 x1, pd_dp s r2 x1, sh_flat x2 (by omega), sh_flat x2 (by omega), (eqv_cln c c x1 x1).mpr rfl⟩
  · rw [show v = .bl b from r1, show u = .bl b from r2]
    exact Or.inr (Or.inl ⟨b, rfl, rfl⟩)
  · obtain ⟨a, vs, rfl, e1, _⟩ := r1
    obtain ⟨c, us, rfl, e2, _⟩ := r2
    exact Or.inr (Or.inr ⟨a, c, rfl, rfl, s _ _ e1, s _ _ e2⟩)
end
end L4
namespace TB
open PySem PySem.Spec PyProof.Rows L2
theorem fng_ofC {P : Program} {w : World} {K : PySem.W.Frag} {mg : Str → Option Value} {base : Heap} {CX : CXT} {k : Nat} {f c : Addr} {fd : FuncData} {ps : List Str} {sp : Sp} {x qual : Str} {params : Arguments} {body : List Stmt} {scope : Scope} {dvs : List V} {kws : List (Str × V)} {N : List Str}
    (F : FunD K x qual params body scope dvs kws f fd) (hc : fd.code = .ref c) (S : FnScope N ps scope) (len : ∀ vs H Q E, sp vs H Q E → vs.length = ps.length)
    (hbody : ∀ (A : Around) (outer : List Env) (s : Shared) (H : Hp) (vs : List V) (Q : VK) (E : XK), A.guards = some [] →
      Room k (A.deeper (envOfC qual scope s.heap.objs.size f (.ref c))) → sp vs H Q E →
      ∃ t, PSs (cxOf CX P w K mg base N qual scope f (.ref c) A outer s H E) body t ∧ t { nx := fun _ H' => Q .non H', rt := Q } (start N vs) H) :
    FnG P w K mg base CX (k + 1) f fd ps sp := by
  obtain ⟨oc, od, dV, kV, doc, pm, an, cdv, ct, osl, rfl, lk, hcd, _, _⟩ := F.ex
  obtain rfl : cdv = .ref c := hc
  refine ⟨len, ?_⟩
  intro A outer s H args us vs Q E g hr e0 hb rv hsp
  have hl := len _ _ _ _ hsp
  have kx : K.In s.heap := e0.mod.kin.keeps (fun b o e => And.left (e0.bs b o e))
  have nl : s.heap.NoLimit := e0.mod.nolimit.keeps (fun b o e => And.left (e0.bs b o e))
  obtain ⟨t, ht, hq⟩ := hbody A outer s H vs Q E g (hr.deeper _) hsp
  refine codeAny_call_function hr.depth (kx _ _ lk) rfl S.co S.gen rfl (PySem.W.codeRec_of kx hcd) (hb _ _ _ _ (wpAny_newFunctionEnv_cells S.kind ?_ ?_))
  · rintro ⟨n, v⟩ hy
    rcases S.par n (List.of_mem_zip hy).1 with z | z
    · exact Or.inl z
    · exact Or.inr ⟨z, PySem.W.cellsFrom_some _ _ _ (Or.inl z)⟩
  · rintro env rfl s1 x
    refine ⟨nl.keeps x.toInCall.keep, codeAny_func ?_⟩
    refine wpAny_mono (ht.run [] s1 (start N vs) H _ (inv_start S hr.hd e0 hl rv x) hq) ?_ (fun _ _ z => z)
    rintro (_ | _ | _ | u) s' hs
    · obtain ⟨σ', H', J, q⟩ := hs
      exact ⟨V.non, H', J.os, J.bare, J.base, J.hok, rfl, q⟩
    · exact (hs.elim fun _ z => z.elim fun _ z => z.2.elim)
    · exact (hs.elim fun _ z => z.elim fun _ z => z.2.elim)
    · obtain ⟨v, σ', H', J, r2, q⟩ := hs
      exact ⟨v, H', J.os, J.bare, J.base, J.hok, r2, q⟩
end TB
namespace L2
open PySem PySem.Spec PyProof.Rows TB
section
variable {X : Cx} {a : Addr} {oe : Obj} {cls : Value} {d : Option Addr} {pn : List (Addr × Obj)}
theorem call_isE2K (K : PySem.W.Frag) (hz : Zc cls d oe) (hf : ∃ vs, oe.data = .fields vs) (hK : X.K = K := by rfl) : CallR (X.suite a ((a, oe) :: pn)) (.builtin "isinstance") (rIsE2 K a cls d) := by subst hK; exact call_isE2 hz hf
end
end L2
namespace L4
open PySem PySem.Spec PyProof.Rows L2 TB LamX L3
section
variable {X : Sx} {W : WX} {c : C4} {F H : Hp} {μ : Mu} {σ : L2.St} {ρ : PS}
theorem R4.reset {i : Nat} {x : Vl} {v : V} (R : R4 c F H μ σ ρ) (e : σ[i]? = some (some v)) (r : RV c.K F x v) : R4 c F H μ σ (ρ.set i (some x)) := by
  refine ⟨by rw [List.length_set]; exact R.len, R.sub, fun j y h => ?_, R.mu, R.mf, R.nt, R.tab, R.tabF, R.fr, R.kp, R.dom, R.nw⟩
  by_cases q : i = j
  · subst q
    have hl := (List.getElem?_eq_some_iff.mp h).1
    rw [List.length_set] at hl
    rw [List.getElem?_set_self hl] at h
    obtain rfl := Option.some.inj (Option.some.inj h)
    exact ⟨v, e, r⟩
  · rw [List.getElem?_set_ne q] at h
    exact R.slot j y h
def sFz4 (i : Nat) (p : QS4) : QS4 := fun P ρ μ => ∃ a ds, ρ[i]? = some (some (.loc a)) ∧ μ a = some (.lst (ds.map Vl.d)) ∧ p P (ρ.set i (some (.d (.lst ds)))) (delM μ a)
theorem s_fzS {i : Nat} {t : TS} {p : QS4} (h : S4 X W t p) : S4 X W (tFzS i t) (sFz4 i p) := by
  rintro c hX σ F H μ ρ D P R a ax ⟨b, ds, e, em, q⟩
  obtain ⟨v, e1, r⟩ := R.slot i _ e
  obtain rfl : v = .ref b := r
  obtain ⟨ws, R2, s2, rp⟩ := R.freezeL em
  exact h c hX σ _ H _ _ D P (R2.reset e1 (show RV c.K _ (.d (.lst ds)) (.ref b) from rp)) (a.mono s2) (ax.mono s2) q
theorem v_fzS {i : Nat} {p : QS4} {P : P4} {b : Addr} {ds : List D} (e : ρ[i]? = some (some (.loc b))) (em : μ b = some (.lst (ds.map Vl.d))) (h : p P (ρ.set i (some (.d (.lst ds)))) (delM μ b)) : sFz4 i p P ρ μ := ⟨b, ds, e, em, h⟩
end
abbrev _root_.L2.leB : List Value := [.type "LookupError", .type "Exception", .type "BaseException", .type "object"]
/-- what can be made of NoSuch -/
abbrev MkNS (P : Program) (w : World) (K : PySem.W.Frag) (mg : Str → Option Value) (base : Heap) (NS : Addr) : Prop := MakE P w K mg base 1 "NoSuch" NS (spE NS ["who"] fun _ => True) L2.leB "LookupError.__new__"
def whoX (NS : Addr) (d : D) : XD := ⟨NS, [("who", .d d)]⟩
theorem cut_pre {zs : List Str} {r : List D} {i : Nat} (h : i ≤ zs.length) : L3.cutD (strsD zs ++ r) none (some (i : Int)) = strsD (zs.take i) := by
  have e := cut_toD (fun d : D => d) (strsD zs ++ r) i (by rw [List.length_append, strsD, List.length_map]; omega)
  rw [List.map_id', List.map_id'] at e
  rw [e, List.take_append_of_le_length (by rw [strsD, List.length_map]; exact h), strsD, strsD, List.map_take]
theorem nodup_at {zs : List Str} {i : Nat} {z : Str} (nd : zs.Nodup) (h : zs[i]? = some z) : z ∉ zs.take i := fun hin => by
  have e0 : zs.take i ++ zs.drop i = zs := List.take_append_drop i zs
  rw [← e0] at nd
  have hd : z ∈ zs.drop i := by
    obtain ⟨h1, h2⟩ := List.getElem?_eq_some_iff.mp h
    rw [List.drop_eq_getElem_cons h1, h2]
    exact List.mem_cons_self
  exact (List.nodup_append.mp nd).2.2 z hin z hd rfl
end L4
namespace L4
open PySem PySem.Spec PyProof.Rows L2 TB LamX L3
theorem names_nm {p : PlanL} (ok : PlanOk p) {z : Str} (h : z ∈ tnames p) : Nm z := ok.nm z (by rw [PlanL.taken]; exact List.mem_append_right _ h)
theorem locks_nm {p : PlanL} (ok : PlanOk p) {z : Str} (h : z ∈ p.locks) : Nm z := ok.nm z (by rw [PlanL.taken, List.append_assoc]; exact List.mem_append_left _ h)
theorem sg_one {z : Str} (h : z.length ≤ 100 ∧ (z.cps.toList.all fun c => decide (c < 1114112)) = true) : Sg z := sg_lit h
theorem at_odd {ds : List D} {k : Int} (h0 : 0 ≤ k) (h1 : k < ds.length) : ∃ d, atI ds k = some d ∧ d ∈ ds := by
  obtain ⟨j, rfl⟩ : ∃ j : Nat, k = (j : Int) := ⟨k.toNat, by omega⟩
  have hj : j < ds.length := by omega
  refine ⟨ds[j], ?_, List.getElem_mem hj⟩
  unfold atI ixN
  rw [if_pos h0, if_pos h1]
  show ds[(j : Int).toNat]? = _
  rw [Int.toNat_natCast]
  exact List.getElem?_eq_getElem hj
end L4
namespace L2
open PySem PySem.Spec PyProof.Rows TB
open PySem.SeqAt PySem.MeetsSeq PySem.MeetsSeq2 PySem.MeetsSeq3 PySem.SeqRoads2
section
variable {X : Cx}
/-- xs != [] -/
def rNeL0 (K : PySem.W.Frag) : R2 := fun x y H Q => ∃ (a b : Addr) (xs : List V), x = .ref a ∧ y = .ref b ∧ SqL K H a xs ∧ SqL K H b [] ∧ Q (.bl (!decide (xs.length = 0))) H
theorem op_neL0 (K : PySem.W.Frag) (hu : X.A.units + 64 < cLine) (hK : X.K = K := by rfl) : OpR X (compareOp .NotEq) (rNeL0 K) := by
  subst hK
  intro pins s σ H x y v u Q I rx ry h
  obtain ⟨a, b, xs, rfl, rfl, sa, sb, q⟩ := h
  obtain rfl : v = Value.ref a := rx
  obtain rfl : u = Value.ref b := ry
  obtain ⟨its, ra, ta, _⟩ := I.list sa
  obtain ⟨jts, rb, tb, _⟩ := I.list sb
  cases rb
  have hl := ra.length
  by_cases c : xs.length = 0
  · rw [decide_eq_true c] at q
    have hz : its.toArray.size = ([] : List Value).toArray.size := by show its.length = 0; omega
    have r := RcNeAt.lists (A := X.A) (e := fun _ => true) ta.isList tb.isList hz (by omega) (fun j h1 h2 => absurd h2 (by simp))
    have eT : ((List.range its.toArray.size).all fun _ => true) = true := List.all_eq_true.mpr fun _ _ => rfl
    rw [eT] at r
    exact r X.prog X.w X.xe _ (fin_bl I q rfl)
  · rw [decide_eq_false c] at q
    have hz : (its.toArray.size != ([] : List Value).toArray.size) = true := by
      rw [bne_iff_ne]
      show its.length ≠ 0
      omega
    exact RcNeAt.lists_lengths (A := X.A) ta.isList tb.isList hz (by omega) X.prog X.w X.xe _ (fin_bl I q rfl)
end
end L2
namespace L4
open PySem PySem.Spec PyProof.Rows L2 TB LamX L3
section
variable {X : Sx} {W : WX} {K : PySem.W.Frag}
def oNeL0 : O2 := fun dx dy Q => ∃ ds, dx = .lst ds ∧ dy = .lst [] ∧ Q (.bl (!decide (ds.length = 0)))
theorem lr_neL0 (hK : X.K = K := by rfl) : LiR X (rNeL0 K) oNeL0 := by
  subst hK
  intro c hX σ F H ρ x y dx dy Q Q3 R rx ry hq h
  subst hX
  obtain ⟨ds, rfl, rfl, q⟩ := h
  obtain ⟨a, xs, rfl, ea, r1⟩ := rx
  obtain ⟨b, ys, rfl, eb, r2⟩ := ry
  obtain rfl : ys = [] := r2
  exact ⟨a, b, xs, rfl, rfl, .inl (.inl ea), .inl (.inl eb), by rw [r1.len]; exact hq (.bl _) _ F H R (L3.Same.refl F) rfl q⟩
theorem w_neL0 {ds : List D} {F : D → Prop} (q : F (.bl (!decide (ds.length = 0)))) : oNeL0 (.lst ds) (.lst []) F := ⟨ds, rfl, rfl, q⟩
end
def It26 (d : D) : Prop := It d ∨ d = .int (10 ^ 20)
def odd26 (p : PlanL) : List D := [.non, .int 0, .bl true, .bl false, .str "", .str "A", .str "nineletter", .tup [], .tup [.str "a"], .lst [], .lst [.str "a"], .dic [] [], .int (10 ^ 20)]
/-- one of them, or a lock, or a cell -/
def Odd26 (p : PlanL) (d : D) : Prop := d ∈ odd26 p ∨ ∃ z, d = .str z ∧ (z ∈ p.locks ∨ z ∈ p.cellNames)
theorem cells_nm {p : PlanL} (ok : PlanOk p) {z : Str} (h : z ∈ p.cellNames) : Nm z := ok.nm z (by rw [PlanL.taken, List.append_assoc]; exact List.mem_append_right _ (List.mem_append_left _ h))
theorem odd26_it {p : PlanL} (ok : PlanOk p) {d : D} (h : Odd26 p d) : It26 d := by
  rcases h with h | ⟨z, rfl, h⟩
  · unfold odd26 at h
    simp only [List.mem_cons, List.not_mem_nil, or_false] at h
    rcases h with rfl | rfl | rfl | rfl | rfl | rfl | rfl | rfl | rfl | rfl | rfl | rfl | rfl
    · exact .inl .non
    · exact .inl (.int (by decide))
    · exact .inl .bl
    · exact .inl .bl
    · exact .inl (.str (sg_one (by decide +kernel)))
    · exact .inl (.str (sg_one (by decide +kernel)))
    · exact .inl (.str (sg_one (by decide +kernel)))
    · exact .inl (.tup (ws := []) (Nat.zero_le _) (fun _ z => nomatch z))
    · exact .inl (.tup (ws := ["a"]) (by decide) (fun z hz => by rw [List.mem_singleton.mp hz]; exact sg_one (by decide +kernel)))
    · exact .inl (.lst (ws := []) (Nat.zero_le _) (fun _ z => nomatch z))
    · exact .inl (.lst (ws := ["a"]) (by decide) (fun z hz => by rw [List.mem_singleton.mp hz]; exact sg_one (by decide +kernel)))
    · exact .inl .dic
    · exact .inr rfl
  · exact .inl (.str (Nm.sg (h.elim (locks_nm ok) (cells_nm ok))))
theorem It26.shw {d : D} (h : It26 d) : Shw 1 9000 d := by
  rcases h with h | rfl
  · exact h.pd
  · exact (Shw.int (k := 21) (by decide) (by decide) (by decide)).mono (by decide) (by decide)
theorem It26.eq {d : D} (h : It26 d) : ∀ {ws : List Str}, (∀ z ∈ ws, Sg z) → ∃ bs, Paired (eqXD d) (strsD ws) bs ∧ (bs.any id = true ↔ ∃ z ∈ ws, d = .str z) := by
  rcases h with h | rfl
  · exact fun hw => ims_in (.od (.it h)) hw
  · intro ws
    induction ws with
    | nil => exact fun _ => ⟨[], .nil, by simp⟩
    | cons z ws ih =>
      intro hw
      obtain ⟨bs, h1, h2⟩ := ih fun y hy => hw y (List.mem_cons_of_mem _ hy)
      refine ⟨false :: bs, .cons (Or.inl ⟨.str z, .int (10 ^ 20), rfl, rfl, sh_flat (hw z List.mem_cons_self).ok (by simp [PyData.depth]), sh_flat rfl (by simp [PyData.depth]), by simp [PyData.eqv]⟩) h1, ?_⟩
      rw [List.any_cons]
      show (false || bs.any id) = true ↔ _
      rw [Bool.false_or, h2]
      simp
end L4
namespace L4
open PySem PySem.Spec PyProof.Rows L2 TB LamX L3
/-- what may stand in such a list -/
def In26 (p : PlanL) (d : D) : Prop := Odd26 p d ∨ ∃ z ∈ tnames p, d = .str z
theorem In26.it {p : PlanL} (ok : PlanOk p) {d : D} (h : In26 p d) : It26 d := by
  rcases h with h | ⟨z, hz, rfl⟩
  · exact odd26_it ok h
  · exact .inl (.str (Nm.sg (names_nm ok hz)))
end L4
namespace TB
open PySem PySem.Spec PyProof.Rows L2 LamX
/-- at the law's call: nothing is tracked but the script and these tables -/
def OnlyTs (Ts : List (Addr × Addr)) (H : Hp) : Prop := ∀ b, H b = none ∨ ((∃ c, (c, b) ∈ Ts) ∧ H b = some (.tbl #[])) ∨ ∃ o xs, H b = some (.frz o (.lst xs))
theorem OnlyTs.noT {Ts : List (Addr × Addr)} {H : Hp} (h : OnlyTs Ts H) : NoT H := by
  intro b o e
  rcases h b with z | ⟨_, z⟩ | ⟨o2, xs, z⟩
  · rw [z] at e
    exact nomatch e
  · rw [z] at e
    cases e
    exact trivial
  · rw [z] at e
    cases e
    exact trivial
theorem law_callTM {P : Program} {w : World} {K : PySem.W.Frag} {mg mb : Str → Option Value} {CX : CXT} {k : Nat} {fa a : Addr} {Ts : List (Addr × Addr)} {fd : FuncData} {x : Str} {sp : Sp} {s₁ : Shared} {vs : List Value} {ns : List Int}
    (KX : K.In s₁.heap) (hns : s₁.heap.Ns mainGlobals mg) (hb : s₁.heap.Ns builtinsNs mb) (hbb : ∀ y : Str, y ≠ "__name__" → mb y = bootBuiltins y) (hlim : s₁.heap.NoLimit) (hg : s₁.gens = #[])
    (hT : ∀ x ∈ Ts, s₁.heap.get? x.2 = some { cls := .none, data := .fields #[] }) (nT : ∀ x ∈ Ts, K.lookup x.2 = none) (cd : ∀ x ∈ Ts, PySem.W.CodeHd s₁.heap x.1 x.2)
    (hbm : ∃ (bm : Addr) (ob : Obj), mg "__builtins__" = some (.ref bm) ∧ bm ≠ builtinsNs ∧ s₁.heap.get? bm = some ob ∧ ob.cls = .type "module" ∧ ob.dict = some builtinsNs ∧ ob.data = .plain)
    (ha : s₁.heap.get? a = some { cls := .type "list", data := .seq vs.toArray }) (hi : IntsAre vs ns) (hl : ns.length ≤ sizeLine) (hr : Room k callerA)
    (F : ∀ base : Heap, K.In base → base.Ns mainGlobals mg → (∀ x ∈ Ts, TabB base mg x.1 x.2) → FnG P w K mg base CX k fa fd [x] sp) (hbind : ∀ (s : Shared) (u : Value), BindsTo s fd ⟨[u], []⟩ [(x, u)])
    (hsp : ∀ H : Hp, OnlyTs Ts H → (∀ x ∈ Ts, H x.2 = some (.tbl #[])) → SqL K H a (ns.map V.int) → sp [.ref a] H (fun v _ => v = .bl true) (fun _ _ _ => False)) (hCX : ∀ H e s', CX [] H s₁ (fun _ _ _ => False) e s' → False) :
    codeAny (model P w) callerA (.call (.ref fa) ⟨[.ref a], []⟩) (fun r s' => r = .ok (.ret (.bool true)) ∧ OldK s₁.heap s'.heap ∧ s'.os = s₁.os ∧ AllBare s'.gens) s₁ := by
  have lenV := hi.length
  have aT : ∀ x ∈ Ts, a ≠ x.2 := by
    intro x hx z
    rw [z, hT x hx] at ha
    have z2 := congrArg Obj.data (Option.some.inj ha)
    exact nomatch (show Data.fields #[] = Data.seq vs.toArray _ from z2)
  suffices core : ∀ H : Hp, OnlyTs Ts H → (∀ x ∈ Ts, H x.2 = some (.tbl #[])) → SqL K H a (ns.map V.int) → HOk P w H s₁.heap → (∀ b, H b ≠ none → b = a ∨ ∃ x ∈ Ts, b = x.2) → (H a ≠ none → K.lookup a = none) →
      codeAny (model P w) callerA (.call (.ref fa) ⟨[.ref a], []⟩) (fun r s' => r = .ok (.ret (.bool true)) ∧ OldK s₁.heap s'.heap ∧ s'.os = s₁.os ∧ AllBare s'.gens) s₁ by
    let HT : Hp := fun b => if ∃ x ∈ Ts, b = x.2 then some (.tbl #[]) else none
    have t_in : ∀ x ∈ Ts, HT x.2 = some (.tbl #[]) := fun x hx => if_pos ⟨x, hx, rfl⟩
    have t_out : ∀ b, (¬ ∃ x ∈ Ts, b = x.2) → HT b = none := fun b h => if_neg h
    have at_ : ∀ b u, HT b = some u → (∃ x ∈ Ts, b = x.2) ∧ u = .tbl #[] := by
      intro b u z
      by_cases q : ∃ x ∈ Ts, b = x.2
      · have z2 : HT b = some (.tbl #[]) := if_pos q
        rw [z2] at z
        exact ⟨q, (Option.some.inj z).symm⟩
      · rw [t_out b q] at z
        exact nomatch z
    have aO : HT a = none := t_out a fun ⟨x, hx, e⟩ => aT x hx e
    cases hk : K.lookup a with
    | some o =>
      have e := (KX a o hk).symm.trans ha
      cases e
      refine core HT (fun b => ?_) t_in (Or.inr ⟨_, vs.toArray, _, hk, rfl, rfl, rfl, ?_, ?_⟩) (fun b u z => ?_) (fun b z => ?_) (fun z => ?_)
      · cases q : HT b with
        | none => exact Or.inl rfl
        | some u =>
          obtain ⟨⟨x, hx, rfl⟩, rfl⟩ := at_ b u q
          exact Or.inr (Or.inl ⟨⟨x.1, hx⟩, rfl⟩)
      · rw [List.size_toArray, lenV]
        exact hl
      · rw [List.toList_toArray]
        exact vals_ints hi
      · obtain ⟨⟨x, hx, rfl⟩, rfl⟩ := at_ b u z
        exact hT x hx
      · cases q : HT b with
        | none => exact absurd q z
        | some u => exact Or.inr (at_ b u q).1
      · exact absurd aO z
    | none =>
      let H0 : Hp := upd HT a (.frz { cls := .type "list", data := .seq vs.toArray } (.lst (ns.map V.int)))
      have at0 : ∀ b u, H0 b = some u → (b = a ∧ u = .frz { cls := .type "list", data := .seq vs.toArray } (.lst (ns.map V.int))) ∨ ((∃ x ∈ Ts, b = x.2) ∧ u = .tbl #[]) := by
        intro b u z
        have z2 : upd HT a (.frz { cls := .type "list", data := .seq vs.toArray } (.lst (ns.map V.int))) b = some u := z
        by_cases q : b = a
        · rw [q, upd_same] at z2
          exact Or.inl ⟨q, (Option.some.inj z2).symm⟩
        · rw [upd_ne q] at z2
          exact Or.inr (at_ b u z2)
      refine core H0 (fun b => ?_) (fun x hx => ?_) (Or.inl (Or.inr ⟨_, upd_same⟩)) (fun b u z => ?_) (fun b z => ?_) (fun _ => hk)
      · cases q : H0 b with
        | none => exact Or.inl rfl
        | some u =>
          rcases at0 b u q with ⟨_, z⟩ | ⟨⟨x, hx, rfl⟩, z⟩
          · exact Or.inr (Or.inr ⟨_, _, congrArg some z⟩)
          · exact Or.inr (Or.inl ⟨⟨x.1, hx⟩, congrArg some z⟩)
      · show upd HT a _ x.2 = _
        rw [upd_ne (fun z => aT x hx z.symm)]
        exact t_in x hx
      · rcases at0 b u z with ⟨rfl, rfl⟩ | ⟨⟨x, hx, rfl⟩, rfl⟩
        · refine ⟨ha, ?_, vs, _, vals_ints hi, ha⟩
          rw [List.length_map]
          exact hl
        · exact hT x hx
      · cases q : H0 b with
        | none => exact absurd q z
        | some u =>
          rcases at0 b u q with ⟨z1, _⟩ | ⟨z1, _⟩
          · exact Or.inl z1
          · exact Or.inr z1
  intro H hO hHT hS hok hA hK
  have off : ∀ {b : Addr} {o : Obj}, s₁.heap.get? b = some o → (∀ es n, o.data ≠ .seq es n) → o.data ≠ .fields #[] → H b = none := by
    intro b o e d1 d2
    cases q : H b with
    | none => rfl
    | some u =>
      rcases hA b (by rw [q]; exact Option.some_ne_none u) with z | ⟨x, hx, z⟩
      · rw [z, ha] at e
        cases e
        exact absurd rfl (d1 _ _)
      · rw [z, hT x hx] at e
        cases e
        exact absurd rfl d2
  have nsK : ∀ {b : Addr} {m : Str → Option Value}, s₁.heap.Ns b m → (hidT s₁.heap H).Ns b m := by
    rintro b m ⟨o, es, ep, e, d, r⟩
    refine ⟨o, es, ep, hidT_get e (off e ?_ ?_), d, r⟩
    · intro _ _ z
      rw [d] at z
      exact nomatch z
    · intro z
      rw [d] at z
      exact nomatch z
  have hKb : K.In (hidT s₁.heap H) := by
    intro b o e
    refine hidT_get (KX b o e) ?_
    cases q : H b with
    | none => rfl
    | some u =>
      rcases hA b (by rw [q]; exact Option.some_ne_none u) with z | ⟨x, hx, z⟩
      · subst z
        rw [hK (by rw [q]; exact Option.some_ne_none u)] at e
        exact nomatch e
      · rw [z, nT x hx] at e
        exact nomatch e
  obtain ⟨mc, h1, h2⟩ := hlim
  have hM : Mod K mg (hidT s₁.heap H) := ⟨hKb, nsK hns, ⟨mb, nsK hb, hbb⟩, ⟨mc, nsK h1, h2⟩⟩
  have tab : ∀ x ∈ Ts, TabB (hidT s₁.heap H) mg x.1 x.2 := by
    intro x hx
    refine ⟨?_, ?_, fun z => ?_⟩
    · obtain ⟨o, us, file, tf, flags, tg, inF, text, tt, e1, r1, r2, r3, r4⟩ := cd x hx
      refine ⟨o, us, file, tf, flags, tg, inF, text, tt, hidT_get e1 (off e1 ?_ ?_), r1, r2, r3, r4⟩
      · intro _ _ z
        rw [r2] at z
        exact nomatch z
      · intro z
        rw [r2] at z
        cases z
        exact absurd r3 (by simp)
    · obtain ⟨bm, ob, b1, b2, b3, b4, b5, b6⟩ := hbm
      have nb : H bm = none := by
        refine off b3 ?_ ?_
        · intro _ _ z
          rw [b6] at z
          exact nomatch z
        · intro z
          rw [b6] at z
          exact nomatch z
      refine ⟨bm, ob, b1, b2, ?_, ?_, hidT_get b3 nb, b4, b5, b6⟩
      · intro z
        obtain ⟨o, es, ep, e, d, _⟩ := hns
        rw [z, e] at b3
        cases b3
        rw [d] at b6
        exact nomatch b6
      · intro z
        rw [z, hT x hx] at b3
        cases b3
        exact nomatch b6
    · obtain ⟨o, es, ep, e, d, _⟩ := hns
      rw [z, hT x hx] at e
      cases e
      exact nomatch d
  have e0 : Env0 P w K mg (hidT s₁.heap H) callerA [] s₁ H :=
    ⟨rfl, hM, fun b o e => of_hidT e, Nat.le_of_eq (hidT_size _ _), trivial, fun b z => (nomatch (show b ∈ ([] : List Addr) from z)), hok, .of_eq hg⟩
  refine codeAny_mono ((F _ hKb (nsK hns) tab).runG callerA [] s₁ H ⟨[.ref a], []⟩ [.ref a] [.ref a] _ _ rfl hr e0 (hbind s₁ (.ref a)) (.cons rfl .nil) (hsp H hO hHT hS)) ?_
  rintro (er | (_ | _ | _ | u)) s' h
  · exact (hCX H er s' h).elim
  · exact h.elim
  · exact h.elim
  · exact h.elim
  obtain ⟨v, H', os, bare, un, hok', r', q⟩ := h
  obtain rfl : v = .bl true := q
  obtain rfl : u = Value.bool true := r'
  have grown : ∀ x ∈ Ts, ∃ more, s'.heap.get? x.2 = some { cls := .none, data := .fields (#[] ++ more) } := by
    intro x hx
    obtain ⟨more, hmore⟩ := un.tbls x.2 #[] (hHT x hx)
    exact ⟨more, hok' x.2 _ hmore⟩
  have key : ∀ b o, (¬ ∃ x ∈ Ts, b = x.2) → s₁.heap.get? b = some o → s'.heap.get? b = some o := by
    intro b o hbT e
    cases q : H b with
    | none => exact un.keep b o e q (fun z => nomatch (show b ∈ ([] : List Addr) from z)) (fun z => nomatch z)
    | some y =>
      rcases hO b with z | ⟨⟨c, z⟩, _⟩ | ⟨ob, xs, z⟩
      · exact nomatch (q.symm.trans z)
      · exact absurd ⟨_, z, rfl⟩ hbT
      · have e1 := (hok b _ z).1
        have e2 := (hok' b _ (un.frzs b ob _ z)).1
        rw [e] at e1
        cases e1
        exact e2
  refine ⟨rfl, ⟨fun b o e => ?_, fun b o e => ?_⟩, os, bare⟩
  · by_cases hb2 : ∃ x ∈ Ts, b = x.2
    · obtain ⟨x, hx, rfl⟩ := hb2
      obtain ⟨more, g⟩ := grown x hx
      rw [hT x hx] at e
      cases e
      exact Or.inr (Or.inl ⟨((cd x hx).tab (hT x hx)).isCodeTable, rfl, #[], more, rfl, g⟩)
    · exact Or.inl (key b o hb2 e)
  · by_cases hb2 : ∃ x ∈ Ts, b = x.2
    · obtain ⟨x, hx, rfl⟩ := hb2
      obtain ⟨more, g⟩ := grown x hx
      exact ⟨_, g⟩
    · exact ⟨o, key b o hb2 e⟩
theorem walk_ofTM {l : PySem.W.OpenLaw} {n k : Nat} {q : Program} {loose : List Str} {XP : (Str → Option Value) → Heap → Prop} {YP : World → Heap → Prop} {d : DefRec} {CX : CXT} {x : Str}
    (hn : l.most = some n) (hn2 : n ≤ sizeLine) (hdf : d.params.defaults = []) (hr : Room k callerA)
    (F : ∀ (w : World) (mg : Str → Option Value) (fa : Addr) (h : Heap), YP w h → h.Ns mainGlobals mg → mg d.name = some (.ref fa) →
      ∃ (K : PySem.W.Frag) (fd : FuncData) (sp : Sp) (Ts : List (Addr × Addr)), K.In h ∧ (∀ x ∈ Ts, h.get? x.2 = some { cls := .none, data := .fields #[] }) ∧ (∀ x ∈ Ts, K.lookup x.2 = none) ∧ (∀ x ∈ Ts, PySem.W.CodeHd h x.1 x.2) ∧ (∀ (s : Shared) (u : Value), BindsTo s fd ⟨[u], []⟩ [(x, u)]) ∧
        (∀ (H : Hp) (a : Addr) (ns : List Int), ns.length ≤ n → OnlyTs Ts H → (∀ x ∈ Ts, H x.2 = some (.tbl #[])) → SqL K H a (ns.map V.int) → sp [.ref a] H (fun v _ => v = .bl true) (fun _ _ _ => False)) ∧
        ∀ base : Heap, K.In base → base.Ns mainGlobals mg → (∀ x ∈ Ts, TabB base mg x.1 x.2) → FnG l.prog w K mg base CX k fa fd [x] sp)
    (hCX : ∀ (H : Hp) (s : Shared) (e : Value) (s' : Shared), CX [] H s (fun _ _ _ => False) e s' → False) :
    PySem.W.WalkO q loose XP YP l.row.toRowW d [] (fun f vs => PySem.call f vs) := by
  refine Att.attach_call hn hdf ?_
  intro w s₀ s₁ mg mb fa o pm cd doc a vs ns G Y ho hd hcd hmg hobj hints hlen hg
  obtain ⟨K, fd, sp, Ts, kx, hT, nT, chd, hb, hsp, hF⟩ := F w mg fa _ Y G.T.g hmg
  exact law_callTM kx G.T.g G.T.b G.T.builtins G.T.nolimit hg hT nT chd G.T.bmain hobj hints (Nat.le_trans hlen hn2) hr hF hb (fun H hO hH hS => hsp H a ns hlen hO hH hS) (fun H e s' => hCX H s₁ e s')
end TB
namespace L4
open PySem PySem.Spec PyProof.Rows L2 TB LamX L3
theorem tabS_kp {T T2 : Addr} {q q2 : Str} {H H' : Hp} (t1 : TabS H T q) (t : TabS H T2 q2) (ne : T2 ≠ T) (k : Kp [T] H H') : TabS H' T2 q2 := by
  obtain ⟨tb, h1, h2, h3⟩ := t
  obtain ⟨tb1, e1, _, _⟩ := t1
  refine ⟨tb, k _ _ h1 fun m => ne (List.mem_singleton.mp m), h2, fun pos cv hc => ?_⟩
  obtain ⟨c, e, h⟩ := h3 pos cv hc
  refine ⟨c, e, k _ _ h fun m => ?_⟩
  rw [List.mem_singleton.mp m, e1] at h
  exact nomatch h
/-- one table of some -/
def TIn (tb : List (Addr × Str)) (T : Addr) (q : Str) : Prop := (T, q) ∈ tb ∧ ∀ x ∈ tb, x.1 = T → x = (T, q)
section
variable {X : Sx} {F H H' : Hp} {vs : List V} {ds : List D}
theorem step_tgM {T : Addr} {q : Str} {H' : Hp} (e : Entry X none F H vs ds) (hT : TIn X.tb T q) (t : Tg T q H H') : Same F H' ∧ Same F (addF F H H') ∧ Step X [] F H (addF F H H') H' := by
  have hmem := hT.1
  have tb : TabS H T q := e.tab (T, q) hmem
  have fT : F T = none := e.tabF (T, q) hmem
  have sF : Same F H' := fun b o z => t.kp b o (e.sub _ _ z) (fun m => by
    rw [List.mem_singleton.mp m, fT] at z
    exact nomatch z)
  have sA : Same F (addF F H H') := fun b o z => by
    unfold addF
    simp only [z]
  have tabA : ∀ x ∈ X.tb, TabS H' x.1 x.2 := fun x hx => by
    by_cases c : x.1 = T
    · rw [hT.2 x hx c]
      exact t.tab
    · exact tabS_kp tb (e.tab x hx) c t.kp
  refine ⟨sF, sA, rfl, fun b o z => (addF_is sF z).1, fun i pv h => by simp at h, fun i j f1 o1 f2 o2 p h => by simp at h, t.nt e.nt, tabA, fun x hx => ?_, sA, fun b o z _ m => t.kp b o z (fun w => m (T, q) hmem (List.mem_singleton.mp w)), fun b z => TB.Tg.none t tb z, fun b o z => ?_, fun b z => TB.Tg.none t tb z⟩
  · cases w : addF F H H' x.1 with
    | none => rfl
    | some o =>
      obtain ⟨w1, w2⟩ := addF_is sF w
      obtain ⟨ts, e2, _⟩ := tabA x hx
      rw [e2] at w1
      cases w1
      rcases w2 with w2 | w2 | w2
      · rw [e.tabF x hx] at w2
        exact nomatch w2
      · obtain ⟨ts2, e3, _⟩ := e.tab x hx
        rw [e3] at w2
        exact nomatch w2
      · exact w2.elim
  · rcases (addF_is sF z).2 with w | w | w
    · exact Or.inl w
    · exact Or.inr (Or.inl w)
    · exact Or.inr (Or.inr (Or.inr w))
theorem i_addedM {C T : Addr} {q : Str} (hT : TIn X.tb T q) : ∀ vs H Q E, lsp X none (pAdded C) vs H Q E → spAdded C T q vs H Q E := by
  rintro vs H Q E ⟨F, ds, Q3, en, ⟨ls, ps, a, b, rfl, ok, ha, hb, hab, hr, h⟩, hQ⟩
  obtain ⟨v1, v2, v3, rfl, ⟨y, rfl, hy⟩, e2, e3⟩ := rpl3 en.rpl
  obtain rfl : v2 = .str a := e2
  obtain rfl : v3 = .str b := e3
  have tb : TabS H T q := en.tab (T, q) hT.1
  refine ⟨y, a, b, ls, ps, rfl, hy.same en.sub, ok, ha, hb, hab, hr, en.nt, tb, fun H' y2 qs t oy ok2 hm ny => ?_⟩
  obtain ⟨s1, s2, st⟩ := step_tgM en hT t
  exact hQ (.val (ordD C ls qs)) none (.ref y2) _ H' ⟨st, ⟨y2, rfl, ord_addF s1 oy ny⟩, fun _ _ z => nomatch z⟩ (h qs ok2 hm)
end
section
variable {X : Sx} {c : C4} {F H H1 : Hp} {μ : Mu} {σ : L2.St} {ρ : PS}
theorem R4.tgM {T : Addr} {q : Str} (R : R4 c F H μ σ ρ) (hT : TIn c.X.tb T q) (t : Tg T q H H1) (old : ∀ b, H1 b = none → H b = none) : R4 c F H1 μ σ ρ := by
  have hx : (T, q) ∈ c.X.tb := hT.1
  have kp : ∀ b o, H b = some o → b ≠ T → H1 b = some o := fun b o e n => t.kp b o e fun m => n (List.mem_singleton.mp m)
  have fT : F T = none := R.tabF _ hx
  have tT := R.tab _ hx
  obtain ⟨tb, eT, _⟩ := id tT
  refine ⟨R.len, fun b o e => kp b o (R.sub b o e) fun z => ?_, R.slot, fun a m e => ?_, R.mf, t.nt R.nt, fun x hx2 => ?_, R.tabF, R.fr, fun b o e n nt => kp b o (R.kp b o e n nt) (nt _ hx), fun b e => R.dom b (old b e), R.nw⟩
  · rw [z, fT] at e; exact nomatch e
  · obtain ⟨f, mo⟩ := R.mu a m e
    refine ⟨f, mo.keep (L3.Same.refl F) fun b u e2 hb => kp b u e2 fun z => ?_⟩
    rcases hb with rfl | hb
    · exact R.mtab e _ hx z
    · rw [z, eT, hb] at e2
      exact nomatch Option.some.inj (e2 : some (HO.tbl tb) = some (.own a))
  · by_cases cc : x.1 = T
    · rw [hT.2 x hx2 cc]
      exact t.tab
    · exact tabS_kp tT (R.tab x hx2) cc t.kp
end
def spLawM (K : PySem.W.Frag) (tb : List (Addr × Str)) : Sp := fun vs H Q _ => ∃ (a : Addr) (ns : List Int), vs = [.ref a] ∧ SqL K H a (ns.map V.int) ∧ (∀ x ∈ tb, a ≠ x.1) ∧ ns.length ≤ 63 ∧ NoT H ∧ (∀ x ∈ tb, TabS H x.1 x.2) ∧ ∀ H', Q (.bl true) H'
open Classical in
noncomputable def noAtM (tb : List (Addr × Str)) (H : Hp) : Hp := fun b => if ∃ x ∈ tb, b = x.1 then none else H b
open Classical in
theorem law_impM {K : PySem.W.Frag} {tb : List (Addr × Str)} : ∀ vs H Q E, spLawM K tb vs H Q E → lsp ⟨K, tb⟩ none (pLaw K) vs H Q E := by
  rintro vs H Q E ⟨a, ns, rfl, ha, hT, hn, nt, htb, k⟩
  have f1 : ∀ x ∈ tb, noAtM tb H x.1 = none := fun x hx => if_pos ⟨x, hx, rfl⟩
  have f2 : ∀ b, (¬ ∃ x ∈ tb, b = x.1) → noAtM tb H b = H b := fun b e => if_neg e
  have fa : noAtM tb H a = H a := f2 a fun ⟨x, hx, e⟩ => hT x hx e
  refine ⟨noAtM tb H, [scrD K ns], fun r _ => r = .val (.bl true), ?_, ⟨ns, rfl, hn, rfl⟩, ?_⟩
  · refine { sub := ?_, nt := nt, tab := htb, tabF := f1, len := rfl, arg := ?_, ioA := (fun _ z => nomatch z) }
    · intro b o e
      by_cases c : ∃ x ∈ tb, b = x.1
      · rw [show noAtM tb H b = none from if_pos c] at e
        exact nomatch e
      · rw [f2 b c] at e
        exact e
    · intro j d v h1 h2 _
      match j, h1, h2 with
      | 0, h1, h2 =>
        cases Option.some.inj h1
        cases Option.some.inj h2
        refine ⟨a, rfl, ?_⟩
        rcases ha with (h | ⟨o, h⟩) | h
        · exact Or.inl (Or.inl (by rw [fa]; exact h))
        · exact Or.inl (Or.inr ⟨o, by rw [fa]; exact h⟩)
        · exact Or.inr h
  · rintro r out v F' H' ex rfl
    obtain rfl : v = .bl true := ex.res
    exact k H'
end L4
namespace L2
open PySem PySem.Spec PyProof.Rows
/-- one clause: the class, the slot of the name if there is one, the suite -/
structure Hd where
  c : Value
  i : Option Nat
  ts : Addr → Value → Option Addr → TS
def Ends.gone (i : Nat) (D : Ends) : Ends := { nx := fun σ' H' => D.nx (σ'.set i none) H', rt := D.rt, bk := fun σ' H' => D.bk (σ'.set i none) H', ct := fun σ' H' => D.ct (σ'.set i none) H' }
def Hd.run (h : Hd) (a : Addr) (cls : Value) (d : Option Addr) (D : Ends) (σ : St) (H : Hp) : Prop :=
  match h.i with
  | none => h.ts a cls d D σ H
  | some i => h.ts a cls d (D.gone i) (σ.set i (some (.ref a))) H
def wMix (K : PySem.W.Frag) (Wout : WX) (D : Ends) : List Hd → WX
  | [] => Wout
  | h :: r => fun cls d σ H => ∃ b, PySem.W.exmOne K cls h.c = some b ∧ (b = true → ∀ a, H a = none → h.run a cls d D σ H) ∧ (b = false → wMix K Wout D r cls d σ H)
inductive HdsMix (X : Cx) : List ExceptHandler → List Hd → Prop
  | nil : HdsMix X [] []
  | cons {x : Str} {c : Value} {ts : Addr → Value → Option Addr → TS} {b₀ : Stmt} {suite : List Stmt} {np pos' : Pos} {hds : List ExceptHandler} {l : List Hd} (hc : Names X x c)
      (hsu : ∀ (a : Addr) (oe : Obj) (cls : Value) (d : Option Addr) (pn : List (Addr × Obj)), Zc cls d oe → (∃ vs, oe.data = .fields vs) → PSs (X.suite a ((a, oe) :: pn)) (b₀ :: suite) (ts a cls d)) (r : HdsMix X hds l) :
      HdsMix X (.ExceptHandler (some (.Name x np)) none (b₀ :: suite) pos' :: hds) (⟨c, none, ts⟩ :: l)
  | consAs {x n : Str} {i : Nat} {c : Value} {ts : Addr → Value → Option Addr → TS} {b₀ : Stmt} {suite : List Stmt} {np pos' : Pos} {hds : List ExceptHandler} {l : List Hd} (hi : X.N[i]? = some n) (hln : X.env.kindOf n = some .local) (hc : Names X x c)
      (hsu : ∀ (a : Addr) (oe : Obj) (cls : Value) (d : Option Addr) (pn : List (Addr × Obj)), Zc cls d oe → (∃ vs, oe.data = .fields vs) → PSs (X.suite a ((a, oe) :: pn)) (b₀ :: suite) (ts a cls d)) (r : HdsMix X hds l) :
      HdsMix X (.ExceptHandler (some (.Name x np)) (some n) (b₀ :: suite) pos' :: hds) (⟨c, some i, ts⟩ :: l)
def tTryMix (K : PySem.W.Frag) (l : List Hd) (W : WX) (tb : WX → TS) : TS := fun D σ H => tb (wMix K W D l) D σ H
section
variable {X : Cx} {body : List Stmt} {h₀ : ExceptHandler} {hds : List ExceptHandler} {l : List Hd} {pos : Pos} {tb : WX → TS} {Wout : WX}
theorem ps_try_mix (hs : X.stack = X.env :: X.outer) (hf : X.env.frame = some X.env.locals) (tk : Takes X Wout)
    (hb : ∀ (W : WX) (pn : List (Addr × Obj)) (xe : Value → Shared → Prop), Takes (X.tr pn xe) W → PassesOwn (model X.prog X.w) X.A X.env xe → PSs (X.tr pn xe) body (tb W))
    (hN : X.N.Nodup) (hh : HdsMix X (h₀ :: hds) l) : PS X (.Try body (h₀ :: hds) [] [] pos) (tTryMix X.K l Wout tb) := by
  refine ⟨fun pins s σ H D I h => ?_⟩
  have ok := I.ok
  have hfr : X.A.frames = some (X.env :: X.outer) := by rw [ok.frames, hs]
  refine wpAny_Try_except ?_
  refine wpAny_mono ((hb (wMix X.K Wout D l) (X.pn ++ pins) (fun e s₁ => wpAny (model X.prog X.w) X.A (noteFrame e X.env) (fun _ s₂ => wpAny (model X.prog X.w) X.A (setFlight e none) (fun _ s₃ =>
    wpAny (model X.prog X.w) X.A (handleBy e X.env (h₀ :: hds)) (SP X pins D) X.xe s₃) X.xe s₂) X.xe s₁) (fun u s' xx => ?_) PassesOwn.looking).run [] s σ H D (I.toTry _) h) (fun f s1 hsp => ?_) (fun e s1 he => he)
  · -- the catch
    obtain ⟨a, B, sI, pins', σ', H', cls, d, rfl, J', nb, up, sky, na, os, ag, w⟩ := xx
    have J : Inv X pins σ' H' sI := J'.ofTry ok
    have sky' : Sky B (X.env :: X.outer) a (Zc cls d) X.env.locals s'.heap := by rw [← hs]; exact sky
    show wpAny (model X.prog X.w) X.A (noteFrame (.ref a) X.env) _ _ _
    refine Sky.land Zc.steady hfr hf sky' fun h3 fl3 up3 => ?_
    have J3 : Inv X pins σ' H' { s' with heap := h3 } := J.landed nb fl3.1 (up.trans up3) os ag
    obtain ⟨oe3, vs3, he3, hz3, hd3⟩ := fl3.there
    have notFr : ∀ {h : Heap} {o : Obj} {vs : Array Value}, h.FunFrames B (X.env :: X.outer) → h.get? a = some o → o.data = .fields vs → a ∉ frs (X.env :: X.outer) := fun {h o vs} ff e dd hm => by
      obtain ⟨_, o', e', hnf⟩ := ff.mem hm
      rw [e] at e'; cases e'
      exact hnf _ dd
    have nfr := notFr fl3.2.2.1 he3 hd3
    have nL : a ≠ X.env.locals := fun z => nfr (List.mem_filterMap.mpr ⟨X.env, List.mem_cons_self, by rw [hf, z]⟩)
    have nF : a ∉ X.fs := fun hm => by
      obtain ⟨e, he, q⟩ := List.mem_filterMap.mp hm
      exact nfr (List.mem_filterMap.mpr ⟨e, List.mem_cons_of_mem _ he, q⟩)
    have S3 := J3.suite he3 hd3 na nL nF
    have go : ∀ {hds' : List ExceptHandler} {l' : List Hd}, HdsMix X hds' l' → wMix X.K Wout D l' cls d σ' H' →
        wpAny (model X.prog X.w) X.A (handleBy (.ref a) X.env hds') (SP X pins D) X.xe { s' with heap := h3 } := by
      intro hds' l' hk
      induction hk with
      | nil =>
        intro w
        refine wpAny_handleBy_nil ?_
        obtain ⟨k1, k2, k3, oe, vs, T, oT, ts', he, hz, hd, h1, hr⟩ := id fl3
        unfold PySem.passOn
        refine wpAny_bind (wpAny_field he hd h1 ?_)
        rw [if_neg (show ¬ ((Value.ref T == Value.none) = true) from by simp)]
        have fin : wpAny (model X.prog X.w) X.A (setFlight (.ref a) X.env.frame) (fun _ s4 => wpAny (model X.prog X.w) X.A (throw (.ref a) : Sem Flow) (SP X pins D) X.xe s4) X.xe { s' with heap := h3 } := by
          rw [hf]
          refine HandSPX.setFlight_upZ fl3 fun h4 hh4 up4 => wpAny_throw (tk _ _ ?_)
          exact ⟨a, B, sI, pins, σ', H', cls, d, rfl, J, nb, (up.trans up3).trans up4, .inr (.inr (by rw [hs]; exact hh4)), na, os, ag, w⟩
        first
          | exact wpAny_bind (wpAny_pure (wpAny_bind fin))
          | exact wpAny_bind fin
      | @cons x c ts b₀ suite np pos' hds2 l2 hc hsu r ih =>
        intro w
        obtain ⟨b, hb1, hyes, hno⟩ := w
        refine wpAny_handleBy_cons (codeAny_handlers_test ?_) (by intro q; cases q)
        have LT : PySem.W.Looks (model X.prog X.w) h3 (typeOf (.ref a)) cls := fun A Q E s k q => wpAny_typeOf_ref (k _ _ he3) (by rw [hz3.1]; exact q)
        have LM := PySem.W.exm_one (M := model X.prog X.w) (J3.kIn) LT hb1
        have test : ∀ {Q : Value → Shared → Prop} {E : Value → Shared → Prop}, Q c { s' with heap := h3 } → wpAny (model X.prog X.w) (X.A.mark (some (.ref a))) (eval (.Name x np) X.env) Q E { s' with heap := h3 } := fun {Q E} q => by
          obtain ⟨hg, hdbg, hm | ⟨hm, hv, hnn⟩⟩ := hc
          · exact ld_glob (X := X.suite a ((a, oe3) :: (X.pn ++ pins))) S3 hg hm q hdbg
          · exact ld_blt (X := X.suite a ((a, oe3) :: (X.pn ++ pins))) S3 hg hm hv q hnn hdbg
        refine test (LM.here ?_)
        cases b with
        | true =>
          refine codeAny_handlers_suite ?_
          refine HandSPX.lands_againZ fl3 fun h4 fl4 up4 => ?_
          have J4 : Inv X pins σ' H' { s' with heap := h4 } := J.landed nb fl4.1 ((up.trans up3).trans up4) os ag
          obtain ⟨oe4, vs4, he4, hz4, hd4⟩ := fl4.there
          have S4 := J4.suite he4 hd4 na nL nF
          refine wpAny_mono ((hsu a oe4 cls d (X.pn ++ pins) hz4 ⟨_, hd4⟩).run [] _ _ H' _ S4 (hyes rfl a na)) (fun f s6 hsp => ?_) (fun _ _ z => False.elim z)
          cases f with
          | next =>
            obtain ⟨σ6, H6, S6, q6⟩ := hsp
            exact ⟨_, _, S6.unsuite ok, q6⟩
          | brk =>
            obtain ⟨σ6, H6, S6, q6⟩ := hsp
            exact ⟨_, _, S6.unsuite ok, q6⟩
          | cont =>
            obtain ⟨σ6, H6, S6, q6⟩ := hsp
            exact ⟨_, _, S6.unsuite ok, q6⟩
          | ret u =>
            obtain ⟨v6, σ6, H6, S6, r6, q6⟩ := hsp
            exact ⟨_, _, _, S6.unsuite ok, r6, q6⟩
        | false =>
          show wpAny _ X.A (handleBy (.ref a) X.env hds2) _ _ _
          exact ih (hno rfl)
      | @consAs x n i c ts b₀ suite np pos' hds2 l2 hi hln hc hsu r ih =>
        intro w
        obtain ⟨b, hb1, hyes, hno⟩ := w
        refine wpAny_handleBy_cons (codeAny_handlers_test ?_) (by intro q; cases q)
        have LT : PySem.W.Looks (model X.prog X.w) h3 (typeOf (.ref a)) cls := fun A Q E s k q => wpAny_typeOf_ref (k _ _ he3) (by rw [hz3.1]; exact q)
        have LM := PySem.W.exm_one (M := model X.prog X.w) (J3.kIn) LT hb1
        have test : ∀ {Q : Value → Shared → Prop} {E : Value → Shared → Prop}, Q c { s' with heap := h3 } → wpAny (model X.prog X.w) (X.A.mark (some (.ref a))) (eval (.Name x np) X.env) Q E { s' with heap := h3 } := fun {Q E} q => by
          obtain ⟨hg, hdbg, hm | ⟨hm, hv, hnn⟩⟩ := hc
          · exact ld_glob (X := X.suite a ((a, oe3) :: (X.pn ++ pins))) S3 hg hm q hdbg
          · exact ld_blt (X := X.suite a ((a, oe3) :: (X.pn ++ pins))) S3 hg hm hv q hnn hdbg
        refine test (LM.here ?_)
        cases b with
        | true =>
          refine codeAny_handlers_suite_as ?_
          refine HandSPX.lands_againZ fl3 fun h4 fl4 up4 => ?_
          have J4 : Inv X pins σ' H' { s' with heap := h4 } := J.landed nb fl4.1 ((up.trans up3).trans up4) os ag
          obtain ⟨oe4, vs4, he4, hz4, hd4⟩ := fl4.there
          have S4 := J4.suite he4 hd4 na nL nF
          refine store_ok (X := X.suite a ((a, oe4) :: (X.pn ++ pins))) (v := .ref a) S4 hN hi (.inl hln) rfl (fun s5 S5 => ?_) (.inr hln)
          refine wpAny_mono ((hsu a oe4 cls d (X.pn ++ pins) hz4 ⟨_, hd4⟩).run [] s5 _ H' _ S5 (hyes rfl a na)) (fun f s6 hsp => ?_) (fun _ _ z => False.elim z)
          have end_ : ∀ {σ6 : St} {H6 : Hp} {Q : Shared → Prop}, Inv (X.suite a ((a, oe4) :: (X.pn ++ pins))) [] σ6 H6 s6 → (∀ s7, Inv X pins (σ6.set i none) H6 s7 → Q s7) →
              wpAny (model X.prog X.w) X.A (do bindName X.env n .none; unbindBehindTheSuite X.env n pos') (fun _ s7 => Q s7) X.xe s6 := fun {σ6 H6 Q} S6 hq => gone_ok (S6.unsuite ok) hN hi hln hq
          cases f with
          | next =>
            obtain ⟨σ6, H6, S6, q6⟩ := hsp
            exact end_ S6 fun s7 J7 => ⟨_, _, J7, q6⟩
          | brk =>
            obtain ⟨σ6, H6, S6, q6⟩ := hsp
            exact end_ S6 fun s7 J7 => ⟨_, _, J7, q6⟩
          | cont =>
            obtain ⟨σ6, H6, S6, q6⟩ := hsp
            exact end_ S6 fun s7 J7 => ⟨_, _, J7, q6⟩
          | ret u =>
            obtain ⟨v6, σ6, H6, S6, r6, q6⟩ := hsp
            exact end_ S6 fun s7 J7 => ⟨_, _, _, J7, r6, q6⟩
        | false =>
          show wpAny _ X.A (handleBy (.ref a) X.env hds2) _ _ _
          exact ih (hno rfl)
    exact go hh w
  · cases f with
    | next =>
      obtain ⟨σ', H', J', q⟩ := hsp
      exact wpAny_execs_nil ⟨σ', H', J'.ofTry ok, q⟩
    | brk =>
      obtain ⟨σ', H', J', q⟩ := hsp
      exact ⟨σ', H', J'.ofTry ok, q⟩
    | cont =>
      obtain ⟨σ', H', J', q⟩ := hsp
      exact ⟨σ', H', J'.ofTry ok, q⟩
    | ret u =>
      obtain ⟨v, σ', H', J', r, q⟩ := hsp
      exact ⟨v, σ', H', J'.ofTry ok, r, q⟩
end
end L2
namespace LamX
open PySem PySem.Spec PyProof.Rows L2 TB
/-- the def that calls what it got, handed a thing more -/
def GivesG2 (P : Program) (w : World) (K : PySem.W.Frag) (mg : Str → Option Value) (base : Heap) (A : Around) (stack : List Env) (k : Nat) (Ng : List Str) (x : Str) (sg : Scope) (g : Addr) (cdg : Value) (bg : List Stmt) (a : Str) (TT : (XK → Hp → VK → Prop) → V → Hp → VK → Prop) : Prop :=
  ∀ (q : Str) (f c' : Addr) (v2 : V) (s : Shared) (H : Hp) (Q : VK) (tl : XK → Hp → VK → Prop), Room (k + 1) (A.deeper (envOfC x sg s.heap.objs.size g cdg)) →
    (∀ (W : WX) (pn : List (Addr × Obj)) (xe : Value → Shared → Prop) (p1 p2 : Pos), Takes ((cxOf C8.CX0 P w K mg base Ng x sg g cdg A stack s H C8.E0).nox.tr pn xe) W →
      PE ((cxOf C8.CX0 P w K mg base Ng x sg g cdg A stack s H C8.E0).nox.tr pn xe) (.Call (.Name a p1) [] [] p2) (tAct f c' q tl W)) →
    H c' = some (CodeO c' q) → TT tl v2 H Q →
    ∃ t, PSs (cxOf C8.CX0 P w K mg base Ng x sg g cdg A stack s H C8.E0).nox bg t ∧ t { nx := fun _ H' => Q .non H', rt := Q } (L2.start Ng [.ref f, v2]) H
structure FnL2 (P : Program) (w : World) (K : PySem.W.Frag) (mg : Str → Option Value) (base : Heap) (k : Nat) (x : Str) (TT : (XK → Hp → VK → Prop) → V → Hp → VK → Prop) : Prop where
  ex : ∃ (g : Addr) (pg : Arguments) (bg : List Stmt) (sg : Scope) (oc dV kV doc pm cdv ct : Value) (an od : Option Addr) (osl : Array (Option Value)) (Ng : List Str) (a a2 : Str),
    mg x = some (.ref g) ∧ PySem.W.keepIn K (.ref g) = true ∧ K.lookup g = some ⟨oc, od, .func (PySem.W.fnOf x x pg bg sg dV kV doc pm an cdv ct), osl⟩ ∧ PySem.W.codeIn K cdv x = true ∧ L2.Binds K (PySem.W.fnOf x x pg bg sg dV kV doc pm an cdv ct) [a, a2] [] ∧ FnScope Ng [a, a2] sg ∧ Ng[0]? = some a ∧ Vis sg a ∧
    (a == ("__debug__" : Str)) = false ∧ (a == ("__classdict__" : Str)) = false ∧ ∀ (A : Around) (stack : List Env), A.guards = some [] → GivesG2 P w K mg base A stack k Ng x sg g cdv bg a TT
theorem fnl2_of {P : Program} {w : World} {K : PySem.W.Frag} {mg : Str → Option Value} {base : Heap} {k : Nat} {x a a2 : Str} {f : Addr} {fd : FuncData} {params : Arguments} {body : List Stmt} {scope : Scope} {N : List Str} {TT : (XK → Hp → VK → Prop) → V → Hp → VK → Prop}
    (F : FunD K x x params body scope [] [] f fd) (hm : mg x = some (.ref f)) (hk : PySem.W.keepIn K (.ref f) = true) (b : L2.Binds K fd [a, a2] []) (S : FnScope N [a, a2] scope) (h0 : N[0]? = some a) (hv : Vis scope a) (h1 : (a == ("__debug__" : Str)) = false) (h2 : (a == ("__classdict__" : Str)) = false)
    (h : ∀ (cdv : Value) (A : Around) (stack : List Env), A.guards = some [] → GivesG2 P w K mg base A stack k N x scope f cdv body a TT) : FnL2 P w K mg base k x TT := by
  obtain ⟨oc, od, dV, kV, doc, pm, an, cdv, ct, osl, rfl, lk, hcd, _, _⟩ := F.ex
  exact ⟨f, params, body, scope, oc, dV, kV, doc, pm, cdv, ct, an, od, osl, N, a, a2, hm, hk, lk, hcd, b, S, h0, hv, h1, h2, h cdv⟩
def tLamG2 (P : Addr) (q : Str) (TT : (XK → Hp → VK → Prop) → V → Hp → VK → Prop) (t : XK → TE) (t2 : TE) : TE := fun σ H Q => TabS H P q ∧ ∀ H1, Tg P q H H1 → (∀ b, H1 b = none → H b = none) → ∀ c', H1 c' = some (CodeO c' q) → t2 σ H1 fun v H2 => H2 c' = some (CodeO c' q) ∧ TT (fun E H' Q' => t E σ H' Q') v H2 Q
section
variable {X : Cx}
/-- x(lambda: body) -/
theorem pe_lamG2 {TT : (XK → Hp → VK → Prop) → V → Hp → VK → Prop} {x : Str} {c P : Addr} {k j : Nat} {params : Arguments} {body : Expr} {scope : Scope} {t : XK → TE} {t2 : TE} {e2 : Expr} {p lpos pos : Pos} (D : FnL2 X.prog X.w X.K X.mg X.base k x TT) (hg : Gl X x)
    (TB : TabB X.base X.mg c P) (hcode : X.env.code = .ref c) (gd : X.A.guards = some []) (hr : Room j X.A) (hk : k + 2 ≤ j) (L : LamS X.env.scope scope) (hdef : defaultsOf params X.env = ([], []))
    (hbind : ∀ (q : Str) (cl : List (Str × Addr)) (pm cv ctv : Value), bindArgs (PySem.W.kla_fn "<lambda>" q params body scope cl pm cv ctv) ⟨[], []⟩ = pure [])
    (hbody : ∀ (A : Around) (outer : List Env) (s : Shared) (H : Hp) (E : XK) (f c' : Addr), Room k (A.deeper (lamEnv X scope s.heap.objs.size f c')) → PE (lamCx X A outer s H E scope f c') body (t E))
    (h2 : PE X e2 t2) (hst : starEach [e2] X.env = (false, eval e2 X.env) :: starEach [] X.env := by rfl) (hpl : (backTo pos (starEach [e2] X.env)).any (·.1) = false := by rfl) (hs : X.stack = X.env :: X.outer := by rfl) (hdb : (x == ("__debug__" : Str)) = false := by decide) :
    PE X (.Call (.Name x p) [.Lambda params body scope lpos, e2] [] pos) (tLamG2 P (X.env.qual ++ "<lambda>") TT t t2) := by
  obtain ⟨g, pg, bg, sg, oc, dV, kV, doc, pm, cdv, ct, an, od, osl, Ng, a, a2, hm, hkp, lk, hcg, hb, Sg, hNg, hva, hd, hcd, hG⟩ := D.ex
  refine ⟨fun pins s σ H Q I h => ?_⟩
  obtain ⟨hT, h⟩ := h
  refine wpAny_Call_Name_kw (ld_glob I hg hm ?_ hdb)
  refine PySem.W.callWith_K (h₀ := X.base) I.ok.mod.kin hkp ?_ (by rfl) hpl
  show wpAny _ _ (spliced ((false, eval (.Lambda params body scope lpos) X.env) :: backTo pos (starEach [e2] X.env))) _ _ s
  refine Calls.spliced_cons (lam_made I TB hcode hT hdef (L.has I.ok) fun f c' pm' ctv H1 s' I1 tg old hf hfn hfr hco => ?_)
  have nfs : f ∉ X.fs := fun z => hfr (by rw [hs]; obtain ⟨e, he, q⟩ := List.mem_filterMap.mp z; exact List.mem_filterMap.mpr ⟨e, List.mem_cons_of_mem _ he, q⟩)
  have nl : f ≠ X.env.locals := fun z => by
    obtain ⟨m, ⟨o, es, ep, e, d, r⟩, _⟩ := I1.loc
    rw [← z, hf] at e
    obtain rfl := Option.some.inj e
    exact nomatch d
  have pn1 : ∀ y ∈ X.pn ++ (f, PySem.W.kla_obj "<lambda>" (X.env.qual ++ "<lambda>") params body scope (cloFrom X.env.cells scope.names []) pm' c' ctv) :: pins, s'.heap.get? y.1 = some y.2 ∧ H1 y.1 = none ∧ y.1 ≠ X.env.locals ∧ y.1 ∉ X.fs ∧ ∀ v, y.2.data ≠ .cell v := by
    intro y hy
    rcases List.mem_append.mp hy with hy | hy
    · exact I1.pin y (List.mem_append_left _ hy)
    · rcases List.mem_cons.mp hy with rfl | hy
      · exact ⟨hf, hfn, nl, nfs, fun v z => nomatch z⟩
      · exact I1.pin y (List.mem_append_right _ hy)
  have I1p : Inv X ((f, PySem.W.kla_obj "<lambda>" (X.env.qual ++ "<lambda>") params body scope (cloFrom X.env.cells scope.names []) pm' c' ctv) :: pins) σ H1 s' := { I1 with pin := pn1 }
  refine wpAny_mono ((pa_cons h2 pa_nil hst).run pos _ s' σ H1 (fun vs H2 => match vs with
    | [v] => H2 c' = some (CodeO c' (X.env.qual ++ "<lambda>")) ∧ TT (fun E H' Q' => t E σ H' Q') v H2 Q
    | _ => False) I1p (h H1 tg old c' hco)) (fun us2 s2 hq2 => ?_) fun _ _ z => z
  obtain ⟨vs2, H2, I2, r2, hq2⟩ := hq2
  obtain ⟨v2, rfl⟩ : ∃ v, vs2 = [v] := by
    match vs2, hq2 with
    | [v], _ => exact ⟨v, rfl⟩
    | [], z => exact z.elim
    | _ :: _ :: _, z => exact z.elim
  obtain ⟨u2, rfl⟩ : ∃ u, us2 = [u] := by
    cases r2 with
    | cons r t => cases t; exact ⟨_, rfl⟩
  have r2 : RelV v2 u2 := by
    cases r2 with
    | cons r t => exact r
  obtain ⟨hco2, hTT⟩ := hq2
  have pf := I2.pin (f, _) (List.mem_append_right _ List.mem_cons_self)
  refine ⟨I2.kIn, ?_⟩
  have hr2 : Room (k + 2) X.A := hr.mono hk
  have rc : codeAny (model X.prog X.w) X.A (.call (.ref g) ⟨[.ref f, u2], []⟩) (CR C8.CX0 X.stack X.prog X.w H2 s2 Q C8.E0) s2 := by
    refine run_ofS (N := Ng) (ps := [a, a2]) (us := [.ref f, u2]) (vs := [.ref f, v2]) lk hcg Sg hr2 I2.env0 (hb s2 [.ref f, u2] I2.kIn rfl) (.cons rfl (.cons r2 .nil)) rfl fun hr' => ?_
    obtain ⟨t', ht', hq'⟩ := hG X.A X.stack gd _ f c' v2 s2 H2 Q (fun E H' Q' => t E σ H' Q') hr' (fun W pn xe p1 p2 tk => pe_actS (CXg := C8.CX0) (Eg := C8.E0) (i := 0) I2 L pf.1 pf.2.1 hfr (hbind _ _ _ _ _) tk hr' (fun A outer s H E hr2 => hbody A outer s H E f c' hr2) hNg hva hd hcd) hco2 hTT
    exact ⟨t', ht'.nox, hq'⟩
  refine wpAny_call (codeAny_mono rc fun r s3 hq => ?_)
  have un : Inv X pins σ H2 s2 := { I2 with pin := fun y hy => I2.pin y ((List.mem_append.mp hy).elim (fun z => List.mem_append_left _ z) fun z => List.mem_append_right _ (List.mem_cons_of_mem _ z)) }
  cases r with
  | error e => exact (show False from hq).elim
  | ok fl =>
    cases fl with
    | ret u => exact un.after hq
    | next => exact False.elim hq
    | brk => exact False.elim hq
    | cont => exact False.elim hq
end
end LamX
namespace L4
open PySem PySem.Spec PyProof.Rows L2 TB LamX L3
def TT42 (X : Sx) (P : QL → Vl → Mu → (Vl → Mu → Prop) → Prop) : (XK → Hp → VK → Prop) → V → Hp → VK → Prop := fun tl v2 H Q => ∃ F μ pb x2 Q4, R4 ⟨X, F, H, μ⟩ F H μ [] [] ∧ Acts ⟨X, F, H, μ⟩ tl pb ∧ RV X.K F x2 v2 ∧ P pb x2 μ Q4 ∧
  ∀ x v F' H' μ', R4 ⟨X, F, H, μ⟩ F' H' μ' [] [] → RV X.K F' x v → Q4 x μ' → Q v H'
section
variable {X : Sx}
def qLam2 (P : QL → Vl → Mu → (Vl → Mu → Prop) → Prop) (pe : QX4) (p2 : QE4) : QE4 := fun ρ μ Q => p2 ρ μ fun x2 μ1 => P (fun μ2 Q4 ex => pe ρ μ2 Q4 fun xd _ μ3 => ex xd μ3) x2 μ1 Q
theorem e_lamM2 {T : Addr} {q : Str} {P : QL → Vl → Mu → (Vl → Mu → Prop) → Prop} {t : XK → TE} {pe : QX4} {t2 : TE} {p2 : QE4} (hT : TIn X.tb T q) (h : E4K X t pe) (h2 : E4 X t2 p2) : E4 X (tLamG2 T q (TT42 X P) t t2) (qLam2 P pe p2) := by
  intro c hX σ F H μ ρ Q Q4 R hq hp
  subst hX
  refine ⟨R.tab (T, q) hT.1, fun H1 tg old c' hc' => ?_⟩
  have R1 := R.tgM hT tg old
  refine h2 (c.at F H1 μ) rfl σ F H1 μ ρ _ _ R1.here ?_ hp
  intro x2 v2 F2 H2 μ2 R2 s2 r2 hP
  have nm : μ c' = none := by
    cases e : μ c' with
    | none => rfl
    | some m =>
      obtain ⟨o, eo, mo⟩ := (R1.mu c' m e).2.at
      rw [hc'] at eo
      obtain rfl := Option.some.inj eo
      exact mo.elim
  refine ⟨R2.kp c' _ hc' nm (R1.notab hc' fun ps => codeO_ne ps), ?_⟩
  have R2c : R4 c F2 H2 μ2 σ ρ := R1.slots R2.bare
  refine ⟨F2, μ2, _, x2, Q4, R2c.here.bare, ?_, r2, hP, fun x v F' H' μ' R' r q => hq x v F' H' μ' (R2c.slots R') (tr s2 R'.fr) r q⟩
  intro F3 H3 μ3 Q' E Q4' ex R3 k1 k2 hp2
  have R4' : R4 (c.at F2 H2 μ2) F3 H3 μ3 σ ρ := R2c.here.reslot R3 R3.fr rfl
  refine h E (c.at F2 H2 μ2) rfl σ F3 H3 μ3 ρ Q' Q4' (fun xd _ μ' => ex xd μ') R4' ?_ ?_ hp2
  · intro σ' F' H' μ' ρ' cls d xd R' s xo z
    exact k2 xd cls d F' H' μ' R'.bare s xo z
  · intro x v F' H' μ' R' s r z
    exact k1 x v F' H' μ' R'.bare s r z
/-- a lambda that calls a def, and a thing more -/
def qLam02 (PP : QL → Vl → Mu → (Vl → Mu → Prop) → Prop) (P : PSp4) (pa : QA4) (p2 : QE4) : QE4 := fun ρ μ Q => p2 ρ μ fun x2 μ1 => PP (fun μ2 Q4 ex => pa ρ μ2 fun xs μ3 => P xs μ3 Q4 ex) x2 μ1 Q
theorem e_lam02 {T : Addr} {q : Str} {PP : QL → Vl → Mu → (Vl → Mu → Prop) → Prop} {P : PSp4} {ta : TA} {pa : QA4} {t2 : TE} {p2 : QE4} (h : A4 X ta pa) (h2 : E4 X t2 p2) (hT : TIn X.tb T q := by assumption) : E4 X (tLamG2 T q (TT42 X PP) (fun E => tCallSD (lsp4 X P) [] (WE fun cls d _ H => E cls d H) ta) t2) (qLam02 PP P pa p2) := e_lamM2 hT (fun E => x_call0 h) h2
theorem v_lam02 {ρ : PS} {μ : Mu} {PP : QL → Vl → Mu → (Vl → Mu → Prop) → Prop} {P : PSp4} {pa : QA4} {p2 : QE4} {Q : Vl → Mu → Prop} (h : p2 ρ μ fun x2 μ1 => PP (fun μ2 Q4 ex => pa ρ μ2 fun xs μ3 => P xs μ3 Q4 ex) x2 μ1 Q) : qLam02 PP P pa p2 ρ μ Q := h
theorem run4L2 {X : Sx} {P : Program} {w : World} {mg : Str → Option Value} {base : Heap} {A : Around} {stack : List Env} {k : Nat} {Ng : List Str} {x : Str} {sg : Scope} {g : Addr} {cdg : Value} {bg : List Stmt} {a : Str} {PP : QL → Vl → Mu → (Vl → Mu → Prop) → Prop}
    (h : ∀ (q : Str) (f c' : Addr) (s : Shared) (H : Hp) (tl : XK → Hp → VK → Prop), Room (k + 1) (A.deeper (envOfC x sg s.heap.objs.size g cdg)) →
      (∀ (W : WX) (pn : List (Addr × Obj)) (xe : Value → Shared → Prop) (p1 p2 : Pos), Takes ((cxOf C8.CX0 P w X.K mg base Ng x sg g cdg A stack s H C8.E0).nox.tr pn xe) W →
        PE ((cxOf C8.CX0 P w X.K mg base Ng x sg g cdg A stack s H C8.E0).nox.tr pn xe) (.Call (.Name a p1) [] [] p2) (tAct f c' q tl W)) →
      ∃ t, PSs (cxOf C8.CX0 P w X.K mg base Ng x sg g cdg A stack s H C8.E0).nox bg t ∧ ∀ (c : C4) (pb : QL), c.X = X → (∀ W, E4Xc c W (tAct f c' q tl W) (xAct f pb)) → ∃ p, S4c c (fun _ _ _ _ => False) t p ∧ ∀ x2 μ Q4, PP pb x2 μ Q4 → p (ends4 Q4 fun _ _ => False) (start4 Ng [.loc f, x2]) μ) :
    GivesG2 P w X.K mg base A stack k Ng x sg g cdg bg a (TT42 X PP) := by
  intro q f c' v2 s H Q tl hr act hc hT
  obtain ⟨F, μ, pb, x2, Q4, R, ha, r2, hP, hQ⟩ := hT
  obtain ⟨t, ht, hp⟩ := h q f c' s H tl hr act
  have nm : μ c' = none := by
    cases e : μ c' with
    | none => rfl
    | some m =>
      obtain ⟨o, eo, mo⟩ := (R.mu c' m e).2.at
      rw [hc] at eo
      obtain rfl := Option.some.inj eo
      exact mo.elim
  obtain ⟨p, hl, hp⟩ := hp ⟨X, F, H, μ⟩ pb rfl (fun W => x_actc hc nm (R.notab hc fun ps => codeO_ne ps) ha)
  refine ⟨t, ht, ?_⟩
  refine hl (L2.start Ng [.ref f, v2]) F H μ (start4 Ng [.loc f, x2]) _ (ends4 Q4 fun _ _ => False) (start4_rel R ⟨_, _, rfl, rfl, _, _, rfl, r2, rfl⟩) ⟨?_, ?_, fun _ _ _ _ _ _ _ z => z.elim, fun _ _ _ _ _ _ _ z => z.elim⟩ (fun _ _ _ _ _ _ _ _ _ _ _ z => z.elim) (hp x2 μ Q4 hP)
  · intro σ' F' H' μ' ρ' R' _ q
    exact hQ (.d .non) .non F' H' μ' R'.bare rfl q
  · intro σ' F' H' μ' ρ' v x R' _ r q
    exact hQ x v F' H' μ' R'.bare r q
end
end L4
namespace L3
open PySem PySem.Spec PyProof.Rows L2 TB LamX
theorem mkOrd_rel {c : Ct} {F1 H1 H' : Hp} {σ : L2.St} {ρ1 : PSt} {C x dx : Addr} {ws : List Str} (R1 : Rel c F1 H1 σ ρ1) (nx : H1 x = none) (ndx : H1 dx = none) (nxx : dx ≠ x)
    (kp : Kp [x] (upd (upd H1 dx (.own x)) x (.ins C dx [])) H') (nt : NoT (upd (upd H1 dx (.own x)) x (.ins C dx [])) → NoT H') (oa : OrdAt C H' x ws []) :
    Rel c (addF F1 H1 H') H' σ ρ1 ∧ Same F1 (addF F1 H1 H') ∧ Rp c.K (addF F1 H1 H') (ordD C ws []) (.ref x) := by
  have ndx2 : upd H1 dx (.own x) x = none := by
    rw [upd_ne (fun z => nxx z.symm)]
    exact nx
  have Ra := R1.allocH (o := .own x) ndx trivial
  have Rb := Ra.allocH (o := .ins C dx []) ndx2 trivial
  have hb : ∀ b o, H1 b = some o → H' b = some o := fun b o z => kp b o (old_upd ndx2 (old_upd ndx z)) (fun m => by
    rw [List.mem_singleton.mp m, nx] at z
    exact nomatch z)
  have sF : Same F1 H' := fun b o z => hb b o (R1.sub _ _ z)
  have sA : Same F1 (addF F1 H1 H') := fun b o z => by
    unfold addF
    simp only [z]
  have dm : ∀ b, H' b = none → H1 b = none := fun b z => by
    cases w : H1 b with
    | none => rfl
    | some o => rw [hb b o w] at z; exact nomatch z
  have R2 : Rel c (addF F1 H1 H') H' σ ρ1 := by
    refine ⟨R1.len, fun b o z => (addF_is sF z).1, fun i pv hi => (R1.slot i pv hi).mono sA fun fr ds p e1 e2 => ?_, R1.sep, nt (Rb.nt), fun x hx => (R1.tab x hx).ext hb, fun x hx => ?_, fun _ _ z => sA _ _ (R1.fr _ _ z), fun b o z n m => hb b o (R1.kp b o z n m), fun b z => R1.dom b (dm b z), fun b o z => ?_, fun p z => R1.new p (dm p z)⟩
    · subst e1
      obtain ⟨fp, vs, lp⟩ := R1.ownAt hi e2
      refine ⟨?_, fun _ z => hb _ _ z⟩
      cases w : addF F1 H1 H' p with
      | none => rfl
      | some o =>
        obtain ⟨w1, w2⟩ := addF_is sF w
        rw [hb _ _ lp] at w1
        cases w1
        rcases w2 with w2 | w2 | w2
        · rw [fp] at w2
          exact nomatch w2
        · rw [lp] at w2
          exact nomatch w2
        · exact w2.elim
    · cases w : addF F1 H1 H' x.1 with
      | none => rfl
      | some o =>
        obtain ⟨w1, w2⟩ := addF_is sF w
        obtain ⟨ts, e2, _⟩ := R1.tab x hx
        rw [hb _ _ e2] at w1
        cases w1
        rcases w2 with w2 | w2 | w2
        · rw [R1.tabF x hx] at w2
          exact nomatch w2
        · rw [e2] at w2
          exact nomatch w2
        · exact w2.elim
    · rcases (addF_is sF z).2 with w | w | w
      · exact R1.nw b o w
      · exact Or.inr (Or.inl (R1.dom b w))
      · exact Or.inr (Or.inr (Or.inr w))
  exact ⟨R2, sA, x, rfl, ord_addF sF oa nx⟩
end L3
namespace L4
open PySem PySem.Spec PyProof.Rows L2 TB LamX L3
section
variable {X : Sx} {W : WX}
def qMkOrd4 (C : Addr) (pa : QA4) : QE4 := fun ρ μ Q => pa ρ μ fun xs μ1 => ∃ (x : Vl) (ws : List Str), xs = [x] ∧ lstOf μ1 x = some ((strsD ws).map Vl.d) ∧ Q (.d (ordD C ws [])) μ1
theorem strs_of {K : PySem.W.Frag} {F : Hp} : ∀ {ws : List Str} {vs : List V}, RVs K F ((strsD ws).map Vl.d) vs → vs = ws.map V.str
  | [], vs, h => by rw [show vs = [] from h]; rfl
  | w :: ws, vs, h => by
    obtain ⟨v, r, rfl, q, t⟩ := h
    rw [show v = .str w from q, strs_of t]
    rfl
theorem e_mkOrd4 {K : PySem.W.Frag} {C d : Addr} {ta : TA} {pa : QA4} {E : XK} (h1 : A4 X ta pa) (hd : ∀ H, SqT K H d [] := by assumption) (hK : X.K = K := by rfl) : E4 X (tMake C (spInit K C) [.ref d] E ta) (qMkOrd4 C pa) := by
  subst hK
  intro c hX σ F H μ ρ Q Q4 R hq hp
  subst hX
  refine h1 c rfl σ F H μ ρ _ _ R ?_ hp
  rintro xs vs F1 H1 μ1 R1 s1 rv ⟨x0, ws, rfl, e, q⟩
  obtain ⟨v, r, rfl, rx, rt⟩ := rv
  obtain rfl : r = [] := rt
  obtain ⟨l, us, rfl, hl, hr⟩ := lstOf_at R1 e rx
  obtain rfl := strs_of hr
  intro x dx nx ndx nxx
  have ndx2 : upd H1 dx (.own x) x = none := by
    rw [upd_ne (fun z => nxx z.symm)]
    exact nx
  refine ⟨x, dx, l, d, ws, rfl, upd_same, Or.inl (sqL_of (old_upd ndx2 (old_upd ndx hl))), hd, ?_⟩
  intro H' kp nt oa
  refine ⟨rfl, ?_⟩
  obtain ⟨R2, sA, rp⟩ := mkOrd_rel R1.rel nx ndx nxx kp nt oa
  exact hq (.d (ordD C ws [])) (.ref x) _ H' μ1 (R1.back R2) (tr s1 sA) rp q
theorem v_mkOrd4 {C : Addr} {pa : QA4} {ρ : PS} {μ : Mu} {Q : Vl → Mu → Prop} (h : pa ρ μ fun xs μ1 => ∃ (x : Vl) (ws : List Str), xs = [x] ∧ lstOf μ1 x = some ((strsD ws).map Vl.d) ∧ Q (.d (ordD C ws [])) μ1) : qMkOrd4 C pa ρ μ Q := h
structure H4 where
  c : Value
  i : Option Nat
  ps : Addr → Value → Option Addr → QS4
def H4.run (K : PySem.W.Frag) (h : H4) (a : Addr) (cls : Value) (d : Option Addr) (P : P4) (xd : XD) (ρ : PS) (μ : Mu) : Prop :=
  match h.i with
  | none => h.ps a cls d { P with ex := fun _ _ _ => False } ρ μ
  | some i => h.ps a cls d (trN i P) (ρ.set i (some (.d (excD K a cls d xd)))) μ
def exMix (K : PySem.W.Frag) (P : P4) : List H4 → XD → PS → Mu → Prop
  | [] => P.ex
  | h :: r => fun xd ρ μ => ∃ b, PySem.W.exmOne K (.ref xd.C) h.c = some b ∧ (b = true → ∀ a cls d, h.run K a cls d P xd ρ μ) ∧ (b = false → exMix K P r xd ρ μ)
def sTryMix (K : PySem.W.Frag) (l : List H4) (p : QS4) : QS4 := fun P ρ μ => p { P with ex := exMix K P l } ρ μ
inductive HMix (cc : C4) : List Hd → List H4 → Prop
  | nil : HMix cc [] []
  | cons {c : Value} {i : Option Nat} {ts : Addr → Value → Option Addr → TS} {ps : Addr → Value → Option Addr → QS4} {l : List Hd} {l4 : List H4} (h : ∀ a cls d, S4c cc (fun _ _ _ _ => False) (ts a cls d) (ps a cls d)) (r : HMix cc l l4) : HMix cc (⟨c, i, ts⟩ :: l) (⟨c, i, ps⟩ :: l4)
theorem s_tryMixc {cc : C4} {l : List Hd} {l4 : List H4} {tb : WX → TS} {p : QS4} (h1 : ∀ W, S4c cc W (tb W) p) (h2 : HMix cc l l4) : S4c cc W (tTryMix cc.K l W tb) (sTryMix cc.K l4 p) := by
  intro σ F H μ ρ D P R a ax hp
  refine h1 _ σ F H μ ρ D { P with ex := exMix cc.K P l4 } R ⟨a.nx, a.rt, a.bk, a.ct⟩ ?_ hp
  clear hp h1
  induction h2 with
  | nil => exact fun σ' F' H' μ' ρ' cls d xd R' s xo z => ax σ' F' H' μ' ρ' cls d xd R' s xo z
  | @cons c i ts ps l l4 h r ih =>
    rintro σ' F' H' μ' ρ' cls d xd R' s xo ⟨b, hb, hy, hn⟩
    refine ⟨b, by rw [xo.1]; exact hb, fun e a0 na => ?_, fun e => ih σ' F' H' μ' ρ' cls d xd R' s xo (hn e)⟩
    have hrun := hy e a0 cls d
    cases i with
    | none =>
      refine h a0 cls d _ F' H' μ' _ _ { P with ex := fun _ _ _ => False } R' ⟨?_, ?_, ?_, ?_⟩ (fun _ _ _ _ _ _ _ _ _ _ _ z => z.elim) hrun
      · exact fun σ2 F2 H2 μ2 ρ2 R3 s3 q => a.nx _ F2 H2 μ2 _ R3 (tr s s3) q
      · exact fun σ2 F2 H2 μ2 ρ2 v x R3 s3 r q => a.rt σ2 F2 H2 μ2 ρ2 v x R3 (tr s s3) r q
      · exact fun σ2 F2 H2 μ2 ρ2 R3 s3 q => a.bk _ F2 H2 μ2 _ R3 (tr s s3) q
      · exact fun σ2 F2 H2 μ2 ρ2 R3 s3 q => a.ct _ F2 H2 μ2 _ R3 (tr s s3) q
    | some i =>
      have R2 : R4 cc F' H' μ' (σ'.set i (some (.ref a0))) (ρ'.set i (some (.d (excD cc.K a0 cls d xd)))) := R'.setV (show RV cc.K F' (.d (excD cc.K a0 cls d xd)) (.ref a0) from ⟨rfl, xo.mono (L3.Same.refl F')⟩)
      refine h a0 cls d _ F' H' μ' _ _ (trN i P) R2 ⟨?_, ?_, ?_, ?_⟩ (fun _ _ _ _ _ _ _ _ _ _ _ z => z.elim) hrun
      · exact fun σ2 F2 H2 μ2 ρ2 R3 s3 q => a.nx _ F2 H2 μ2 _ (R3.clr i) (tr s s3) q
      · exact fun σ2 F2 H2 μ2 ρ2 v x R3 s3 r q => a.rt σ2 F2 H2 μ2 ρ2 v x R3 (tr s s3) r q
      · exact fun σ2 F2 H2 μ2 ρ2 R3 s3 q => a.bk _ F2 H2 μ2 _ (R3.clr i) (tr s s3) q
      · exact fun σ2 F2 H2 μ2 ρ2 R3 s3 q => a.ct _ F2 H2 μ2 _ (R3.clr i) (tr s s3) q
end
end L4
namespace L4
open PySem PySem.Spec PyProof.Rows L2 TB LamX L3
section
variable {X : Sx}
def gUnl4 (n : Nat) (gs : QGs4) : QG4 := fun x ρ μ Q => ∃ xs, lstOf μ x = some xs ∧ xs.length = n ∧ gs xs ρ μ Q
theorem g_unl4 {n : Nat} {K : PySem.W.Frag} {gs : TGs} {ps : QGs4} {t : List Nat} (h1 : Gs4 X gs ps t) (hK : X.K = K := by rfl) : G4 X (gUnl K n gs) (gUnl4 n ps) t := by
  subst hK
  rintro c hX σ F H μ ρ x v Rr Q4 R h hq ⟨xs, e, hn, q⟩
  obtain ⟨a, ws, rfl, ha, r⟩ := lstOf_at R e h
  subst hX
  exact ⟨a, ws, rfl, sqL_of ha, by rw [r.len]; exact hn, h1 c rfl σ F H μ ρ xs ws Rr Q4 R r hq q⟩
theorem ord_locks {K : PySem.W.Frag} {C : Addr} {ls : List Str} {ps : List Pr} : InsD K C "locks" (ordD C ls ps) := by
  rintro F v ⟨x, rfl, dx, tl, tp, rs, h1, _⟩
  exact ⟨x, dx, _, rfl, h1, rfl⟩
theorem ord_added {K : PySem.W.Frag} {C : Addr} {ls : List Str} {ps : List Pr} : InsD K C "added" (ordD C ls ps) := by
  rintro F v ⟨x, rfl, dx, tl, tp, rs, h1, _⟩
  exact ⟨x, dx, _, rfl, h1, rfl⟩
end
end L4
namespace L4
open PySem PySem.Spec PyProof.Rows L2 TB LamX L3
/-- no lock of these, or one of those -/
def BadS (ls zs : List Str) (d : D) : Prop := (∀ z ∈ ls, d ≠ .str z) ∨ ∃ z ∈ zs, d = .str z
def FirstBS (ls : List Str) (ds : List D) (d : D) : Prop := ∃ (zs : List Str) (rest : List D), ds = strsD zs ++ d :: rest ∧ zs.Nodup ∧ (∀ z ∈ zs, z ∈ ls) ∧ BadS ls zs d ∧ ds.length ≤ 1000
def pAskX (CO NS : Addr) : PSp4 := fun xs μ _ X4 => ∃ (ls : List Str) (ps : List Pr) (x : Vl) (d : D), xs = [.d (ordD CO ls ps), x, .d d] ∧ OrdOk ls ps ∧ Od d ∧ (∀ z ∈ ls, Nm z) ∧ (∀ z ∈ ls, d ≠ .str z) ∧ X4 (whoX NS d) μ
def pHgtX (NS : Addr) : PSp4 := fun xs μ _ X4 => ∃ (ls : List Str) (ds : List D) (d : D), xs = [.d (.lst (strsD ls)), .d (.lst ds)] ∧ (∀ z ∈ ls, Nm z) ∧ (∀ x ∈ ds, Od x) ∧ FirstBS ls ds d ∧ X4 (whoX NS d) μ
def pRef46 (NS : Addr) : QL → Vl → Mu → (Vl → Mu → Prop) → Prop := fun pb x2 μ Q => ∃ d, x2 = .d d ∧ Od d ∧ ∀ (Q' : Vl → Mu → Prop) (ex' : XD → Mu → Prop), (∀ μ1, Q (.d (.bl true)) μ1 → ex' (whoX NS d) μ1) → pb μ Q' ex'
def Strange (ws : List Str) (d : D) : Prop := Od d ∧ ∀ z ∈ ws, d ≠ .str z
def Ws46 (ws : List Str) : Prop := ws.Nodup ∧ (∀ z ∈ ws, Nm z) ∧ 1 ≤ ws.length ∧ ws.length ≤ 7
def pStr46 : PSp := fun ds Q => ∃ ws, ds = [potD, .lst (strsD ws)] ∧ Ws46 ws ∧ ∀ d, Strange ws d → Q (.val d) none
def pFw46 : PSp := fun ds Q => ∃ (ls : List Str) (es : List D), ds = [.lst (strsD ls), .lst es] ∧ (∀ z ∈ ls, Nm z) ∧ (∀ x ∈ es, Od x) ∧ es.length ≤ 1000 ∧ ((∃ zs, es = strsD zs ∧ zs.Nodup ∧ (∀ z ∈ zs, z ∈ ls) ∧ Q (.new []) none) ∨ ∃ d, FirstBS ls es d ∧ Q (.new [d]) none)
def pLif46 : PSp := fun ds Q => ∃ ws, ds = [potD, .lst (strsD ws)] ∧ Ws46 ws ∧ ∀ d, Q (.val d) none
def pSome46 : PSp := fun ds Q => ∃ ws, ds = [potD, .lst (strsD ws)] ∧ Ws46 ws ∧ ∀ zs : List Str, zs.Nodup → (∀ z ∈ zs, z ∈ ws) → Q (.new (strsD zs)) none
def pOrd46 (CO : Addr) : PSp4 := fun xs μ Q _ => ∃ ws, xs = [.d potD, .d (.lst (strsD ws))] ∧ Ws46 ws ∧ ∀ ps prs line μ', OrdOk ws ps → line.Perm ws → Q (.d (.tup [ordD CO ws ps, .lst prs, .lst (strsD line)])) μ'
def pRight46 : PSp := fun ds Q => ∃ ws, ds = [potD, .lst (strsD ws)] ∧ Ws46 ws ∧ Q (.val (.bl true)) none
theorem w_inOd {neg : Bool} {x : D} (h : Od x) {ws : List Str} (hz : ∀ z ∈ ws, Nm z) {F : D → Prop} (q : F (.bl (if neg then !inB x ws else inB x ws))) : oInX neg x (.lst (strsD ws)) F := by
  obtain ⟨bs, h1, h2⟩ := ims_in (.od h) fun z m => Nm.sg (hz z m)
  refine ⟨strsD ws, bs, Or.inl rfl, h1, ?_⟩
  have e : bs.any id = inB x ws := by rw [Bool.eq_iff_iff, h2, inB_iff]
  rw [e]
  exact q
theorem w_ninOd {x : D} (h : Od x) {ws : List Str} (hz : ∀ z ∈ ws, Nm z) {F : D → Prop} (q : F (.bl (!inB x ws))) : oInX true x (.lst (strsD ws)) F := w_inOd h hz (by rw [if_pos rfl]; exact q)
theorem w_yinOd {x : D} (h : Od x) {ws : List Str} (hz : ∀ z ∈ ws, Nm z) {F : D → Prop} (q : F (.bl (inB x ws))) : oInX false x (.lst (strsD ws)) F := w_inOd h hz (by rw [if_neg Bool.false_ne_true]; exact q)
theorem inB_no {d : D} {ws : List Str} (h : ∀ z ∈ ws, d ≠ .str z) : inB d ws = false := by
  cases e : inB d ws with
  | false => rfl
  | true =>
    obtain ⟨z, hz, rfl⟩ := inB_iff.mp e
    exact absurd rfl (h z hz)
theorem od_str {z : Str} (h : Nm z) : Od (.str z) := .it (.str (Nm.sg h))
/-- a list of locks and other things: all good, or a first bad one -/
theorem scan46 {ls : List Str} : ∀ (rest : List D) (zs : List Str), zs.Nodup → (∀ z ∈ zs, z ∈ ls) →
    (∃ ys, rest = strsD ys ∧ (zs ++ ys).Nodup ∧ ∀ z ∈ ys, z ∈ ls) ∨ ∃ ys d r, rest = strsD ys ++ d :: r ∧ (zs ++ ys).Nodup ∧ (∀ z ∈ ys, z ∈ ls) ∧ BadS ls (zs ++ ys) d
  | [], zs, nd, hz => Or.inl ⟨[], rfl, by rw [List.append_nil]; exact nd, (fun _ z => nomatch z)⟩
  | x :: rest, zs, nd, hz => by
    by_cases c : BadS ls zs x
    · exact Or.inr ⟨[], x, rest, rfl, by rw [List.append_nil]; exact nd, (fun _ z => nomatch z), by rw [List.append_nil]; exact c⟩
    · obtain ⟨z, hzt, rfl⟩ : ∃ z ∈ ls, x = .str z := Classical.byContradiction fun h => c (Or.inl fun z hz e => h ⟨z, hz, e⟩)
      have hn : z ∉ zs := fun m => c (Or.inr ⟨z, m, rfl⟩)
      have nd2 : (zs ++ [z]).Nodup := List.nodup_append.mpr ⟨nd, List.nodup_cons.mpr ⟨List.not_mem_nil, List.nodup_nil⟩, fun a ha b hb e => hn (by rw [List.mem_singleton.mp hb] at e; rw [← e]; exact ha)⟩
      have hz2 : ∀ y ∈ zs ++ [z], y ∈ ls := fun y hy => by
        rcases List.mem_append.mp hy with hy | hy
        · exact hz y hy
        · rw [List.mem_singleton.mp hy]; exact hzt
      rcases scan46 rest (zs ++ [z]) nd2 hz2 with ⟨ys, rfl, h1, h2⟩ | ⟨ys, d, r, rfl, h1, h2, h3⟩
      · refine Or.inl ⟨z :: ys, rfl, by rw [List.append_assoc] at h1; exact h1, fun y hy => ?_⟩
        rcases List.mem_cons.mp hy with rfl | hy
        · exact hzt
        · exact h2 y hy
      · refine Or.inr ⟨z :: ys, d, r, rfl, by rw [List.append_assoc] at h1; exact h1, fun y hy => ?_, by rw [List.append_assoc] at h3; exact h3⟩
        rcases List.mem_cons.mp hy with rfl | hy
        · exact hzt
        · exact h2 y hy
theorem all46 {ls : List Str} {es : List D} (h : es.length ≤ 1000) : (∃ zs, es = strsD zs ∧ zs.Nodup ∧ ∀ z ∈ zs, z ∈ ls) ∨ ∃ d, FirstBS ls es d := by
  rcases scan46 (ls := ls) es [] List.nodup_nil (fun _ z => nomatch z) with ⟨ys, e, nd, hy⟩ | ⟨ys, d, r, e, nd, hy, b⟩
  · exact Or.inl ⟨ys, e, nd, hy⟩
  · exact Or.inr ⟨d, ys, r, e, nd, hy, b, h⟩
theorem nm_up {z : Str} (h : Nm z) : ¬ Nm (Txt.upper z) := by
  rw [PyProof.Rows.upper_ascii (x := z) (fun c hc => by have := (h.2.2 c hc).2; omega)]
  intro h2
  obtain ⟨c, hc⟩ : ∃ c, c ∈ z.cps.toList := List.exists_mem_of_length_pos h.1
  have b := h.2.2 c hc
  have u : PyProof.Rows.up1 c ∈ (z.cps.map PyProof.Rows.up1).toList := by
    rw [Array.toList_map]
    exact List.mem_map_of_mem hc
  have b2 := h2.2.2 _ u
  unfold PyProof.Rows.up1 at b2
  split at b2 <;> omega
theorem nm_long {z w : Str} (h : Nm z) (hw : w.cps.toList.length = 8) : ¬ Nm (z ++ w) := fun h2 => by
  have e : (z ++ w).cps = z.cps ++ w.cps := PySem.Str.cps_append z w
  have h3 := h2.2.1
  have h1 : 1 ≤ z.cps.toList.length := h.1
  rw [show TB.tl (z ++ w) = (z ++ w).cps.toList from rfl, e, Array.toList_append, List.length_append] at h3
  omega
theorem strange46 {ws : List Str} (nm : ∀ z ∈ ws, Nm z) {z0 z1 : Str} (h0 : z0 ∈ ws) (h1 : z1 ∈ ws) {d0 : D} (o : Od d0) (n : ∀ z, d0 = .str z → ¬ Nm z) :
    ∀ d ∈ ([d0, .str (z0 ++ Txt.mul "a" 8), .lst [.str z0], .tup [.str z0], .str (Txt.upper z1)] : List D), Strange ws d := by
  have s0 := Nm.sg (nm z0 h0)
  have e8 : Txt.mul "a" 8 = "aaaaaaaa" := by decide +kernel
  intro d hd
  simp only [List.mem_cons, List.not_mem_nil, or_false] at hd
  rcases hd with rfl | rfl | rfl | rfl | rfl
  · exact ⟨o, fun z hz e => n z e (nm z hz)⟩
  · rw [e8]
    exact ⟨.it (.str (((nm_cz (nm z0 h0)).app (cz_lit (n := 8) (z := "aaaaaaaa") (by decide +kernel))).sg (by decide))), fun z hz e => nm_long (nm z0 h0) (w := "aaaaaaaa") (by decide +kernel) (by rw [D.str.inj e]; exact nm z hz)⟩
  · exact ⟨.it (.lst (ws := [z0]) (by show 1 ≤ 8; decide) fun z hz => by rw [List.mem_singleton.mp hz]; exact s0), fun z _ e => nomatch e⟩
  · exact ⟨.it (.tup (ws := [z0]) (by show 1 ≤ 8; decide) fun z hz => by rw [List.mem_singleton.mp hz]; exact s0), fun z _ e => nomatch e⟩
  · exact ⟨.it (.str ((cz_up (nm z1 h1)).sg (by decide))), fun z hz e => nm_up (nm z1 h1) (by rw [D.str.inj e]; exact nm z hz)⟩
end L4
namespace L2
open PySem PySem.Spec PyProof.Rows TB
open PySem.SeqAt (EqIn EqAt rcIn_tuples)
/-- two of two, alike -/
def rEqTS (K : PySem.W.Frag) : R2 := fun x y H Q => ∃ (a b : Addr) (x1 x2 y1 y2 : V), x = .ref a ∧ y = .ref b ∧ SqT K H a [x1, x2] ∧ SqT K H b [y1, y2] ∧ EqI K H x1 y1 ∧ EqI K H x2 y2 ∧ Q (.bl true) H
theorem op_eqTS {X : Cx} (K : PySem.W.Frag) (hu : X.A.units + 65 < cLine) (hK : X.K = K := by rfl) : OpR X (compareOp .Eq) (rEqTS K) := by
  subst hK
  intro pins s σ H x y v u Q I rx ry h
  obtain ⟨a, b, x1, x2, y1, y2, rfl, rfl, sa, sb, h1, h2, q⟩ := h
  obtain rfl : v = Value.ref a := rx
  obtain rfl : u = Value.ref b := ry
  obtain ⟨its, ra, ta, _⟩ := I.tuple sa
  obtain ⟨jts, rb, tb, _⟩ := I.tuple sb
  obtain ⟨i0, i1, rfl⟩ : ∃ i0 i1, its = [i0, i1] := by
    have := ra.length
    match its, this with
    | [i0, i1], _ => exact ⟨i0, i1, rfl⟩
  obtain ⟨j0, j1, rfl⟩ : ∃ j0 j1, jts = [j0, j1] := by
    have := rb.length
    match jts, this with
    | [j0, j1], _ => exact ⟨j0, j1, rfl⟩
  have k0 : RelV x1 i0 := by cases ra with | cons h _ => exact h
  have k1 : RelV x2 i1 := by cases ra with | cons _ t => cases t with | cons h _ => exact h
  have l0 : RelV y1 j0 := by cases rb with | cons h _ => exact h
  have l1 : RelV y2 j1 := by cases rb with | cons _ t => cases t with | cons h _ => exact h
  have e0 : EqIn X.prog X.w X.A.in1 s i0 j0 true := EqAt.inModel (h1.at I (A := X.A.in1) (by show X.A.units + 1 + 64 < cLine; omega) k0 l0) _ _
  have e1 : EqIn X.prog X.w X.A.in1 s i1 j1 true := EqAt.inModel (h2.at I (A := X.A.in1) (by show X.A.units + 1 + 64 < cLine; omega) k1 l1) _ _
  show wpAny _ _ (richCompare .Eq (.ref a) (.ref b)) _ _ _
  refine rcIn_tuples (e := fun _ => true) ta tb (by omega) (fun j h1 h2 => ?_) (fin_bl I q rfl)
  match j, h1 with
  | 0, _ => exact e0
  | 1, _ => exact e1
end L2
namespace L4
open PySem PySem.Spec PyProof.Rows L2 TB LamX L3
section
variable {X : Sx} {K : PySem.W.Frag}
def oEqTS : O2 := fun dx dy Q => ∃ d e, dx = .tup [d, e] ∧ dy = .tup [d, e] ∧ smD d ∧ smD e ∧ Q (.bl true)
theorem lr_eqTS (hK : X.K = K := by rfl) : LiR X (rEqTS K) oEqTS := by
  subst hK
  intro c hX σ F H ρ x y dx dy Q Q3 R rx ry hq h
  subst hX
  obtain ⟨d, e, rfl, rfl, s1, s2, q⟩ := h
  have rx : Rp c.K F (.tup [d, e]) x := rx
  have ry : Rp c.K F (.tup [d, e]) y := ry
  obtain ⟨a, _, rfl, sa, v1, _, rfl, k1, v2, r2, rfl, k2, er⟩ := rx
  obtain ⟨b, _, rfl, sb, w1, _, rfl, l1, w2, r3, rfl, l2, er3⟩ := ry
  obtain rfl : r2 = [] := er
  obtain rfl : r3 = [] := er3
  exact ⟨a, b, v1, v2, w1, w2, rfl, rfl, sqT_mono R.sub sa, sqT_mono R.sub sb, eqI_of R.sub s1 k1 l1, eqI_of R.sub s2 k2 l2, hq (.bl true) _ F H R (L3.Same.refl F) rfl q⟩
theorem w_eqTS {d e : D} {F : D → Prop} (h1 : smD d) (h2 : smD e) (q : F (.bl true)) : oEqTS (.tup [d, e]) (.tup [d, e]) F := ⟨d, e, rfl, rfl, h1, h2, q⟩
end
theorem od_sho {d : D} (h : Od d) : smD (.str (shoD d)) := by
  refine Or.inl ⟨?_, by simp [dpt]⟩
  show PyData.strOk (shoD d) = true
  cases h with
  | dic => decide +kernel
  | it h =>
    cases h with
    | str h => exact sho_ok h.ok
    | non => exact sho_ok rfl
    | int h => exact sho_ok rfl
    | @bl b => cases b <;> decide +kernel
    | @lst ws h1 h2 => exact sho_ok (cln_map (fun z hz => (h2 z hz).ok))
    | @tup ws h1 h2 => exact sho_ok (show cln (.lst (strsD ws)) = true from cln_map (fun z hz => (h2 z hz).ok))
    | dic => decide +kernel
end L4
namespace L4
open PySem PySem.Spec PyProof.Rows L2 TB LamX L3
section
variable {X : Sx}
/-- a op b op' c -/
def qChain4 (o o' : O2) (pa pb pc : QE4) : QE4 := fun ρ μ Q => pa ρ μ fun x μ1 => pb ρ μ1 fun y μ2 => some2 (fun dx dy => o dx dy fun d => ∃ k, d = .bl k ∧ (if k = true then pc ρ μ2 fun z μ3 => some2 (fun dy2 dz => o' dy2 dz fun d2 => Q (.d d2) μ3) (rd4 μ3 y) (rd4 μ3 z) else Q (.d (.bl false)) μ2)) (rd4 μ2 x) (rd4 μ2 y)
theorem e_chain4 {r r' : R2} {o o' : O2} {ta tb tc : TE} {pa pb pc : QE4} (hr : LiR X r o) (hr' : LiR X r' o') (h1 : E4 X ta pa) (h2 : E4 X tb pb) (h3 : E4 X tc pc) : E4 X (tChain r r' ta tb tc) (qChain4 o o' pa pb pc) := by
  intro c hX σ F H μ ρ Q Q4 R hq hp
  refine h1 c hX σ F H μ ρ _ _ R ?_ hp
  intro x v F1 H1 μ1 R1 s1 rv q1
  refine h2 c hX σ F1 H1 μ1 ρ _ _ R1 ?_ q1
  intro y w F2 H2 μ2 R2 s2 rw2 q2
  cases e1 : rd4 μ2 x with
  | none => rw [e1] at q2; exact q2.elim
  | some dx =>
    cases e2 : rd4 μ2 y with
    | none => rw [e1, e2] at q2; exact q2.elim
    | some dy =>
      rw [e1, e2] at q2
      refine hr (c.c3 F2 H2) hX σ F2 H2 (view ρ) v w dx dy _ _ R2.rel (rd4_rn R2 (rv.mono s2) e1) (rd4_rn R2 rw2 e2) (fun d u F' H' R' s r q => ?_) q2
      obtain ⟨k, rfl, q⟩ := q
      obtain rfl : u = .bl k := r
      refine ⟨k, rfl, ?_⟩
      have R3 := R2.back R'
      cases k with
      | false => exact hq (.d (.bl false)) (.bl false) F' H' μ2 R3 (tr (tr s1 s2) s) rfl q
      | true =>
        refine h3 c hX σ F' H' μ2 ρ _ _ R3 ?_ q
        intro z vz F4 H4 μ4 R4' s4 rz q4
        cases e3 : rd4 μ4 y with
        | none => rw [e3] at q4; exact q4.elim
        | some dy2 =>
          cases e4 : rd4 μ4 z with
          | none => rw [e3, e4] at q4; exact q4.elim
          | some dz =>
            rw [e3, e4] at q4
            exact hr' (c.c3 F4 H4) hX σ F4 H4 (view ρ) w vz dy2 dz Q _ R4'.rel (rd4_rn R4' ((rw2.mono s).mono s4) e3) (rd4_rn R4' rz e4) (fun d u F5 H5 R5 s5 r q => hq (.d d) u F5 H5 μ4 (R4'.back R5) (tr (tr (tr (tr s1 s2) s) s4) s5) r q) q4
theorem v_chain4 {o o' : O2} {pa pb pc : QE4} {ρ : PS} {μ : Mu} {Q : Vl → Mu → Prop} (h : pa ρ μ fun x μ1 => pb ρ μ1 fun y μ2 => some2 (fun dx dy => o dx dy fun d => ∃ k, d = .bl k ∧ (if k = true then pc ρ μ2 fun z μ3 => some2 (fun dy2 dz => o' dy2 dz fun d2 => Q (.d d2) μ3) (rd4 μ3 y) (rd4 μ3 z) else Q (.d (.bl false)) μ2)) (rd4 μ2 x) (rd4 μ2 y)) : qChain4 o o' pa pb pc ρ μ Q := h
end
end L4
namespace L4
open PySem PySem.Spec PyProof.Rows L2 TB LamX L3
theorem shw46 {ls : List Str} {ds : List D} (nm : ∀ z ∈ ls, Nm z) (o : ∀ x ∈ ds, Od x) (l7 : ls.length ≤ 7) (l9 : ds.length ≤ 9) : Shw 3 200000 (.lst [.lst (strsD ls), .lst ds]) := by
  refine (Shw.lst (n := 2) (B := 90000) (m := 2) (Nat.le_refl _) fun x hx => ?_).mono (by decide) (by decide)
  rcases List.mem_cons.mp hx with rfl | hx
  · refine (Shw.lst (n := 1) (B := 9000) (m := 7) (by rw [strsD, List.length_map]; exact l7) fun y hy => ?_).mono (by decide) (by decide)
    obtain ⟨z, hz, rfl⟩ := List.mem_map.mp hy
    exact (od_str (nm z hz)).shw
  · rw [List.mem_singleton.mp hx]
    exact (Shw.lst (n := 1) (B := 9000) (m := 9) l9 fun y hy => (o y hy).shw).mono (by decide) (by decide)
end L4
namespace L4
open PySem PySem.Spec PyProof.Rows L2 TB LamX L3
theorem hgt_fold {some : List Str} : ∀ (line : List Str) (a : Int), a * 2 ^ line.length ≤ line.foldl (fun a z => 2 * a + (if z ∈ some then 1 else 0)) a ∧ line.foldl (fun a z => 2 * a + (if z ∈ some then 1 else 0)) a < (a + 1) * 2 ^ line.length
  | [], a => by
    show a * 2 ^ 0 ≤ a ∧ a < (a + 1) * 2 ^ 0
    rw [Int.pow_zero, Int.mul_one, Int.mul_one]
    omega
  | z :: line, a => by
    have hp : (0 : Int) < 2 ^ line.length := Int.pow_pos (by decide)
    have ih := hgt_fold (some := some) line (2 * a + (if z ∈ some then 1 else 0))
    rw [List.foldl_cons, List.length_cons, Int.pow_succ]
    generalize (2 : Int) ^ line.length = p at *
    have e3 : a * (p * 2) = 2 * (a * p) := by rw [← Int.mul_assoc, Int.mul_comm]
    have e4 : (a + 1) * (p * 2) = 2 * (a * p) + 2 * p := by rw [Int.add_mul, e3, Int.one_mul, Int.mul_comm p 2]
    rw [e3, e4]
    by_cases c : z ∈ some
    · rw [if_pos c] at ih ⊢
      have e1 : (2 * a + 1) * p = 2 * (a * p) + p := by rw [Int.add_mul, Int.mul_assoc, Int.one_mul]
      have e2 : (2 * a + 1 + 1) * p = 2 * (a * p) + p + p := by rw [Int.add_mul, e1, Int.one_mul]
      rw [e1, e2] at ih
      omega
    · rw [if_neg c] at ih ⊢
      have e1 : (2 * a + 0) * p = 2 * (a * p) := by rw [Int.add_zero, Int.mul_assoc]
      have e2 : (2 * a + 0 + 1) * p = 2 * (a * p) + p := by rw [Int.add_mul, e1, Int.one_mul]
      rw [e1, e2] at ih
      omega
theorem hgt_bd (line some : List Str) : 0 ≤ hgt line some ∧ hgt line some < 2 ^ line.length := by
  have h := hgt_fold (some := some) line 0
  rw [Int.zero_mul, Int.zero_add, Int.one_mul] at h
  exact h
end L4
namespace L4
open PySem PySem.Spec PyProof.Rows L2 TB LamX L3
def g3phc : List D → Option (List D)
  | [p, h, c] => some [p, h, .tup [], c]
  | _ => none
theorem g3phc_ok (a b c : D) : ∃ z, g3phc [a, b, c] = some [a, b, z, c] := ⟨_, rfl⟩
theorem glif_phc {K : PySem.W.Frag} {d : Addr} (hd : ∀ H, SqT K H d []) : GLif K 3 (fun vs zs => gLife vs [.ref d] zs) g3phc := by
  refine ⟨fun ds e h => ?_, fun F x ds zs a b c d r h => ?_⟩
  · match ds, h with
    | [_, _, _], _ => rfl
  · match ds, h with
    | [y1, y2, y3], h =>
      cases h
      obtain ⟨v1, v2, v3, rfl, q1, q2, q3⟩ := rpl3 r
      exact ⟨_, _, _, _, rfl, q1, q2, rp_nilT hd, q3⟩
end L4
open TB in
local macro_rules | `(tactic| walk_at "s") => `(tactic| first
  | with_reducible refine st_sortLam ?_
  | with_reducible refine st_itu ?_
  | with_reducible refine st_mt ?_
  | with_reducible refine st_mk ?_
  | with_reducible refine st_sfld ?_
  | with_reducible refine st_bm0 ?_
  | fail)
open TB in
local macro_rules | `(tactic| walk_at "s") => `(tactic| first
  | with_reducible refine st_rng1 ?_
  | with_reducible refine st_il ?_
  | with_reducible refine st_is ?_
  | ((with_reducible show ∃ i, L2.V.int _ = L2.V.int i ∧ _); refine ⟨_, rfl, ?_⟩)
  | ((with_reducible show (∃ a, L2.V.str _ = L2.V.str a) ∧ _); refine ⟨⟨_, rfl⟩, ?_⟩)
  | ((with_reducible show ∃ v w, [_, _] = [v, w] ∧ _); refine ⟨_, _, rfl, ?_⟩)
  | with_reducible refine st_fld ?_
  | with_reducible refine st_bmT ?_
  | fail)
open TB in
local macro_rules | `(tactic| walk_at "s") => `(tactic| first
  | with_reducible refine st_yes ?_
  | with_reducible refine st_gcons ?_
  | with_reducible refine st_gnil ?_
  | with_reducible refine st_gsub ?_
  | with_reducible refine st_bm ?_
  | with_reducible refine st_m1 ?_
  | with_reducible refine st_for ?_
  | with_reducible refine st_lc ?_
  | fail)
open TB in
local macro_rules | `(tactic| walk_at "s") => `(tactic| first
  | with_reducible refine st_drop ?_
  | with_reducible refine st_next ?_
  | with_reducible refine st_lst ?_
  | with_reducible refine st_tup ?_
  | ((with_reducible refine st_eq ?e ?_); (case e => exact rfl))
  | with_reducible refine st_not ?_
  | with_reducible refine st_or ?_
  | with_reducible refine st_tb ?_
  | fail)
open TB in
local macro_rules | `(tactic| walk_at "s") => `(tactic| first
  | with_reducible refine st_cb ?_
  | with_reducible refine st_call ?_
  | with_reducible refine st_I0 ?_
  | with_reducible refine st_test ?_
  | with_reducible refine st_bl ?_
  | with_reducible refine st_ifs ?_
  | with_reducible refine st_if ?_
  | with_reducible refine st_ret ?_
  | fail)
open TB in
local macro_rules | `(tactic| walk_at "s") => `(tactic| first
  | with_reducible refine st_seq ?_
  | with_reducible refine st_asg ?_
  | with_reducible refine st_name ?_
  | ((with_reducible refine st_var (v := ?v) ?e ?_); (case e => exact rfl))
  | with_reducible refine st_c ?_
  | with_reducible refine st_op ?_
  | with_reducible refine st_cons ?_
  | with_reducible refine st_nil ?_
  | fail)
local macro_rules | `(tactic| walk_at "ss") => `(tactic| repeat walk_at "s")
open TB L3 in
local macro_rules | `(tactic| walk_at "l1") => `(tactic| first
  | with_reducible apply li_io
  | with_reducible apply li_call
  | with_reducible apply li_append'
  | with_reducible apply li_popAt'
  | exact rfl
  | assumption
  | decide
  | fail)
open TB L3 in
local macro_rules | `(tactic| walk_at "l1") => `(tactic| first
  | ((with_reducible apply li_keep); (with_reducible apply (li_slN lsl_L')))
  | with_reducible apply lii_list'
  | with_reducible apply lii_enum'
  | with_reducible apply lii_rng1
  | with_reducible exact lg_name
  | with_reducible apply lg_tup'
  | with_reducible exact lg_nil
  | with_reducible apply lg_cons
  | fail)
open TB L3 in
local macro_rules | `(tactic| walk_at "l1") => `(tactic| first
  | with_reducible apply (li_cbN lc_sortI)
  | ((with_reducible apply li_keep); (with_reducible apply (li_cbN lc_sortI)))
  | with_reducible apply li_test
  | with_reducible apply li_tB
  | with_reducible apply li_or
  | with_reducible exact li_nopart
  | with_reducible apply li_part
  | with_reducible apply (li_slN lsl_L')
  | fail)
open TB L3 in
local macro_rules | `(tactic| walk_at "l1") => `(tactic| first
  | with_reducible apply li_scr
  | with_reducible apply (li_cb lc_max)
  | with_reducible apply (li_cb lc_min)
  | with_reducible apply (li_cb lc_int)
  | with_reducible apply (li_cb lc_tuple')
  | with_reducible apply (li_cb (lc_reprX rfl))
  | with_reducible apply (li_cbN lc_list')
  | ((with_reducible apply li_keep); (with_reducible apply (li_cbN lc_list')))
  | fail)
open TB L3 in
local macro_rules | `(tactic| walk_at "l1") => `(tactic| first
  | with_reducible apply (li_op lr_ixL')
  | with_reducible apply (li_op lr_in')
  | with_reducible apply (li_op (lr_inX rfl))
  | with_reducible apply (li_op lr_eqD')
  | with_reducible apply (li_op lr_catS)
  | ((with_reducible apply li_keep); (with_reducible apply (li_opN lr_catL)))
  | with_reducible apply (li_opN lr_catL)
  | with_reducible apply (li_cb lc_len')
  | fail)
open TB L3 in
local macro_rules | `(tactic| walk_at "l1") => `(tactic| first
  | with_reducible apply li_cons
  | with_reducible exact li_nilD
  | with_reducible apply li_consD
  | with_reducible apply (li_op (lr_inD _))
  | with_reducible apply (li_op lr_I0)
  | with_reducible apply (li_op lr_I)
  | with_reducible apply (li_op lr_eq)
  | with_reducible apply (li_op lr_ne)
  | fail)
open TB L3 in
local macro_rules | `(tactic| walk_at "l1") => `(tactic| first
  | with_reducible exact LiEs.nil
  | with_reducible apply (li_op lr_mulS)
  | with_reducible apply li_esc
  | with_reducible apply li_lst
  | ((with_reducible apply li_keep); (with_reducible apply li_lst))
  | with_reducible apply li_lc
  | ((with_reducible apply li_keep); (with_reducible apply li_lc))
  | with_reducible exact li_nil
  | fail)
open TB L3 in
local macro_rules | `(tactic| walk_at "l1") => `(tactic| first
  | with_reducible exact li_c
  | with_reducible apply li_mkG
  | with_reducible apply (li_un lu_neg)
  | with_reducible apply li_tup
  | with_reducible exact li_dnew
  | with_reducible exact li_d1
  | with_reducible apply li_up
  | with_reducible apply LiEs.cons
  | fail)
open TB L3 in
local macro_rules | `(tactic| walk_at "l1") => `(tactic| first
  | ((with_reducible apply ls_retNew); (with_reducible apply li_lc))
  | ((with_reducible apply ls_retNew); (with_reducible apply (li_cbN lc_list')))
  | ((with_reducible apply ls_retNew); (with_reducible apply (li_slN lsl_L')))
  | with_reducible apply ls_ret
  | with_reducible apply ls_if
  | with_reducible apply ls_for
  | with_reducible exact ls_never
  | with_reducible exact li_var
  | fail)
open TB L3 in
local macro_rules | `(tactic| walk_at "l1") => `(tactic| first
  | with_reducible exact ls_next
  | with_reducible apply ls_seq
  | with_reducible apply ls_own
  | with_reducible apply ls_asg
  | with_reducible apply ls_parNN
  | with_reducible apply ls_drop
  | with_reducible exact ls_retV
  | ((with_reducible apply ls_retNew); (with_reducible apply li_lst))
  | fail)
local macro_rules | `(tactic| walk_at "li") => `(tactic| repeat' (walk_at "l1"))
open TB L3 in
local macro_rules | `(tactic| walk_at "p1") => `(tactic| first
  | ((with_reducible show ∃ d e : L3.D, [_, _] = [d, e] ∧ _); refine ⟨_, _, rfl, ?_⟩)
  | fail)
open TB L3 in
local macro_rules | `(tactic| walk_at "p1") => `(tactic| first
  | ((with_reducible refine w_append (ds := ?d) (f := ?f) ?e ?_); (case e => exact rfl))
  | ((with_reducible refine w_popAt (ds := ?d) (f := ?f) ?e ?_); (case e => exact rfl))
  | ((with_reducible refine w_ownP (ds := ?d) (f := ?f) ?e ?_); (case e => exact rfl))
  | with_reducible refine w_mm ?_
  | with_reducible refine w_dnew ?_
  | with_reducible refine w_d1 ?_
  | with_reducible refine w_up ?_
  | with_reducible refine w_lenS ?_
  | fail)
open TB L3 in
local macro_rules | `(tactic| walk_at "p1") => `(tactic| first
  | with_reducible refine w_callIo ?_
  | ((with_reducible refine w_res ?e ?_); (case e => exact rfl))
  | with_reducible refine w_inS ?_
  | with_reducible refine w_ninS ?_
  | with_reducible refine w_lenL ?_
  | with_reducible refine w_list ?_
  | with_reducible refine w_tuple ?_
  | with_reducible refine w_intB ?_
  | fail)
open TB L3 in
local macro_rules | `(tactic| walk_at "p1") => `(tactic| first
  | with_reducible refine i_ff ?_
  | with_reducible refine i_nt ?_
  | with_reducible refine i_nf ?_
  | with_reducible refine w_neg ?_
  | with_reducible refine w_exE ?_
  | with_reducible refine w_irng1 ?_
  | with_reducible refine w_lc ?_
  | with_reducible refine w_call ?_
  | fail)
open TB L3 in
local macro_rules | `(tactic| walk_at "p1") => `(tactic| first
  | with_reducible refine w_part ?_
  | with_reducible refine w_slN ?_
  | with_reducible refine w_slL ?_
  | with_reducible refine w_iseq ?_
  | with_reducible refine w_exL ?_
  | with_reducible refine w_ienum ?_
  | with_reducible refine w_chK ?_
  | with_reducible refine i_tt ?_
  | fail)
open TB L3 in
local macro_rules | `(tactic| walk_at "p1") => `(tactic| first
  | with_reducible refine w_I0 ?_
  | with_reducible refine w_neS ?_
  | with_reducible refine w_eqI ?_
  | with_reducible refine w_test ?_
  | with_reducible refine w_isBl ?_
  | with_reducible refine w_isInt ?_
  | with_reducible refine w_or ?_
  | with_reducible refine w_nopart ?_
  | fail)
open TB L3 in
local macro_rules | `(tactic| walk_at "p1") => `(tactic| first
  | with_reducible refine w_mkG ?_
  | with_reducible refine w_op ?_
  | with_reducible refine w_opN ?_
  | with_reducible refine w_un ?_
  | with_reducible refine w_cb ?_
  | with_reducible refine w_cbN ?_
  | ((with_reducible refine w_some2 (x := ?x) (y := ?y) ?e ?e2 ?_); (case e => exact rfl); (case e2 => exact rfl))
  | ((with_reducible refine w_some1 (x := ?x) ?e ?_); (case e => exact rfl))
  | fail)
open TB L3 in
local macro_rules | `(tactic| walk_at "p1") => `(tactic| first
  | with_reducible refine w_escV ?_
  | with_reducible refine w_keep ?_
  | with_reducible refine w_nil ?_
  | with_reducible refine w_cons ?_
  | with_reducible refine w_nilD ?_
  | with_reducible refine w_consD ?_
  | with_reducible refine w_lst ?_
  | with_reducible refine w_tup ?_
  | fail)
open TB L3 in
local macro_rules | `(tactic| walk_at "p1") => `(tactic| first
  | ((with_reducible refine w_gtup ?e ?_); (case e => exact rfl))
  | ((with_reducible refine w_var (d := ?d) ?e ?_); (case e => exact rfl))
  | ((with_reducible refine w_varO (ds := ?d) (f := ?f) ?e ?_); (case e => exact rfl))
  | with_reducible refine w_cI ?_
  | with_reducible refine w_cS ?_
  | with_reducible refine w_cB ?_
  | with_reducible refine w_cN ?_
  | with_reducible refine w_esc ?_
  | fail)
open TB L3 in
local macro_rules | `(tactic| walk_at "p1") => `(tactic| first
  | with_reducible refine w_asg ?_
  | with_reducible refine w_own ?_
  | ((with_reducible show ∃ d e u : L3.D, [_, _, _] = [d, e, u] ∧ _); refine ⟨_, _, _, rfl, ?_⟩)
  | with_reducible refine w_parNN ?_
  | with_reducible refine w_for ?_
  | with_reducible refine w_name ?_
  | with_reducible refine w_gnil ?_
  | with_reducible refine w_gcons ?_
  | fail)
open TB L3 in
local macro_rules | `(tactic| walk_at "p1") => `(tactic| first
  | with_reducible refine w_seq ?_
  | with_reducible refine w_next ?_
  | with_reducible refine w_drop ?_
  | with_reducible refine w_ret ?_
  | with_reducible refine w_retNew ?_
  | ((with_reducible refine w_retV (d := ?d) ?e ?_); (case e => exact rfl))
  | ((with_reducible refine w_retO (ds := ?d) ?e ?_); (case e => exact rfl))
  | with_reducible refine w_ifs ?_
  | fail)
local macro_rules | `(tactic| walk_at "pp") => `(tactic| repeat (walk_at "p1"))
open TB L3 L4 in
local macro_rules | `(tactic| walk_at "l4") => `(tactic| first
  | with_reducible apply g_tup
  | with_reducible apply L4.g_unl4
  | with_reducible exact g_nil
  | with_reducible apply g_cons
  | with_reducible apply i_of3
  | walk_at "l1"
  | fail)
open TB L3 L4 in
local macro_rules | `(tactic| walk_at "l4") => `(tactic| first
  | with_reducible apply t_test
  | with_reducible apply t_and
  | with_reducible apply t_or
  | with_reducible apply t_not
  | with_reducible exact t_yes
  | with_reducible exact o_none
  | with_reducible apply o_some
  | with_reducible exact g_name
  | fail)
open TB L3 L4 in
local macro_rules | `(tactic| walk_at "l4") => `(tactic| first
  | with_reducible apply (e_cb lc_tuple')
  | with_reducible apply (e_cb (lc_reprX rfl))
  | with_reducible apply (e_cbK lc_list')
  | with_reducible apply (e_cbK lc_sortI)
  | with_reducible apply (e_slK lsl_L')
  | with_reducible exact a_nil
  | with_reducible apply a_cons
  | with_reducible apply t_tB
  | fail)
open TB L3 L4 in
local macro_rules | `(tactic| walk_at "l4") => `(tactic| first
  | with_reducible apply (e_op L4.lr_eqTS)
  | with_reducible apply (e_op lr_catS)
  | with_reducible apply L4.e_xf
  | with_reducible apply (e_cb L4.lc_isE)
  | with_reducible apply (e_cb lc_len')
  | with_reducible apply (e_cb lc_max)
  | with_reducible apply (e_cb lc_min)
  | with_reducible apply (e_cb lc_int)
  | fail)
open TB L3 L4 in
local macro_rules | `(tactic| walk_at "l4") => `(tactic| first
  | with_reducible apply (e_op lr_I0)
  | with_reducible apply (e_op lr_I)
  | with_reducible apply (e_op lr_eq)
  | with_reducible apply (e_op lr_ne)
  | with_reducible apply (e_op lr_in')
  | with_reducible apply (e_op (lr_inX rfl))
  | with_reducible apply (e_op lr_eqD')
  | with_reducible apply (e_op L4.lr_neL0)
  | fail)
open TB L3 L4 in
local macro_rules | `(tactic| walk_at "l4") => `(tactic| first
  | with_reducible apply e_meth3
  | with_reducible apply e_call3
  | with_reducible apply e_call
  | with_reducible apply (e_bm m_append)
  | with_reducible apply (e_bm m_popAt)
  | with_reducible apply (e_bm m_ins)
  | with_reducible apply e_ixL
  | with_reducible apply (e_op (lr_inD _))
  | fail)
open TB L3 L4 in
local macro_rules | `(tactic| walk_at "l4") => `(tactic| first
  | with_reducible apply (L4.e_chain4 lr_I0 lr_I0)
  | with_reducible apply L4.e_lam02
  | with_reducible apply e_lstM
  | with_reducible apply (e_cbM lc_list')
  | with_reducible apply (e_cbM lc_sortI)
  | with_reducible apply e_tup
  | with_reducible apply e_lstK
  | with_reducible apply e_lcK
  | fail)
open TB L3 L4 in
local macro_rules | `(tactic| walk_at "l4") => `(tactic| first
  | with_reducible apply s_drop
  | with_reducible apply s_ret
  | with_reducible apply s_if
  | with_reducible apply s_for
  | with_reducible exact s_never
  | with_reducible exact e_var
  | with_reducible exact e_c
  | with_reducible apply L4.e_mkOrd4
  | fail)
open TB L3 L4 in
local macro_rules | `(tactic| walk_at "l4") => `(tactic| first
  | with_reducible exact s_next
  | with_reducible apply s_seq
  | with_reducible apply s_cut
  | with_reducible apply L4.s_raise1
  | with_reducible apply L4.s_fzS
  | with_reducible apply L4.x_call0
  | with_reducible apply s_par
  | with_reducible apply s_asg
  | fail)
local macro_rules | `(tactic| walk_at "l4s") => `(tactic| repeat' (walk_at "l4"))
open TB L3 L4 in
local macro_rules | `(tactic| walk_at "p4") => `(tactic| first
  | with_reducible refine v_ix ?_
  | with_reducible refine v_it3 ?_
  | ((with_reducible refine v_some2 (dx := ?x) (dy := ?y) ?e ?e2 ?_); (case e => exact rfl); (case e2 => exact rfl))
  | ((with_reducible refine v_some1 (dx := ?x) ?e ?_); (case e => exact rfl))
  | walk_at "p1"
  | fail)
open TB L3 L4 in
local macro_rules | `(tactic| walk_at "p4") => `(tactic| first
  | with_reducible refine v_rsV ?_
  | with_reducible refine v_rsN ?_
  | with_reducible refine v_meth3 ?_
  | with_reducible refine v_lcK ?_
  | with_reducible refine L4.v_mkOrd4 ?_
  | with_reducible refine L4.v_chain4 ?_
  | with_reducible refine L4.v_lam02 ?_
  | with_reducible refine v_bm ?_
  | fail)
open TB L3 L4 in
local macro_rules | `(tactic| walk_at "p4") => `(tactic| first
  | with_reducible refine v_cb ?_
  | with_reducible refine v_cbK ?_
  | with_reducible refine v_cbM ?_
  | with_reducible refine v_none ?_
  | with_reducible refine v_some ?_
  | with_reducible refine v_slK ?_
  | with_reducible refine v_call ?_
  | with_reducible refine v_call3 ?_
  | fail)
open TB L3 L4 in
local macro_rules | `(tactic| walk_at "p4") => `(tactic| first
  | with_reducible refine v_isB ?_
  | with_reducible refine v_isI ?_
  | with_reducible refine v_and ?_
  | with_reducible refine v_or ?_
  | with_reducible refine v_not ?_
  | with_reducible refine v_yes ?_
  | with_reducible refine v_op ?_
  | with_reducible refine L4.v_xf ?_
  | fail)
open TB L3 L4 in
local macro_rules | `(tactic| walk_at "p4") => `(tactic| first
  | with_reducible refine v_nil ?_
  | with_reducible refine v_cons ?_
  | with_reducible refine v_tup ?_
  | ((with_reducible refine v_tupD (ds := ?d) ?e ?z ?_); (case e => exact rfl); (case z => (simp; done)))
  | with_reducible refine v_lstK ?_
  | ((with_reducible refine v_lstD (ds := ?d) ?e ?z ?_); (case e => exact rfl); (case z => (simp; done)))
  | with_reducible refine v_lst ?_
  | with_reducible refine v_test ?_
  | fail)
open TB L3 L4 in
local macro_rules | `(tactic| walk_at "p4") => `(tactic| first
  | with_reducible refine v_asg ?_
  | with_reducible refine v_for ?_
  | with_reducible refine v_name ?_
  | with_reducible refine v_gnil ?_
  | with_reducible refine v_gcons ?_
  | ((with_reducible refine v_gtup ?e ?n ?_); (case e => exact rfl); (case n => exact rfl))
  | ((with_reducible refine v_var (x := ?d) ?e ?_); (case e => exact rfl))
  | ((with_reducible refine v_c (d := ?d) ?e ?_); (case e => exact rfl))
  | fail)
open TB L3 L4 in
local macro_rules | `(tactic| walk_at "p4") => `(tactic| first
  | ((with_reducible refine v_szA ?z ?_); (case z => (simp; done)))
  | with_reducible refine v_next ?_
  | with_reducible refine v_seq ?_
  | with_reducible refine v_par ?_
  | with_reducible refine L4.v_raise ?_
  | with_reducible refine v_drop ?_
  | with_reducible refine v_ret ?_
  | with_reducible refine v_ifs ?_
  | fail)
local macro_rules | `(tactic| walk_at "p4s") => `(tactic| repeat (walk_at "p4"))
namespace K46
open PySem PySem.Spec PyProof.Rows L2 TB LamX
def top (i : Nat) : Stmt := PySem.Challenge.pw_turnedback_k46_piles_refused.main.body.getD i (.Pass ⟨0, 0, 0, 0⟩)
end K46
namespace K46
open PySem PySem.Spec PyProof.Rows L2 TB LamX
open C8 (Cal pe_c Mak pe_mk Met pe_mt pe_mt0 pss_cut tCut pe_gc)
abbrev s_Order_want : Stmt := inClass (top 12) 1
theorem sc_Order_want : FnScope ["self", "lock"] ["self", "lock"] (defScope s_Order_want) := ⟨rfl, rfl, rfl, by decide +kernel, rfl, by decide +kernel, by decide +kernel⟩
abbrev s_Order_has : Stmt := inClass (top 12) 4
theorem sc_Order_has : FnScope ["self", "one", "other"] ["self", "one", "other"] (defScope s_Order_has) := ⟨rfl, rfl, rfl, by decide +kernel, rfl, by decide +kernel, by decide +kernel⟩
abbrev s_Order_after : Stmt := inClass (top 12) 5
theorem sc_Order_after : FnScope ["self", "lock", "one", "other"] ["self", "lock"] (defScope s_Order_after) := ⟨rfl, rfl, rfl, by decide +kernel, rfl, by decide +kernel, by decide +kernel⟩
section
variable {P : Program} {w : World} {K : PySem.W.Frag} {mg : Str → Option Value} {base : Heap} {f C : Addr} {fd : FuncData}
theorem ok_Order_want (F : FnM K "want" "Order.want" s_Order_want [] f fd) (T : BltA mg) (oc : OrdC K C) : FnOk P w K mg base CX0 1 f fd ["self", "lock"] (spWant C) := by
  refine F.ok sc_Order_want (fun vs H Q E h => ?_) (fun cdv A outer s H vs Q E hr h => ⟨_, PSs.nox
(pss_one (ps_if (PW.pt (pw_or (pt_not (pt_val (pe_callB call_isStr (by rfl) T.b_isinstance (by decide +kernel) (pa_cons (pv 1) (pa_cons (pe_bltn (v := .ty "str") (u := .type "str") (by rfl) T.b_str (by decide +kernel) rfl) pa_nil))))) (pw_or1 (pt_cmpR (op_ninK K) (pv 1) (kFld K (pe_fld (pv 0) rfl)) rfl))))
    (pss_one ps_never)
    pss_nil))
, ?_⟩)
  · obtain ⟨x, z, ls, ps, rfl, _⟩ := h
    rfl
  · obtain ⟨x, z, ls, ps, rfl, ⟨dx, tl, tp, rs, h1, h2, h3, h4⟩, hz, q⟩ := h
    walk_at "ss"
    refine ⟨z, rfl, ?_⟩
    walk_at "ss"
    refine iteF ?_
    walk_at "ss"
    refine ⟨x, C, dx, _, _, rfl, h1, oc.cls, oc.nl, rfl, ?_⟩
    walk_at "ss"
    refine st_ninT h2.sq ?_
    walk_at "ss"
    rw [decide_eq_true hz]
    refine iteF ?_
    walk_at "ss"
    exact q
theorem ok_Order_has (F : FnM K "has" "Order.has" s_Order_has [] f fd) (T : BltA mg) (oc : OrdC K C) (m_Order_want : Met P w K mg base 1 C "want" (spWant C) []) : FnOk P w K mg base CX0 2 f fd ["self", "one", "other"] (spHas C) := by
  refine fn_fg (sp := fun vs H Q _ => ∃ (x : Addr) (a b : Str) (ls : List Str) (ps : List Pr), vs = [.ref x, .str a, .str b] ∧ OrdAt C H x ls ps ∧ OrdOk ls ps ∧ a ∈ ls ∧ b ∈ ls ∧ NoT H ∧ ∀ H', Same H H' → Q (.bl (decide ((a, b) ∈ ps))) H') ?_ ?_
  · refine F.ok sc_Order_has (fun vs H Q E h => ?_) (fun cdv A outer s H vs Q E hr h => ⟨_, PSs.nox
(pss_cons (ps_expr (pe_mt m_Order_want hr (by decide) (pv 0) (pa_cons (pv 1) pa_nil)))
  (pss_cons (ps_expr (pe_mt m_Order_want hr (by decide) (pv 0) (pa_cons (pv 2) pa_nil)))
  (pss_one (ps_ret (pe_cmpR (op_inP (hu65 hr)) (pe_tup (pa_cons (pv 1) (pa_cons (pv 2) pa_nil))) (kFld K (pe_fld (pv 0) rfl)) rfl)))))
, ?_⟩)
    · obtain ⟨x, a, b, ls, ps, rfl, _⟩ := h
      rfl
    · obtain ⟨x, a, b, ls, ps, rfl, ho, hok, ha, hb, nt, q⟩ := h
      obtain ⟨dx, tl, tp, rs, h1, h2, h3, h4⟩ := id ho
      walk_at "ss"
      refine ⟨x, dx, _, rfl, h1, rfl, ?_⟩
      walk_at "ss"
      refine ⟨x, a, ls, ps, rfl, ho, ha, ?_⟩
      walk_at "ss"
      refine ⟨x, dx, _, rfl, h1, rfl, ?_⟩
      walk_at "ss"
      refine ⟨x, b, ls, ps, rfl, ho, hb, ?_⟩
      walk_at "ss"
      refine ⟨(by show 2 ≤ sizeLine; decide), fun t nt2 => ?_⟩
      walk_at "ss"
      refine ⟨x, C, dx, _, _, rfl, old_upd nt2 h1, oc.cls, oc.np, rfl, ?_⟩
      refine st_inP (p := (a, b)) upd_same (Or.inl (old_upd nt2 h3)) (h4.keep fun c xs e => old_upd nt2 e) ⟨hok.nm a ha, hok.nm b hb⟩ hok.nmp ?_
      exact q _ (fun c o e => old_upd nt2 e)
  · rintro vs H Q E ⟨x, a, b, ls, ps, rfl, ho, hok, ha, hb, nt, q⟩
    exact ⟨x, a, b, ls, ps, rfl, ho, hok, ha, hb, nt, fun H' sm => ⟨H, Fg.back sm nt, q⟩⟩
theorem ok_Order_after (F : FnM K "after" "Order.after" s_Order_after [] f fd) (T : BltA mg) (oc : OrdC K C) : FnOk P w K mg base CX0 1 f fd ["self", "lock"] (spAfter C) := by
  refine F.ok sc_Order_after (fun vs H Q E h => ?_) (fun cdv A outer s H vs Q E hr h => ⟨_, PSs.nox
(pss_one (ps_ret (pe_lc (own := [("one", 2), ("other", 3)]) rfl sc_Order_after.nd (kPT K (pi_tup (kFld K (pe_fld (pv 0) rfl)))) (blkOk_by (N := ["self", "lock", "one", "other"]) (sc := defScope s_Order_after) (by decide +kernel)) (fun _ _ _ _ _ => kTup K 2 (pg_tup rfl (pgs_cons (pg_name (i := 2) sc_Order_after.nd rfl (Or.inl rfl)) (pgs_cons (pg_name (i := 3) sc_Order_after.nd rfl (Or.inl rfl)) pgs_nil)))) (fun _ _ _ _ _ => pts_one (pt_cmpR op_eq (pv 2) (pv 1) (nomark _))) (fun _ _ _ _ _ => (pv 3)))))
, ?_⟩)
  · obtain ⟨x, z, ls, ps, rfl, _⟩ := h
    rfl
  · obtain ⟨x, z, ls, ps, rfl, ⟨dx, tl, tp, rs, h1, h2, h3, h4⟩, hok, q⟩ := h
    walk_at "ss"
    refine ⟨x, C, dx, _, _, rfl, h1, oc.cls, oc.np, rfl, ?_⟩
    walk_at "ss"
    have pl := hok.plen
    have er : rs.filterMap (fun v => if (decP H v).1 = z then some (V.str (decP H v).2) else none) = (afterP ps z).map V.str := by
      unfold afterP
      rw [h4.dec, List.filterMap_map, List.map_filterMap]
      refine fm_congr (fun v _ => ?_)
      show _ = Option.map V.str (if (decP H v).1 = z then some (decP H v).2 else none)
      by_cases c : (decP H v).1 = z
      · rw [if_pos c, if_pos c]
        rfl
      · rw [if_neg c, if_neg c]
        rfl
    refine ⟨tp, rfl, ⟨rs, sqT_of h3⟩, ?_⟩
    have hz : rs.length < sizeLine := by
      rw [h4.len, sizeLine_eq]
      omega
    refine lc_pure (fun v => if (decP H v).1 = z then some (V.str (decP H v).2) else none) wk_tup (fun D acc nD => sqT_of (old_upd nD h3)) ?_ ?_
    · intro D i v acc nD hv ha
      obtain ⟨t, rfl, _, ht⟩ := h4.mem v (List.mem_of_getElem? hv)
      refine st_gtup (sqT_of (old_upd nD ht)) rfl ?_
      walk_at "ss"
      refine ⟨rfl, ?_⟩
      walk_at "ss"
      by_cases c : (decP H (.ref t)).1 = z
      · rw [decide_eq_true (congrArg V.str c)]
        refine iteT ?_
        walk_at "ss"
        exact pur_yes hz hv ha (if_pos c)
      · rw [decide_eq_false (fun e => c (V.str.inj e))]
        refine iteF ?_
        exact pur_no hv ha (if_neg c)
    · intro D nD
      rw [er]
      exact q D nD
end
end K46
namespace K46
open PySem PySem.Spec PyProof.Rows L2 TB LamX
open C8 (Cal pe_c Mak pe_mk Met pe_mt pe_mt0 pss_cut tCut pe_gc)
abbrev s_Order_behind : Stmt := inClass (top 12) 6
theorem sc_Order_behind : FnScope ["self", "one", "found", "left", "more", "other", "lock"] ["self", "one"] (defScope s_Order_behind) := ⟨rfl, rfl, rfl, by decide +kernel, rfl, by decide +kernel, by decide +kernel⟩
abbrev s_Order_leads : Stmt := inClass (top 12) 7
theorem sc_Order_leads : FnScope ["self", "one", "other"] ["self", "one", "other"] (defScope s_Order_leads) := ⟨rfl, rfl, rfl, by decide +kernel, rfl, by decide +kernel, by decide +kernel⟩
section
variable {P : Program} {w : World} {K : PySem.W.Frag} {mg : Str → Option Value} {base : Heap} {f C : Addr} {fd : FuncData}
theorem ok_Order_behind (F : FnM K "behind" "Order.behind" s_Order_behind [] f fd) (T : BltA mg) (oc : OrdC K C) (m_Order_want : Met P w K mg base 1 C "want" (spWant C) []) (m_Order_after : Met P w K mg base 1 C "after" (spAfter C) []) :
    FnOk P w K mg base CX0 2 f fd ["self", "one"] (spBehind C) := by
  refine fn_fg (sp := fun vs H Q _ => ∃ (x : Addr) (a : Str) (ls : List Str) (ps : List Pr), vs = [.ref x, .str a] ∧ OrdAt C H x ls ps ∧ OrdOk ls ps ∧ a ∈ ls ∧ NoT H ∧
    ∀ (p : Addr) (fs : List Str) (H' : Hp), H p = none → (∀ z, z ∈ fs ↔ Rch ps a z) → Kp [] H H' → H' p = some (.lst ((ls.filter fun z => decide (z ∈ fs)).map V.str)) → Q (.ref p) H') ?_ ?_
  · refine F.ok sc_Order_behind (fun vs H Q E h => ?_) (fun cdv A outer s H vs Q E hr h => ⟨_, PSs.nox
(pss_cons (ps_expr (pe_mt m_Order_want hr (by decide) (pv 0) (pa_cons (pv 1) pa_nil)))
  (pss_cons (ps_set (i := 2) sc_Order_behind.nd rfl (.inr rfl) (pe_lst pa_nil))
  (pss_cons (ps_set (i := 3) sc_Order_behind.nd rfl (.inl rfl) (pe_lst (pa_cons (pv 1) pa_nil)))
  (pss_cons (ps_while PassesOwn.never (pt_cmpR (op_neDK K hr.units) (pv 3) (pe_lst pa_nil) (nomark _))
    (pss_cons (ps_setLc (i := 4) (own := [("other", 5)]) rfl sc_Order_behind.nd rfl rfl (sw_true rfl rfl rfl (by decide +kernel)) (kPI K (pi_list (pe_mt m_Order_after hr (by decide) (pv 0) (pa_cons (kBM0 K (pe_bm0 PySem.F.plainAttrs_list PySem.F.slot_list_pop PySem.F.type_list_pop mt_pop (pv 3))) pa_nil)))) (blkOk_by (N := ["self", "one", "found", "left", "more", "other", "lock"]) (sc := defScope s_Order_behind) (by decide +kernel)) (fun _ _ _ _ _ => pg_name (i := 5) sc_Order_behind.nd rfl (Or.inl rfl)) (fun _ _ _ _ _ => pts_one (pt_cmpR (op_ninK K) (pv 5) (pv 2) rfl)) (fun _ _ _ _ _ => (pv 5)))
      (pss_cons (ps_expr (kBM K (pe_bm PySem.F.plainAttrs_list PySem.F.slot_list_extend PySem.F.type_list_extend mt_extend (pv 2) (pa_cons (pv 4) pa_nil))))
      (pss_one (ps_expr (kBM K (pe_bm PySem.F.plainAttrs_list PySem.F.slot_list_extend PySem.F.type_list_extend mt_extend (pv 3) (pa_cons (pv 4) pa_nil))))))))
  (pss_one (ps_ret (pe_lc (own := [("lock", 6)]) rfl sc_Order_behind.nd (kPT K (pi_tup (kFld K (pe_fld (pv 0) rfl)))) (blkOk_by (N := ["self", "one", "found", "left", "more", "other", "lock"]) (sc := defScope s_Order_behind) (by decide +kernel)) (fun _ _ _ _ _ => pg_name (i := 6) sc_Order_behind.nd rfl (Or.inl rfl)) (fun _ _ _ _ _ => pts_one (pt_cmpR (op_inK K) (pv 6) (pv 2) rfl)) (fun _ _ _ _ _ => (pv 6)))))))))
, ?_⟩)
    · obtain ⟨x, a, ls, ps, rfl, _⟩ := h
      rfl
    · obtain ⟨x, a, ls, ps, rfl, ho, hok, ha, nt, q⟩ := h
      obtain ⟨dx, tl, tp, rs, h1, h2, h3, h4⟩ := id ho
      walk_at "ss"
      refine ⟨x, dx, _, rfl, h1, rfl, ?_⟩
      walk_at "ss"
      refine ⟨x, a, ls, ps, rfl, ho, ha, ?_⟩
      walk_at "ss"
      refine ⟨Nat.zero_le _, fun fa nfa => ?_⟩
      walk_at "ss"
      refine ⟨(by show 1 ≤ sizeLine; decide), fun la nla => ?_⟩
      walk_at "ss"
      obtain ⟨nlf, nla0⟩ := nil_upd nla
      refine ⟨fun m σ H2 => ∃ (fs lf : List Str) (y4 y5 : Option V), σ = [some (.ref x), some (.str a), some (.ref fa), some (.ref la), y4, y5, none] ∧ Kp [] H H2 ∧ NoT H2 ∧ H2 fa = some (.lst (fs.map V.str)) ∧ H2 la = some (.lst (lf.map V.str)) ∧ m = 2 * (ls.length - fs.length) + lf.length ∧ BInv ls ps a fs lf ∧ lf.length + fs.length + fs.length ≤ 2 * fs.length + 2 * ls.length + 1 ∧ 2 * (ls.length - fs.length) + lf.length ≤ 2 * ls.length + 1,
        ⟨_, [], [a], none, none, rfl, ((Kp.refl H).new nfa).new nla, nt.lst.lst, oth_upd nlf.symm upd_same, upd_same, rfl, BInv.init, (by show 1 + 0 + 0 ≤ _; omega), (by show 2 * (ls.length - 0) + 1 ≤ _; omega)⟩, ?_⟩
      rintro m σ H2 ⟨fs, lf, y4, y5, rfl, k2, nt2, hfa, hla, rfl, bi, lb1, lb2⟩
      have nlf2 : ∀ z ∈ lf, Nm z := fun z hz => (bi.lft z hz).elim (fun e => by rw [e]; exact hok.nm a ha) (fun e => hok.nm z (bi.ins z e))
      walk_at "ss"
      refine ⟨Nat.zero_le _, fun e0 ne0 => ?_⟩
      refine st_neNil nlf2 (old_upd ne0 hla) upd_same ?_
      walk_at "ss"
      have k3 : Kp [] H (upd H2 e0 (.lst [])) := k2.new ne0
      have nt3 : NoT (upd H2 e0 (.lst [])) := nt2.lst
      replace hfa := old_upd (o := .lst []) ne0 hfa
      replace hla := old_upd (o := .lst []) ne0 hla
      generalize upd H2 e0 (.lst []) = H3 at k3 nt3 hfa hla ⊢
      have x3 : H3 x = _ := k3.same _ _ h1
      have ho3 : OrdAt C H3 x ls ps := ho.same k3.same
      rcases List.eq_nil_or_concat lf with e | ⟨lf', l, e⟩
      · subst e
        refine iteF ?_
        walk_at "ss"
        refine ⟨x, C, dx, _, _, rfl, x3, oc.cls, oc.nl, rfl, ?_⟩
        walk_at "ss"
        refine ⟨tl, rfl, ⟨_, (h2.keep fun ob u e => k3.same _ _ e).sq⟩, ?_⟩
        have hz : (ls.map V.str).length < sizeLine := by
          have := hok.len
          rw [List.length_map, sizeLine_eq]
          omega
        refine lc_pure (strF fun z => decide (z ∈ fs)) wk_tup (fun D acc nD => (h2.keep fun ob u e => old_upd nD (k3.same _ _ e)).sq) ?_ ?_
        · intro D i v acc nD hv hacc
          obtain ⟨z, _, rfl⟩ := List.mem_map.mp (List.mem_of_getElem? hv)
          walk_at "ss"
          refine ⟨rfl, ?_⟩
          walk_at "ss"
          refine st_inS (Or.inl (sqL_of (old_upd nD hfa))) ?_
          walk_at "ss"
          by_cases c : z ∈ fs
          · rw [decide_eq_true c]
            refine iteT ?_
            walk_at "ss"
            exact pur_yes hz hv hacc (strF_yes (decide_eq_true c))
          · rw [decide_eq_false c]
            refine iteF ?_
            exact pur_no hv hacc (strF_no (decide_eq_false c))
        · intro D nD
          rw [fm_filter]
          refine q D fs _ ?_ bi.done (k3.new nD) upd_same
          cases e : H D with
          | none => rfl
          | some o => rw [k3.same _ _ e] at nD; exact nomatch nD
      · rw [List.concat_eq_append] at e
        subst e
        rw [decide_eq_false (by simp)]
        refine iteT ⟨fun σ' H' => ∃ m', m' < 2 * (ls.length - fs.length) + (lf' ++ [l]).length ∧ ∃ (fs lf : List Str) (y4 y5 : Option V), σ' = [some (.ref x), some (.str a), some (.ref fa), some (.ref la), y4, y5, none] ∧ Kp [] H H' ∧ NoT H' ∧ H' fa = some (.lst (fs.map V.str)) ∧ H' la = some (.lst (lf.map V.str)) ∧ m' = 2 * (ls.length - fs.length) + lf.length ∧ BInv ls ps a fs lf ∧ lf.length + fs.length + fs.length ≤ 2 * fs.length + 2 * ls.length + 1 ∧ 2 * (ls.length - fs.length) + lf.length ≤ 2 * ls.length + 1, fun _ _ z => z, ?_⟩
        walk_at "ss"
        refine ⟨x, dx, _, rfl, x3, rfl, ?_⟩
        walk_at "ss"
        refine ⟨Or.inl ⟨rfl, _, sqL_of hla⟩, la, _, .str l, rfl, rfl, hla, by simp, ?_⟩
        walk_at "ss"
        have ed : ((lf' ++ [l]).map V.str).dropLast = lf'.map V.str := by simp
        rw [ed]
        refine ⟨x, l, ls, ps, rfl, ho3.lst hla, hok, fun p np => ?_⟩
        obtain ⟨npl, np3⟩ := nil_upd np
        have x4 : upd (upd H3 la (.lst (lf'.map V.str))) p (.lst ((afterP ps l).map V.str)) fa = some (.lst (fs.map V.str)) := old_upd np (oth_upd nlf.symm hfa)
        walk_at "ss"
        refine ⟨p, rfl, ⟨_, sqL_of upd_same⟩, ?_⟩
        have hz : ((afterP ps l).map V.str).length < sizeLine := by
          have h5 := hok.plen
          have h6 : (afterP ps l).length ≤ ps.length := List.length_filterMap_le _ _
          rw [List.length_map, sizeLine_eq]
          omega
        refine lc_pure (strF fun z => !decide (z ∈ fs)) wk_list (fun D acc nD => sqL_of (old_upd nD upd_same)) ?_ ?_
        · intro D i v acc nD hv hacc
          obtain ⟨z, _, rfl⟩ := List.mem_map.mp (List.mem_of_getElem? hv)
          walk_at "ss"
          refine ⟨rfl, ?_⟩
          walk_at "ss"
          refine st_ninS (Or.inl (sqL_of (old_upd nD x4))) ?_
          walk_at "ss"
          by_cases c : z ∈ fs
          · rw [decide_eq_true c]
            refine iteF ?_
            exact pur_no hv hacc (strF_no (by rw [decide_eq_true c]; rfl))
          · rw [decide_eq_false c]
            refine iteT ?_
            walk_at "ss"
            exact pur_yes hz hv hacc (strF_yes (by rw [decide_eq_false c]; rfl))
        · intro D nD
          rw [fm_filter]
          have em : (afterP ps l).filter (fun z => !decide (z ∈ fs)) = moreP ps fs l := rfl
          rw [em]
          obtain ⟨nDp, nD4⟩ := nil_upd nD
          obtain ⟨nDl, nD3⟩ := nil_upd nD4
          have bi2 := bi.step hok
          have h7 := nodup_le bi2.nd bi2.ins
          have h8 := hok.len
          rw [List.length_append] at h7
          have lD : upd (upd (upd H3 la (.lst (lf'.map V.str))) p (.lst ((afterP ps l).map V.str))) D (.lst ((moreP ps fs l).map V.str)) la = some (.lst (lf'.map V.str)) := old_upd nD (old_upd np upd_same)
          walk_at "ss"
          refine ⟨Or.inl ⟨rfl, _, sqL_of (old_upd nD x4)⟩, ?_⟩
          walk_at "ss"
          refine ⟨fa, D, _, _, rfl, rfl, old_upd nD x4, upd_same, ?_, ?_⟩
          · rw [List.length_map, List.length_map, sizeLine_eq]
            omega
          walk_at "ss"
          refine ⟨Or.inl ⟨rfl, _, sqL_of (oth_upd nlf lD)⟩, ?_⟩
          walk_at "ss"
          refine ⟨la, D, _, _, rfl, rfl, oth_upd nlf lD, oth_upd (fun e => by rw [e] at nD; rw [x4] at nD; exact nomatch nD) upd_same, ?_, ?_⟩
          · rw [List.length_append] at lb1
            rw [List.length_map, List.length_map, sizeLine_eq]
            omega
          walk_at "ss"
          have lss := bi2.less
          refine ⟨_, lss, _, _, _, _, rfl, ((((k3.own nla0).new np).new nD).own nfa).own nla0, nt3.lst.lst.lst.lst.lst, ?_, ?_, rfl, bi2, ?_, ?_⟩
          · rw [upd_ne nlf.symm, upd_same, List.map_append]
          · rw [upd_same, List.map_append]
          · omega
          · omega
  · rintro vs H Q E ⟨x, a, ls, ps, rfl, ho, hok, ha, nt, q⟩
    exact ⟨x, a, ls, ps, rfl, ho, hok, ha, nt, fun p fs H' np hf k e => ⟨_, Fg.one k.same nt np e trivial (fun _ => trivial), q p fs np hf⟩⟩
theorem ok_Order_leads (F : FnM K "leads" "Order.leads" s_Order_leads [] f fd) (T : BltA mg) (oc : OrdC K C) (m_Order_want : Met P w K mg base 1 C "want" (spWant C) []) (m_Order_behind : Met P w K mg base 2 C "behind" (spBehind C) []) :
    FnOk P w K mg base CX0 3 f fd ["self", "one", "other"] (spLeads C) := by
  refine fn_fg (sp := fun vs H Q _ => ∃ (x : Addr) (a b : Str) (ls : List Str) (ps : List Pr), vs = [.ref x, .str a, .str b] ∧ OrdAt C H x ls ps ∧ OrdOk ls ps ∧ a ∈ ls ∧ b ∈ ls ∧ NoT H ∧ ∀ (k : Bool) (H' : Hp), (k = true ↔ Rch ps a b) → Same H H' → Q (.bl k) H') ?_ ?_
  · refine F.ok sc_Order_leads (fun vs H Q E h => ?_) (fun cdv A outer s H vs Q E hr h => ⟨_, PSs.nox
(pss_cons (ps_expr (pe_mt m_Order_want hr (by decide) (pv 0) (pa_cons (pv 1) pa_nil)))
  (pss_cons (ps_expr (pe_mt m_Order_want hr (by decide) (pv 0) (pa_cons (pv 2) pa_nil)))
  (pss_one (ps_ret (pe_cmpR (op_inK K) (pv 2) (pe_mt m_Order_behind hr (by decide) (pv 0) (pa_cons (pv 1) pa_nil)) rfl)))))
, ?_⟩)
    · obtain ⟨x, a, b, ls, ps, rfl, _⟩ := h
      rfl
    · obtain ⟨x, a, b, ls, ps, rfl, ho, hok, ha, hb, nt, q⟩ := h
      obtain ⟨dx, tl, tp, rs, h1, h2, h3, h4⟩ := id ho
      walk_at "ss"
      refine ⟨x, dx, _, rfl, h1, rfl, ?_⟩
      walk_at "ss"
      refine ⟨x, a, ls, ps, rfl, ho, ha, ?_⟩
      walk_at "ss"
      refine ⟨x, dx, _, rfl, h1, rfl, ?_⟩
      walk_at "ss"
      refine ⟨x, b, ls, ps, rfl, ho, hb, ?_⟩
      walk_at "ss"
      refine ⟨x, dx, _, rfl, h1, rfl, ?_⟩
      walk_at "ss"
      refine ⟨x, a, ls, ps, rfl, ho, hok, ha, nt, fun p fs np hf => ?_⟩
      refine st_inS (Or.inl (sqL_of upd_same)) ?_
      refine q _ _ ?_ (fun c o e => old_upd np e)
      rw [decide_eq_true_iff, List.mem_filter, decide_eq_true_iff, hf]
      exact ⟨fun z => z.2, fun z => ⟨hb, z⟩⟩
  · rintro vs H Q E ⟨x, a, b, ls, ps, rfl, ho, hok, ha, hb, nt, q⟩
    exact ⟨x, a, b, ls, ps, rfl, ho, hok, ha, hb, nt, fun k H' hk sm => ⟨H, Fg.back sm nt, q k hk⟩⟩
end
end K46
namespace K46
open PySem PySem.Spec PyProof.Rows L2 TB LamX NdefX
open C8 (Cal pe_c Mak pe_mk Met pe_mt pe_mt0 pss_cut tCut pe_gc)
abbrev s_Order_with_pair : Stmt := inClass (top 12) 8
theorem sc_Order_with_pair : FnScope ["self", "one", "other", "locks", "pairs"] ["self", "one", "other"] (defScope s_Order_with_pair) := ⟨rfl, rfl, rfl, by decide +kernel, rfl, by decide +kernel, by decide +kernel⟩
section
variable {P : Program} {w : World} {K : PySem.W.Frag} {mg : Str → Option Value} {base : Heap} {f C : Addr} {fd : FuncData}
/-- the lambda's name -/
def lamQ : Str := (envOfC "Order.with_pair" (defScope s_Order_with_pair) 0 0 .none).qual ++ "<lambda>"
theorem ok_Order_with_pair {c T0 : Addr} (F : FnM K "with_pair" "Order.with_pair" s_Order_with_pair [] f fd) (hcd : fd.code = .ref c) (tb0 : TabB base mg c T0) (T : BltA mg) (oc : OrdC K C) (m_Order_has : Met P w K mg base 2 C "has" (spHas C) []) (m_Order_leads : Met P w K mg base 3 C "leads" (spLeads C) []) :
    FnOk P w K mg base CX0 4 f fd ["self", "one", "other"] (spWith C T0 lamQ) := by
  refine okC F hcd sc_Order_with_pair (fun vs H Q E h => ?_) (fun A outer s H vs Q E hr h => ⟨_, PSs.nox
    (pss_cons (ps_if (pt_val (pe_mt m_Order_has hr (by decide) (pv 0) (pa_cons (pv 1) (pa_cons (pv 2) pa_nil)))) (pss_one (ps_ret (kFld K (pe_fld (pv 0) rfl)))) pss_nil)
    (pss_cons (ps_if (PW.pt (pw_or (pt_cmpR op_eq (pv 1) (pv 2) (nomark _)) (pw_or1 (pt_val (pe_mt m_Order_leads hr (by decide) (pv 0) (pa_cons (pv 2) (pa_cons (pv 1) pa_nil))))))) (pss_one ps_never) pss_nil)
    (pss_cons (ps_set (i := 3) sc_Order_with_pair.nd rfl (.inr rfl) (kFld K (pe_fld (pv 0) rfl)))
    (pss_cons (ps_set (i := 4) sc_Order_with_pair.nd rfl (.inl rfl) (pe_op (op_catK K) (kFld K (pe_fld (pv 0) rfl)) (pe_tup (pa_cons (pe_tup (pa_cons (pv 1) (pa_cons (pv 2) pa_nil))) pa_nil))))
    (pss_one (ps_ret (pe_callTy (call_tupK K) (by rfl) T.b_tuple (by decide +kernel) (pa_cons
      (pe_sortedLam (N := ["pair", "locks"]) (fr := ["locks"]) (x0 := "pair") (js := [3]) (k := 0) tb0 rfl rfl (ndef_free (sc := defScope s_Order_with_pair) (fr := ["locks"]) (by decide +kernel)) (ndef_fr (sc := defScope s_Order_with_pair) (by decide +kernel)) rfl (nscope_by (by decide +kernel)) hr (fun _ _ _ _ _ => rfl)
        (fun cl c' f A outer s' H' hr' => pe_tup (pa_cons (pe_bmT PySem.F.slot_tuple_index PySem.F.type_tuple_index (mt_tupIxK K) (pv 1) (pa_cons (pe_ix (ix_tupK K) (pv 0) pe_int (fun _ _ => rfl)) pa_nil))
          (pa_cons (pe_bmT PySem.F.slot_tuple_index PySem.F.type_tuple_index (mt_tupIxK K) (pv 1) (pa_cons (pe_ix (ix_tupK K) (pv 0) pe_int (fun _ _ => rfl)) pa_nil)) pa_nil)))
        (by rfl) T.b_sorted (by decide +kernel) (pa_cons (pv 4) pa_nil)) pa_nil))))))))
, ?_⟩)
  · obtain ⟨x, a, b, ls, ps, rfl, _⟩ := h
    rfl
  · obtain ⟨x, a, b, ls, ps, rfl, ho, hok, ha, hb, ne, nr, nt, tb, q⟩ := h
    obtain ⟨dx, tl, tp, rs, h1, h2, h3, h4⟩ := id ho
    walk_at "ss"
    refine ⟨x, dx, _, rfl, h1, rfl, ?_⟩
    walk_at "ss"
    refine ⟨x, a, b, ls, ps, rfl, ho, hok, ha, hb, nt, ?_⟩
    walk_at "ss"
    by_cases m : (a, b) ∈ ps
    · rw [decide_eq_true m]
      refine iteT ?_
      walk_at "ss"
      refine ⟨x, C, dx, _, _, rfl, h1, oc.cls, oc.np, rfl, ?_⟩
      refine q H tp rs ps (Tg.refl tb) h3 h4 hok (fun z => ⟨Or.inl, fun e => e.elim id (fun e => by rw [e]; exact m)⟩)
    · rw [decide_eq_false m]
      refine iteF ?_
      walk_at "ss"
      rw [decide_eq_false (fun e => ne (V.str.inj e))]
      refine iteF ?_
      walk_at "ss"
      refine ⟨x, dx, _, rfl, h1, rfl, ?_⟩
      walk_at "ss"
      refine ⟨x, b, a, ls, ps, rfl, ho, hok, hb, ha, nt, fun k hk => ?_⟩
      obtain rfl : k = false := by
        cases k with
        | false => rfl
        | true => exact absurd (hk.mp rfl) nr
      walk_at "ss"
      refine iteF ?_
      walk_at "ss"
      refine ⟨x, C, dx, _, _, rfl, h1, oc.cls, oc.nl, rfl, ?_⟩
      walk_at "ss"
      refine ⟨x, C, dx, _, _, rfl, h1, oc.cls, oc.np, rfl, ?_⟩
      walk_at "ss"
      refine ⟨(by show 2 ≤ sizeLine; decide), fun t1 nt1 => ?_⟩
      walk_at "ss"
      refine ⟨(by show 1 ≤ sizeLine; decide), fun t2 nt2 => ?_⟩
      have pl := hok.plen
      refine st_catP (old_upd nt2 (old_upd nt1 h3)) upd_same ?_ (by simp) ?_
      · rw [h4.len, sizeLine_eq]
        show ps.length + 1 ≤ _
        omega
      intro tq H1 sm1 ntt htq
      have s1 : Same H H1 := fun c o e => sm1 c o (old_upd nt2 (old_upd nt1 e))
      have e1 : H1 t1 = some (.tup [.str a, .str b]) := sm1 _ _ (old_upd nt2 upd_same)
      have n1 : NoT H1 := ntt (NoT.tup (NoT.tup nt))
      have tb1 : TabS H1 T0 lamQ := tb.ext s1
      have pr1 : Prs H1 (rs ++ [.ref t1]) (ps ++ [(a, b)]) := (h4.keep fun c xs e => s1 _ _ e).app (.cons ⟨t1, rfl, e1⟩ .nil)
      have okm : ∀ p ∈ ps ++ [(a, b)], p.1 ∈ ls ∧ p.2 ∈ ls := by
        intro p hp
        rcases List.mem_append.mp hp with e | e
        · exact hok.mem p e
        · rw [List.mem_singleton.mp e]
          exact ⟨ha, hb⟩
      walk_at "ss"
      refine ⟨tq, rs ++ [.ref t1], fun v => keyP ls (decP H1 v), rfl, sqT_of htq, pr1.refs, tb1, ?_, ?_⟩
      · intro y hy H2 ext Q' hQ
        obtain ⟨t, rfl, hm, ht⟩ := pr1.mem y hy
        have ht2 := ext _ _ ht (fun ps => by simp)
        have hl2 : LkAt H2 tl ls := h2.keep fun ob u e => ext _ _ (s1 _ _ e) (fun ps => by simp)
        obtain ⟨i1, i2⟩ := ixS_at (okm _ hm).1
        obtain ⟨j1, j2⟩ := ixS_at (okm _ hm).2
        walk_at "ss"
        refine ⟨⟨tl, ls, rfl, hl2⟩, ?_⟩
        walk_at "ss"
        refine st_ixT (sqT_of ht2) rfl ?_
        walk_at "ss"
        refine ⟨tl, ls, _, _, rfl, rfl, hl2.sq, i1, i2, ?_⟩
        walk_at "ss"
        refine ⟨⟨tl, ls, rfl, hl2⟩, ?_⟩
        walk_at "ss"
        refine st_ixT (sqT_of ht2) rfl ?_
        walk_at "ss"
        refine ⟨tl, ls, _, _, rfl, rfl, hl2.sq, j1, j2, ?_⟩
        walk_at "ss"
        exact ⟨(by show 2 ≤ sizeLine; decide), hQ⟩
      · intro ys D H3 pm sr tg nD hD
        walk_at "ss"
        refine ⟨D, ys, rfl, Or.inl ⟨sqL_of hD, fun l nl => ?_⟩⟩
        have hp2 : (ys.map (decP H1)).Perm (ps ++ [(a, b)]) := by
          rw [pr1.dec]
          exact pm.map _
        have hs2 : SortP ls (ys.map (decP H1)) := List.pairwise_map.mpr sr
        obtain ⟨o1, o2⟩ := hok.add ha hb m hp2 hs2
        refine q _ l ys (ys.map (decP H1)) ?_ upd_same (prs_map fun y hy => ?_) o1 o2
        · exact Tg.new (Tg.trans ⟨fun c o e _ => s1 c o e, tb1, fun _ => n1⟩ tg) nl trivial
        · obtain ⟨t, e, _, ht⟩ := pr1.mem y (pm.mem_iff.mp hy)
          exact ⟨t, e, old_upd nl (tg.at tb1 ht (fun ps => by simp))⟩
end
end K46
namespace K46
open PySem PySem.Spec PyProof.Rows L2 TB LamX NdefX
open C8 (Cal pe_c Mak pe_mk Met pe_mt pe_mt0 pss_cut tCut pe_gc)
abbrev s_Order___init__ : Stmt := inClass (top 12) 0
theorem sc_Order___init__ : FnScope ["self", "locks", "pairs", "one", "other"] ["self", "locks", "pairs"] (defScope s_Order___init__) := ⟨rfl, rfl, rfl, by decide +kernel, rfl, by decide +kernel, by decide +kernel⟩
abbrev s_Order_added : Stmt := inClass (top 12) 9
theorem sc_Order_added : FnScope ["self", "one", "other", "found"] ["self", "one", "other"] (defScope s_Order_added) := ⟨rfl, rfl, rfl, by decide +kernel, rfl, by decide +kernel, by decide +kernel⟩
section
variable {P : Program} {w : World} {K : PySem.W.Frag} {mg : Str → Option Value} {base : Heap} {f C : Addr} {fd : FuncData}
theorem ok_Order___init__ {dvs : List V} (F : FnM K "__init__" "Order.__init__" s_Order___init__ dvs f fd) (T : BltA mg) (oc : OrdC K C) : FnOk P w K mg base CX0 1 f fd ["self", "locks", "pairs"] (spInit K C) := by
  refine F.ok sc_Order___init__ (fun vs H Q E h => ?_) (fun cdv A outer s H vs Q E hr h => ⟨_, PSs.nox
(pss_cons (kSFld K (ps_fld (pv 0) (pe_callTy (call_tupF K) (by rfl) T.b_tuple (by decide +kernel) (pa_cons (pv 1) pa_nil)) rfl))
  (pss_cons (kSFld K (ps_fld (pv 0) (pe_tup pa_nil) rfl))
  (pss_one (ps_for PassesOwn.never rfl (kPT K (pi_tup (pv 2))) (kTup K 2 (pg_tup rfl (pgs_cons (pg_name (i := 3) sc_Order___init__.nd rfl (.inl rfl)) (pgs_cons (pg_name (i := 4) sc_Order___init__.nd rfl (.inl rfl)) pgs_nil))))
    (pss_one ps_never)))))
, ?_⟩)
  · obtain ⟨x, dx, l, d, ls, rfl, _⟩ := h
    rfl
  · obtain ⟨x, dx, l, d, ls, rfl, h1, h2, h3, q⟩ := h
    walk_at "ss"
    refine st_tupF h2 ?_
    intro tl H1 sm n1 lk
    walk_at "ss"
    refine ⟨x, C, dx, _, rfl, sm _ _ h1, oc.cls, oc.nl, by decide, ?_⟩
    walk_at "ss"
    refine ⟨Nat.zero_le _, fun tp ntp => ?_⟩
    walk_at "ss"
    obtain ⟨ntx, ntp1⟩ := nil_upd ntp
    refine ⟨x, C, dx, _, rfl, old_upd ntp upd_same, oc.cls, oc.np, (by show 1 < 1000; decide), ?_⟩
    have k1 : Kp [x] H (upd (upd (upd H1 x (.ins C dx (putF "own_locks" (.ref tl) []))) tp (.tup [])) x (.ins C dx (putF "own_pairs" (.ref tp) (putF "own_locks" (.ref tl) [])))) := ((((show Kp [x] H H1 from fun b o e _ => sm b o e).mut (by simp)).new ntp).mut (by simp))
    walk_at "ss"
    refine ⟨d, rfl, ⟨[], h3 _⟩, ?_⟩
    refine for_walk (wk_tup (xs := [])) (fun _ σ H2 => H2 = (upd (upd (upd H1 x (.ins C dx (putF "own_locks" (.ref tl) []))) tp (.tup [])) x (.ins C dx (putF "own_pairs" (.ref tp) (putF "own_locks" (.ref tl) []))))) rfl ?_ ?_ ?_
    · rintro i σ H2 _
      exact h3 _
    · intro i v σ H2 hv
      exact nomatch hv
    · rintro σ H2 rfl
      refine q _ k1 ?_ ⟨dx, tl, tp, [], upd_same, ?_, ?_, .nil⟩
      · intro z
        exact NoT.upd (o := .ins _ _ _) (NoT.upd (o := .tup _) (NoT.upd (o := .ins _ _ _) (n1 z) trivial) trivial) trivial
      · have hx : ∀ ob u, H1 tl = some (.frz ob u) → tl ≠ x := fun ob u e z => by
          rw [z, sm _ _ h1] at e
          exact nomatch e
        refine lk.keep fun ob u e => ?_
        rw [upd_ne (hx ob u e), upd_ne (ne_of_none e ntp1), upd_ne (hx ob u e)]
        exact e
      · rw [upd_ne ntx, upd_same]
theorem ok_Order_added {T0 d : Addr} (F : FnM K "added" "Order.added" s_Order_added [] f fd) (T : BltA mg) (oc : OrdC K C) (hd : ∀ H, SqT K H d []) (m_Order : Mak P w K mg base 1 "Order" C (spInit K C) [.ref d]) (m_Order_with_pair : Met P w K mg base 4 C "with_pair" (spWith C T0 lamQ) []) :
    FnOk P w K mg base CX0 5 f fd ["self", "one", "other"] (spAdded C T0 lamQ) := by
  refine F.ok sc_Order_added (fun vs H Q E h => ?_) (fun cdv A outer s H vs Q E hr h => ⟨_, PSs.nox
(pss_cons (ps_set (i := 3) sc_Order_added.nd rfl (.inl rfl) (pe_mk m_Order hr (by decide) (by rfl) (pa_cons (kFld K (pe_fld (pv 0) rfl)) pa_nil)))
  (pss_cons (kSFld K (ps_fld (pv 3) (pe_mt m_Order_with_pair hr (by decide) (pv 0) (pa_cons (pv 1) (pa_cons (pv 2) pa_nil))) rfl))
  (pss_one (ps_ret (pv 3)))))
, ?_⟩)
  · obtain ⟨x, a, b, ls, ps, rfl, _⟩ := h
    rfl
  · obtain ⟨x, a, b, ls, ps, rfl, ho, hok, ha, hb, ne, nr, nt, tb, q⟩ := h
    obtain ⟨dx, tl, tp, rs, h1, h2, h3, h4⟩ := id ho
    walk_at "ss"
    refine ⟨x, C, dx, _, _, rfl, h1, oc.cls, oc.nl, rfl, ?_⟩
    walk_at "ss"
    intro y dy ny ndy nyy
    have nb : ∀ b o, H b = some o → b ≠ y ∧ b ≠ dy := fun b o e => ⟨ne_of_none e ny, ne_of_none e ndy⟩
    have s0 : Same H (upd (upd H dy (.own y)) y (.ins C dy [])) := fun b o e => by
      rw [upd_ne (nb b o e).1, upd_ne (nb b o e).2]
      exact e
    refine ⟨y, dy, tl, d, ls, rfl, upd_same, Or.inr (h2.keep fun _ _ e => s0 _ _ e), hd, ?_⟩
    intro H2 k2 n2 oy
    refine ⟨rfl, ?_⟩
    have s2 : Same H H2 := fun b o e => k2 b o (s0 b o e) (fun m => (nb b o e).1 (List.mem_singleton.mp m))
    have nt2 : NoT H2 := n2 (NoT.upd (o := .ins C dy []) (NoT.upd (o := .own y) nt trivial) trivial)
    have ho2 : OrdAt C H2 x ls ps := ho.same s2
    have tb2 : TabS H2 T0 lamQ := tb.ext s2
    walk_at "ss"
    refine ⟨x, dx, _, rfl, s2 _ _ h1, rfl, ?_⟩
    walk_at "ss"
    refine ⟨x, a, b, ls, ps, rfl, ho2, hok, ha, hb, ne, nr, nt2, tb2, ?_⟩
    intro H3 t rs3 qs tg ht hp hq hm
    obtain ⟨dy3, tl3, tp3, rs0, y1, y2, y3, y4⟩ := OrdAt.tg oy tg tb2
    walk_at "ss"
    refine ⟨y, C, dy3, _, rfl, y1, oc.cls, oc.np, (by show 2 < 1000; decide), ?_⟩
    walk_at "ss"
    have kt : ∀ c o, H3 c = some o → (∀ C dx fs, o ≠ .ins C dx fs) → upd H3 y (.ins C dy3 (putF "own_pairs" (.ref t) [("own_locks", .ref tl3), ("own_pairs", .ref tp3)])) c = some o := by
      intro c o e n
      refine oth_upd (fun z => ?_) e
      rw [z, y1] at e
      exact n _ _ _ (Option.some.inj e).symm
    refine q _ y qs ⟨?_, TB.TabS.mutI tg.tab y1, fun _ => (tg.nt nt2).upd trivial⟩ ⟨dy3, tl3, t, rs3, upd_same, y2.keep (fun ob u e => kt _ _ e (fun _ _ _ z => nomatch z)), kt _ _ ht (fun _ _ _ z => nomatch z), hp.keep (fun c xs e => kt _ _ e (fun _ _ _ z => nomatch z))⟩ hq hm ny
    intro b' o e m
    exact oth_upd (nb _ _ e).1 (tg.kp _ _ (s2 _ _ e) m)
end
end K46
namespace K46
open PySem PySem.Spec PyProof.Rows L2 TB
open C8 (Cal pe_c Mak pe_mk Met pe_mt pe_mt0 pss_cut tCut pe_gc)
abbrev s__law_pot : Stmt := top 14
theorem sc__law_pot : FnScope ["_law_script", "_law_k", "_law_cell"] ["_law_script", "_law_k"] (defScope s__law_pot) := ⟨rfl, rfl, rfl, by decide +kernel, rfl, by decide +kernel, by decide +kernel⟩
abbrev s__law_draw : Stmt := top 15
theorem sc__law_draw : FnScope ["_law_pot_here", "_law_many", "_law_digit"] ["_law_pot_here", "_law_many"] (defScope s__law_draw) := ⟨rfl, rfl, rfl, by decide +kernel, rfl, by decide +kernel, by decide +kernel⟩
section
variable {P : Program} {w : World} {K : PySem.W.Frag} {mg : Str → Option Value} {base : Heap} {f : Addr} {fd : FuncData}
def spDraw0 : Sp := fun vs H Q _ => ∃ (p : Addr) (m a b : Int), vs = [.ref p, .int m] ∧ H p = some (.lst [.int a, .int b]) ∧ 0 ≤ a ∧ 0 ≤ b ∧ b < 2147483647 ∧ 0 < m ∧ m < 2 ^ 64 ∧
  ∀ (H' : Hp) (a' b' d : Int), 0 ≤ a' → 0 ≤ b' → b' < 2147483647 → H' p = some (.lst [.int a', .int b']) → Kp [p] H H' → 0 ≤ d → d < m → Q (.int d) H'
def spDraw : Sp := fun vs H Q _ => ∃ (p : Addr) (m : Int), vs = [.ref p, .int m] ∧ H p = some (PotO p) ∧ NoT H ∧ 0 < m ∧ m < 2 ^ 64 ∧ ∀ d : Int, 0 ≤ d → d < m → Q (.int d) H
theorem ok_draw0 (F : FnP K "_law_draw" s__law_draw f fd) (T : BltA mg) : FnOk P w K mg base CX0 1 f fd ["_law_pot_here", "_law_many"] spDraw0 := by
  refine F.ok sc__law_draw (fun vs H Q E h => ?_) (fun cdv A outer s H vs Q E hr h => ⟨_, PSs.nox 
(pss_cons (ps_if (pt_cmpR op_gt (pe_ix ix_list (pv 0) pe_int (fun _ _ => rfl)) pe_int (nomark _))
    (pss_cons (ps_asg (pe_callB call_divmodW (by rfl) T.b_divmod (by decide +kernel) (pa_cons (pe_ix ix_list (pv 0) pe_int (fun _ _ => rfl)) (pa_cons (pv 1) pa_nil))) (pg_tup rfl (pgs_cons (pg_sub (pv 0) pe_int set_list) (pgs_cons (pg_name (i := 2) sc__law_draw.nd rfl (.inl rfl)) pgs_nil))))
      (pss_one (ps_ret (pv 2))))
    pss_nil)
  (pss_cons (ps_asg (pe_op op_mod (pe_op op_add (pe_op op_mul (pe_ix ix_list (pv 0) pe_int (fun _ _ => rfl)) pe_int) pe_int) pe_int) (pg_sub (pv 0) pe_int set_list))
  (pss_one (ps_ret (pe_op op_mod (pe_op op_fdiv (pe_op op_mod (pe_op op_mul (pe_ix ix_list (pv 0) pe_int (fun _ _ => rfl)) (pe_ix ix_list (pv 0) pe_int (fun _ _ => rfl))) pe_int) pe_int) (pv 1)))))), ?_⟩)
  · obtain ⟨p, m, a, b, rfl, _⟩ := h
    rfl
  · obtain ⟨p, m, a, b, rfl, hp, ha, hb, hb2, hm, hm2, q⟩ := h
    walk_at "ss"
    refine st_ixL (sqL_of hp) rfl ?_
    walk_at "ss"
    refine ite2 (fun c => ?_) (fun c => ?_)
    · walk_at "ss"
      refine st_ixL (sqL_of hp) rfl ?_
      walk_at "ss"
      refine ⟨_, _, rfl, cdivP hm hm2, fun t nt => ?_⟩
      refine st_gtup (sqT_of upd_same) rfl ?_
      walk_at "ss"
      refine st_setL (old_upd nt hp) rfl ?_
      walk_at "ss"
      refine q _ (a / m) b (a % m) (Int.ediv_nonneg ha (by omega)) hb hb2 (by rw [upd_same]; rfl) (((Kp.refl H).new nt).mut (by simp)) (Int.emod_nonneg _ (by omega)) (Int.emod_lt_of_pos _ hm)
    · walk_at "ss"
      refine st_ixL (sqL_of hp) rfl ?_
      walk_at "ss"
      refine st_I (Or.inr ⟨by decide, by decide⟩) ?_
      walk_at "ss"
      refine st_I (by show (0 : Int) < 2147483647; decide) ?_
      walk_at "ss"
      refine st_setL hp rfl ?_
      have h0 : 0 ≤ (b * 48271 + 30011) % 2147483647 := Int.emod_nonneg _ (by decide)
      have h1 : (b * 48271 + 30011) % 2147483647 < 2147483647 := Int.emod_lt_of_pos _ (by decide)
      revert h0 h1
      generalize (b * 48271 + 30011) % 2147483647 = c1
      intro h0 h1
      walk_at "ss"
      refine st_ixL (sqL_of upd_same) rfl ?_
      walk_at "ss"
      refine st_ixL (sqL_of upd_same) rfl ?_
      walk_at "ss"
      refine st_I (Or.inl ⟨by omega, by omega⟩) ?_
      walk_at "ss"
      refine st_I (by show (0 : Int) < 2147483629; decide) ?_
      walk_at "ss"
      refine st_I ⟨by decide, by decide⟩ ?_
      walk_at "ss"
      refine st_I (show (0 : Int) < m from hm) ?_
      exact q _ a c1 _ ha h0 h1 (by rw [upd_same]; rfl) ((Kp.refl H).mut (by simp)) (Int.emod_nonneg _ (by omega)) (Int.emod_lt_of_pos _ hm)
theorem ok_draw (F : FnP K "_law_draw" s__law_draw f fd) (T : BltA mg) : FnOk P w K mg base CX0 1 f fd ["_law_pot_here", "_law_many"] spDraw := by
  refine fn_pot (ok_draw0 F T) fun vs H Q E h => ?_
  obtain ⟨p, m, rfl, hp, nt, hm, hm2, q⟩ := h
  refine ⟨p, hp, fun a b ha hb hb2 => ⟨p, m, a, b, rfl, upd_same, ha, hb, hb2, hm, hm2, fun H' a' b' d h1 h2 h3 h4 h5 h6 h7 => ⟨a', b', h1, h2, h3, h4, H, Fg.back (fun c o e => ?_) nt, q d h6 h7⟩⟩⟩
  by_cases z : c = p
  · rw [z, upd_same, ← e, z]
    exact hp.symm
  · exact oth_upd z (h5 c o (oth_upd z e) (by simp [z]))
def spPot0 (K : PySem.W.Frag) : Sp := fun vs H Q _ => ∃ (l : Addr) (ns : List Int) (k : Int), vs = [.ref l, .int k] ∧ SqL K H l (ns.map V.int) ∧ 0 ≤ k ∧ k < 1000 ∧
  ∀ (p : Addr) (a b : Int), H p = none → 0 ≤ a → 0 ≤ b → b < 2147483647 → Q (.ref p) (upd H p (.lst [.int a, .int b]))
def spPot (K : PySem.W.Frag) : Sp := fun vs H Q _ => ∃ (l : Addr) (ns : List Int) (k : Int), vs = [.ref l, .int k] ∧ SqL K H l (ns.map V.int) ∧ 0 ≤ k ∧ k < 1000 ∧ NoT H ∧ ∀ p : Addr, H p = none → Q (.ref p) (upd H p (PotO p))
theorem ok_pot0 (F : FnP K "_law_pot" s__law_pot f fd) (T : BltA mg) : FnOk P w K mg base CX0 1 f fd ["_law_script", "_law_k"] (spPot0 K) := by
  refine F.ok sc__law_pot (fun vs H Q E h => ?_) (fun cdv A outer s H vs Q E hr h => ⟨_, PSs.nox 
(pss_cons (ps_set (i := 2) sc__law_pot.nd rfl (.inl rfl) (pe_ifExp (pt_cmpR op_lt (pv 1) (pe_callB call_len_seq (by rfl) T.b_len PySem.boot_len (pa_cons (pv 0) pa_nil)) (nomark _)) (pe_ix ix_list (pv 0) (pv 1) (fun _ _ => rfl)) pe_int))
  (pss_one (ps_ret (pe_lst (pa_cons (pe_callB (call_max2 rfl) (by rfl) T.b_max (by decide +kernel) (pa_cons pe_int (pa_cons (pe_op op_sub (pe_callB call_abs (by rfl) T.b_abs (by decide +kernel) (pa_cons (pv 2) pa_nil)) (pe_op op_pow pe_int pe_int)) pa_nil))) (pa_cons (pe_op op_mod (pe_op op_add (pe_op op_add (pe_op op_mul (pe_op op_mod (pe_callB call_abs (by rfl) T.b_abs (by decide +kernel) (pa_cons (pv 2) pa_nil)) pe_int) pe_int) (pe_op op_mul pe_int (pv 1))) pe_int) pe_int) pa_nil)))))), ?_⟩)
  · obtain ⟨l, ns, k, rfl, _⟩ := h
    rfl
  · obtain ⟨l, ns, k, rfl, hl, hk, hk2, q⟩ := h
    walk_at "ss"
    refine ⟨_, _, rfl, Or.inl hl, ?_⟩
    walk_at "ss"
    have key : ∀ c : Int, (tRet (tLst (tCons (tCB (fun xs H Q => ∃ i j, xs = [V.int i, V.int j] ∧ Q (.int (if j > i then j else i)) H) (tCons (tC (.int 0)) (tCons (tOp (rI0 fun i j => .int (i - j)) (tCB (fun xs H Q => ∃ i, xs = [V.int i] ∧ Q (.int (if i < 0 then -i else i)) H) (tCons (tVar 2) tNil)) (tOp (rI CPow fun i j => .int (i ^ j.toNat)) (tC (.int 10)) (tC (.int 18)))) tNil))) (tCons (tOp (rI (fun _ j => 0 < j) fun i j => .int (i % j)) (tOp (rI0 fun i j => .int (i + j)) (tOp (rI0 fun i j => .int (i + j)) (tOp (rI CMul fun i j => .int (i * j)) (tOp (rI (fun _ j => 0 < j) fun i j => .int (i % j)) (tCB (fun xs H Q => ∃ i, xs = [V.int i] ∧ Q (.int (if i < 0 then -i else i)) H) (tCons (tVar 2) tNil)) (tC (.int 2147483579))) (tC (.int 44021))) (tOp (rI CMul fun i j => .int (i * j)) (tC (.int 6151)) (tVar 1))) (tC (.int 97))) (tC (.int 2147483647))) tNil)))) { nx := fun _ H' => Q .non H', rt := Q } [some (.ref l), some (.int k), some (.int c)] H := by
      intro c
      walk_at "ss"
      refine ⟨_, rfl, ?_⟩
      walk_at "ss"
      refine st_I ⟨by decide, by decide, by decide⟩ ?_
      walk_at "ss"
      refine ⟨_, _, rfl, ?_⟩
      walk_at "ss"
      refine ⟨_, rfl, ?_⟩
      walk_at "ss"
      refine st_I (by show (0 : Int) < 2147483579; decide) ?_
      walk_at "ss"
      refine st_I (Or.inr ⟨by decide, by decide⟩) ?_
      walk_at "ss"
      refine st_I (Or.inl ⟨by decide, by decide⟩) ?_
      walk_at "ss"
      refine st_I (by show (0 : Int) < 2147483647; decide) ?_
      refine ⟨(by show 2 ≤ sizeLine; decide), fun p np => q p _ _ np ?_ (Int.emod_nonneg _ (by decide)) (Int.emod_lt_of_pos _ (by decide))⟩
      split <;> omega
    refine ite2 (fun c => ?_) (fun c => ?_)
    · walk_at "ss"
      have hk3 : k.toNat < ns.length := by
        have c1 := of_decide_eq_true c
        rw [List.length_map] at c1
        omega
      refine st_ixL hl (at_of (j := k.toNat) (v := .int ns[k.toNat]) (by omega) (by rw [List.getElem?_map, List.getElem?_eq_getElem hk3]; rfl)) ?_
      exact key _
    · exact key 0
theorem ok_pot (F : FnP K "_law_pot" s__law_pot f fd) (T : BltA mg) : FnOk P w K mg base CX0 1 f fd ["_law_script", "_law_k"] (spPot K) := by
  refine fn_mkpot (ok_pot0 F T) fun vs H Q E h => ?_
  obtain ⟨l, ns, k, rfl, hl, hk, hk2, nt, q⟩ := h
  refine ⟨l, ns, k, rfl, hl, hk, hk2, fun p a b np ha hb hb2 => ⟨p, a, b, ha, hb, hb2, np, upd_same, upd H p (PotO p), ?_, q p np⟩⟩
  rw [upd_upd]
  exact Fg.one ((Kp.refl (ls := []) H).new np).same nt np upd_same trivial (fun _ => trivial)
end
end K46
namespace K46
open PySem PySem.Spec PyProof.Rows L2 TB
open C8 (Cal pe_c Mak pe_mk Met pe_mt pe_mt0 pss_cut tCut pe_gc)
abbrev s__law_name : Stmt := top 16
theorem sc__law_name : FnScope ["_law_pot_here", "_law_taken", "_law_letters", "_law_size", "_law_word", "_law_k", "_law_letter"] ["_law_pot_here", "_law_taken"] (defScope s__law_name) := ⟨rfl, rfl, rfl, by decide +kernel, rfl, by decide +kernel, by decide +kernel⟩
section
variable {P : Program} {w : World} {K : PySem.W.Frag} {mg : Str → Option Value} {base : Heap} {f : Addr} {fd : FuncData}
/-- a name is drawn that is not among ws, and put behind them -/
def spName : Sp := fun vs H Q _ => ∃ (p l : Addr) (ws : List Str), vs = [.ref p, .ref l] ∧ H p = some (PotO p) ∧ H l = some (.lst (ws.map V.str)) ∧ NoT H ∧ ws.length < 26 ∧
  ∀ z : Str, Nm z → z ∉ ws → Q (.str z) (upd H l (.lst ((ws ++ [z]).map V.str)))
def spName0 : Sp := fun vs H Q _ => ∃ (p l : Addr) (ws : List Str), vs = [.ref p, .ref l] ∧ H p = some (PotO p) ∧ H l = some (.lst (ws.map V.str)) ∧ NoT H ∧ ws.length < 26 ∧
  ∀ (z : Str) (H' : Hp), Nm z → z ∉ ws → Kp [l] H H' → H' l = some (.lst ((ws ++ [z]).map V.str)) → Q (.str z) H'
theorem ok_name0 (F : FnP K "_law_name" s__law_name f fd) (T : BltA mg) (c__law_draw : Cal P w K mg base 1 "_law_draw" spDraw []) : FnOk P w K mg base CX0 2 f fd ["_law_pot_here", "_law_taken"] spName0 := by
  refine F.ok sc__law_name (fun vs H Q E h => ?_) (fun cdv A outer s H vs Q E hr h => ⟨_, PSs.nox 
(pss_cons (ps_set (i := 2) sc__law_name.nd rfl (.inr rfl) pe_str)
  (pss_cons (ps_set (i := 3) sc__law_name.nd rfl (.inl rfl) (pe_ix (ix_listK K) (pe_lst (pa_cons pe_int (pa_cons pe_int (pa_cons pe_int (pa_cons pe_int (pa_cons (pe_op op_add pe_int (pe_c c__law_draw hr (by decide) (by rfl) (pa_cons (pv 0) (pa_cons pe_int pa_nil)))) pa_nil)))))) (pe_c c__law_draw hr (by decide) (by rfl) (pa_cons (pv 0) (pa_cons pe_int pa_nil))) (fun _ _ => rfl)))
  (pss_cons (ps_set (i := 4) sc__law_name.nd rfl (.inl rfl) (pe_joinK K pe_str (pe_lc (own := [("_law_k", 5)]) (tt := tYes) rfl sc__law_name.nd (pi_range1 (by rfl) T.b_range (pa_cons (pv 3) pa_nil)) (blkOk_by (N := ["_law_pot_here", "_law_taken", "_law_letters", "_law_size", "_law_word", "_law_k", "_law_letter"]) (sc := defScope s__law_name) (by decide +kernel)) (fun _ _ _ _ _ => pg_name (i := 5) sc__law_name.nd rfl (Or.inl rfl)) (fun _ _ _ _ _ => pts_nil) (fun _ _ _ _ _ => (pe_ix ix_str (pv 2) (pe_c c__law_draw hr (by decide) (by rfl) (pa_cons (pv 0) (pa_cons pe_int pa_nil))) (fun _ _ => rfl))))))
  (pss_cut (ps_if (pt_cmpR op_eq (pe_c c__law_draw hr (by decide) (by rfl) (pa_cons (pv 0) (pa_cons pe_int pa_nil))) pe_int (nomark _))
    (pss_one (ps_set (i := 4) sc__law_name.nd rfl (.inl rfl) (pe_ix (ix_listK K) (pe_lst (pa_cons pe_str (pa_cons pe_str (pa_cons pe_str (pa_cons pe_str (pa_cons pe_str (pa_cons pe_str (pa_cons pe_str (pa_cons pe_str pa_nil))))))))) (pe_c c__law_draw hr (by decide) (by rfl) (pa_cons (pv 0) (pa_cons pe_int pa_nil))) (fun _ _ => rfl))))
    pss_nil)
  (pss_cut (ps_if (pt_cmpR (op_inK K) (pv 4) (pv 1) rfl)
    (pss_one (ps_set (i := 4) sc__law_name.nd rfl (.inl rfl) (pe_ix (ix_listK K) (pe_lc (own := [("_law_letter", 6)]) rfl sc__law_name.nd (pi_str (pv 2)) (blkOk_by (N := ["_law_pot_here", "_law_taken", "_law_letters", "_law_size", "_law_word", "_law_k", "_law_letter"]) (sc := defScope s__law_name) (by decide +kernel)) (fun _ _ _ _ _ => pg_name (i := 6) sc__law_name.nd rfl (Or.inl rfl)) (fun _ _ _ _ _ => pts_one (pt_cmpR (op_ninK K) (pv 6) (pv 1) rfl)) (fun _ _ _ _ _ => (pv 6))) pe_int (fun _ _ => rfl))))
    pss_nil)
  (pss_cons (ps_expr (kBM K (pe_bm PySem.F.plainAttrs_list PySem.F.slot_list_append PySem.F.type_list_append mt_append (pv 1) (pa_cons (pv 4) pa_nil))))
  (pss_one (ps_ret (pv 4))))))))), ?_⟩)
  · obtain ⟨p, l, ws, rfl, _⟩ := h
    rfl
  · obtain ⟨p, l, ws, rfl, hp, hl, nt, hw, q⟩ := h
    walk_at "ss"
    refine ⟨p, 8, rfl, hp, nt, by decide, by decide, fun d0 h0 h1 => ?_⟩
    walk_at "ss"
    refine ⟨by show 5 ≤ sizeLine; decide, fun l1 n1 => ?_⟩
    walk_at "ss"
    have hp1 := old_upd (o := .lst [.int 1, .int 1, .int 2, .int 8, .int (1 + d0)]) n1 hp
    have hl1 := old_upd (o := .lst [.int 1, .int 1, .int 2, .int 8, .int (1 + d0)]) n1 hl
    have nt1 : NoT (upd H l1 (.lst [.int 1, .int 1, .int 2, .int 8, .int (1 + d0)])) := nt.upd trivial
    have k1 : Kp [l] H (upd H l1 (.lst [.int 1, .int 1, .int 2, .int 8, .int (1 + d0)])) := (Kp.refl H).new n1
    refine ⟨p, 5, rfl, hp1, nt1, by decide, by decide, fun d1 h2 h3 => ?_⟩
    walk_at "ss"
    obtain ⟨sv, hsv, esv⟩ := at_some (xs := [.int 1, .int 1, .int 2, .int 8, .int (1 + d0)]) h2 h3
    refine st_ixL (sqL_of upd_same) esv ?_
    obtain ⟨n, rfl, hn1, hn2⟩ : ∃ n : Nat, sv = .int (n : Int) ∧ 1 ≤ n ∧ n ≤ 8 := by
      simp only [List.mem_cons, List.not_mem_nil, or_false] at hsv
      rcases hsv with rfl | rfl | rfl | rfl | rfl
      · exact ⟨1, rfl, by decide, by decide⟩
      · exact ⟨1, rfl, by decide, by decide⟩
      · exact ⟨2, rfl, by decide, by decide⟩
      · exact ⟨8, rfl, by decide, by decide⟩
      · exact ⟨(1 + d0).toNat, by rw [Int.toNat_of_nonneg (by omega)], by omega, by omega⟩
    generalize hH1 : upd H l1 (.lst [.int 1, .int 1, .int 2, .int 8, .int (1 + d0)]) = H1 at hp1 hl1 nt1 k1 ⊢
    walk_at "ss"
    -- the signs
    walk_at "ss"
    refine ⟨_, rfl, by omega, by omega, ?_⟩
    rw [Int.toNat_natCast]
    refine lc_walk wk_range (fun D i acc H' => ∃ cs : List Nat, acc = cs.map signV ∧ cs.length = i ∧ (∀ c ∈ cs, 97 ≤ c ∧ c ≤ 122) ∧ H' = upd H1 D (.lst acc)) (fun D nD => ⟨[], rfl, rfl, by simp, rfl⟩) (fun _ _ _ _ _ => trivial) ?_ ?_
    · rintro D i x acc H' nD hx ⟨cs, rfl, hi, hc, rfl⟩
      have hi8 : i < 8 := by
        have := (List.getElem?_eq_some_iff.mp hx).1
        rw [List.length_map, List.length_range] at this
        omega
      walk_at "ss"
      refine ⟨rfl, ?_⟩
      walk_at "ss"
      refine iteT ?_
      walk_at "ss"
      refine ⟨p, 26, rfl, old_upd nD hp1, nt1.upd trivial, by decide, by decide, fun d2 h4 h5 => ?_⟩
      obtain ⟨j, hj, rfl, ej⟩ := at_some' (xs := tl "abcdefghijklmnopqrstuvwxyz") h4 (by exact h5)
      refine st_ixS (by decide +kernel) ej ?_
      refine ⟨cs.map signV, upd_same, by rw [List.length_map]; exact small1000 (by omega), (cs ++ [(tl "abcdefghijklmnopqrstuvwxyz")[j]]).map signV, cs ++ [(tl "abcdefghijklmnopqrstuvwxyz")[j]], rfl, by simp [hi], ?_, ?_⟩
      · intro c hcc
        rcases List.mem_append.mp hcc with z | z
        · exact hc c z
        · rw [List.mem_singleton] at z
          subst z
          have all : ∀ c ∈ tl "abcdefghijklmnopqrstuvwxyz", 97 ≤ c ∧ c ≤ 122 := by decide +kernel
          exact all _ (List.getElem_mem hj)
      · rw [upd_upd, List.map_append]
        rfl
    · rintro D acc H' nD ⟨cs, rfl, hi, hc, rfl⟩
      rw [List.length_map, List.length_range] at hi
      have e1 : cs.map signV = (cs.map fun c => (⟨#[c]⟩ : Str)).map V.str := by rw [List.map_map]; rfl
      rw [e1]
      refine st_join (sqL_of upd_same) ?_ ?_
      · exact signs_fit (by omega)
      · walk_at "ss"
        rw [join_signs]
        have nm : Nm ⟨cs.toArray⟩ := ⟨by show 1 ≤ cs.toArray.toList.length; simp; omega, by show cs.toArray.toList.length ≤ 8; simp; omega, fun c hcc => hc c (by simpa [tl] using hcc)⟩
        have k2 : Kp [] H (upd H1 D (.lst ((cs.map fun c => (⟨#[c]⟩ : Str)).map V.str))) := by
          subst hH1
          exact ((Kp.refl H).new n1).new nD
        have nt2 : NoT (upd H1 D (.lst ((cs.map fun c => (⟨#[c]⟩ : Str)).map V.str))) := nt1.upd trivial
        generalize hH2 : upd H1 D (.lst ((cs.map fun c => (⟨#[c]⟩ : Str)).map V.str)) = H2 at k2 nt2 ⊢
        -- one of the words, or not
        refine ⟨fun σ' H' => ∃ z, Nm z ∧ σ' = [some (.ref p), some (.ref l), some (.str "abcdefghijklmnopqrstuvwxyz"), some (.int n), some (.str z), none, none] ∧ Kp [] H H' ∧ NoT H', ?_, ?_⟩
        · walk_at "ss"
          refine ⟨p, 12, rfl, k2.same _ _ hp, nt2, by decide, by decide, fun d3 h6 h7 => ?_⟩
          walk_at "ss"
          refine ite2 (fun c => ?_) (fun c => ?_)
          · walk_at "ss"
            refine ⟨by show 8 ≤ sizeLine; decide, fun l3 n3 => ?_⟩
            walk_at "ss"
            refine ⟨p, 8, rfl, old_upd n3 (k2.same _ _ hp), nt2.upd trivial, by decide, by decide, fun d4 h8 h9 => ?_⟩
            obtain ⟨sv2, hsv2, esv2⟩ := at_some (xs := [.str "take", .str "set", .str "quit", .str "come", .str "lock", .str "task", .str "done", .str "got"]) h8 h9
            refine st_ixL (sqL_of upd_same) esv2 ?_
            obtain ⟨z, rfl, hz⟩ : ∃ z, sv2 = .str z ∧ Nm z := by
              simp only [List.mem_cons, List.not_mem_nil, or_false] at hsv2
              rcases hsv2 with rfl | rfl | rfl | rfl | rfl | rfl | rfl | rfl <;> exact ⟨_, rfl, nm_of (by decide +kernel)⟩
            walk_at "ss"
            exact ⟨z, hz, rfl, k2.new n3, nt2.upd trivial⟩
          · walk_at "ss"
            exact ⟨_, nm, rfl, k2, nt2⟩
        · rintro σ' H3 ⟨z, hz, rfl, k3, nt3⟩
          -- a free letter, where it is taken
          refine ⟨fun σ' H' => ∃ z, Nm z ∧ z ∉ ws ∧ σ' = [some (.ref p), some (.ref l), some (.str "abcdefghijklmnopqrstuvwxyz"), some (.int n), some (.str z), none, none] ∧ Kp [] H H' ∧ NoT H', ?_, ?_⟩
          · walk_at "ss"
            refine st_in (sqL_of (k3.same _ _ hl)) rfl (TB.flat_strs ws) ?_
            walk_at "ss"
            rw [inV_strs]
            refine ite2 (fun c => ?_) (fun c => ?_)
            · walk_at "ss"
              refine ⟨_, rfl, ?_⟩
              refine lc_walk wk_str (fun D i acc H' => acc = ((abc.take i).filter (fun c => !decide ((⟨#[c]⟩ : Str) ∈ ws))).map signV ∧ H' = upd H3 D (.lst acc)) (fun D nD => ⟨rfl, rfl⟩) (fun _ _ _ _ _ => trivial) ?_ ?_
              · rintro D i x acc H' nD hx ⟨rfl, rfl⟩
                obtain ⟨c2, hc2, rfl⟩ : ∃ c2, abc[i]? = some c2 ∧ x = signV c2 := by
                  rw [List.getElem?_map] at hx
                  cases e3 : (tl "abcdefghijklmnopqrstuvwxyz")[i]? with
                  | none =>
                    rw [e3] at hx
                    exact nomatch hx
                  | some c2 =>
                    rw [e3] at hx
                    exact ⟨c2, e3, (Option.some.inj hx).symm⟩
                have et : (abc.take (i + 1)).filter (fun c => !decide ((⟨#[c]⟩ : Str) ∈ ws)) = (abc.take i).filter (fun c => !decide ((⟨#[c]⟩ : Str) ∈ ws)) ++ [c2].filter (fun c => !decide ((⟨#[c]⟩ : Str) ∈ ws)) := by
                  rw [List.take_add_one, hc2, List.filter_append]
                  rfl
                have hlen : (((abc.take i).filter (fun c => !decide ((⟨#[c]⟩ : Str) ∈ ws))).map signV).length < sizeLine := by
                  rw [List.length_map]
                  have l1 := List.length_filter_le (fun c => !decide ((⟨#[c]⟩ : Str) ∈ ws)) (abc.take i)
                  have l2 : (abc.take i).length ≤ abc.length := by rw [List.length_take]; omega
                  have l3 : abc.length = 26 := by decide +kernel
                  exact small1000 (by omega)
                walk_at "ss"
                refine ⟨rfl, ?_⟩
                walk_at "ss"
                refine st_nin (sqL_of (old_upd nD (k3.same _ _ hl))) rfl (TB.flat_strs ws) ?_
                walk_at "ss"
                rw [show signV c2 = V.str ⟨#[c2]⟩ from rfl, inV_strs]
                refine ite2 (fun c3 => ?_) (fun c3 => ?_)
                · walk_at "ss"
                  refine ⟨_, upd_same, hlen, _, rfl, ?_⟩
                  rw [upd_upd, et, show [c2].filter (fun c => !decide ((⟨#[c]⟩ : Str) ∈ ws)) = [c2] from List.filter_cons_of_pos (p := fun c => !decide ((⟨#[c]⟩ : Str) ∈ ws)) c3, List.map_append]
                  rfl
                · refine ⟨_, rfl, ?_⟩
                  rw [et, show [c2].filter (fun c => !decide ((⟨#[c]⟩ : Str) ∈ ws)) = [] from List.filter_cons_of_neg (p := fun c => !decide ((⟨#[c]⟩ : Str) ∈ ws)) c3, List.append_nil]
              · rintro D acc H' nD ⟨rfl, rfl⟩
                obtain ⟨c4, r4, e4, hc4, hn4⟩ := free_letter hw
                have el : abc.take ((tl "abcdefghijklmnopqrstuvwxyz").map signV).length = abc := List.take_of_length_le (by rw [List.length_map]; exact Nat.le_refl _)
                rw [el, e4]
                walk_at "ss"
                refine st_ixL (sqL_of upd_same) (atI_nat (j := 0) rfl) ?_
                walk_at "ss"
                exact ⟨⟨#[c4]⟩, abc_nm hc4, hn4, rfl, k3.new nD, nt3.upd trivial⟩
            · walk_at "ss"
              exact ⟨z, hz, by simpa using c, rfl, k3, nt3⟩
          · rintro σ' H4 ⟨z, hz, hz2, rfl, k4, nt4⟩
            have hl4 := k4.same _ _ hl
            walk_at "ss"
            refine ⟨Or.inl ⟨rfl, _, sqL_of hl4⟩, ?_⟩
            walk_at "ss"
            refine st_append hl4 (by rw [List.length_map]; exact small1000 (by omega)) ?_
            walk_at "ss"
            refine q z _ hz hz2 (fun b o e m => ?_) ?_
            · exact oth_upd (fun z2 => m (by rw [z2]; simp)) (k4.same _ _ e)
            · rw [upd_same, List.map_append]
              rfl
theorem ok_name (F : FnP K "_law_name" s__law_name f fd) (T : BltA mg) (c__law_draw : Cal P w K mg base 1 "_law_draw" spDraw []) : FnOk P w K mg base CX0 2 f fd ["_law_pot_here", "_law_taken"] spName := by
  refine fn_fg (ok_name0 F T c__law_draw) fun vs H Q E h => ?_
  obtain ⟨p, l, ws, rfl, hp, hl, nt, hw, q⟩ := h
  exact ⟨p, l, ws, rfl, hp, hl, nt, hw, fun z H' h1 h2 k e => ⟨_, Fg.mut1 k nt hl e trivial (fun _ => trivial) (fun y => by intro z; cases z), q z h1 h2⟩⟩
end
end K46
namespace K46
open PySem PySem.Spec PyProof.Rows L2 TB LamX NdefX
open C8 (Cal pe_c Mak pe_mk Met pe_mt pe_mt0 pss_cut tCut pe_gc)
abbrev s_Order_locks : Stmt := inClass (top 12) 2
theorem sc_Order_locks : FnScope ["self"] ["self"] (defScope s_Order_locks) := ⟨rfl, rfl, rfl, by decide +kernel, rfl, by decide +kernel, by decide +kernel⟩
section
variable {P : Program} {w : World} {K : PySem.W.Frag} {mg : Str → Option Value} {base : Heap} {f C : Addr} {fd : FuncData}
theorem ok_Order_locks (F : FnM K "locks" "Order.locks" s_Order_locks [] f fd) (T : BltA mg) (oc : OrdC K C) : FnOk P w K mg base CX0 1 f fd ["self"] (spLocks C) := by
  refine F.ok sc_Order_locks (fun vs H Q E h => ?_) (fun cdv A outer s H vs Q E hr h => ⟨_, PSs.nox
(pss_one (ps_ret (pe_callTy (call_listK K) (by rfl) T.b_list (by decide +kernel) (pa_cons (kFld K (pe_fld (pv 0) rfl)) pa_nil))))
, ?_⟩)
  · obtain ⟨x, ls, ps, rfl, _⟩ := h
    rfl
  · obtain ⟨x, ls, ps, rfl, ⟨dx, tl, tp, rs, h1, h2, h3, h4⟩, q⟩ := h
    walk_at "ss"
    refine ⟨x, C, dx, _, _, rfl, h1, oc.cls, oc.nl, rfl, ?_⟩
    walk_at "ss"
    exact ⟨tl, _, rfl, Or.inr h2.sq, q⟩
end
end K46
namespace K46
open PySem PySem.Spec PyProof.Rows L2 TB LamX NdefX
open C8 (Cal pe_c Mak pe_mk Met pe_mt pe_mt0 pss_cut tCut pe_gc)
abbrev s_Life___init__ : Stmt := inClass (top 10) 0
theorem sc_Life___init__ : FnScope ["self", "place", "hand", "drafts", "called"] ["self", "place", "hand", "drafts", "called"] (defScope s_Life___init__) := ⟨rfl, rfl, rfl, by decide +kernel, rfl, by decide +kernel, by decide +kernel⟩
section
variable {P : Program} {w : World} {K : PySem.W.Frag} {mg : Str → Option Value} {base : Heap} {f C : Addr} {fd : FuncData}
theorem ok_Life___init__ {kws : List (Str × V)} (F : FunD K "__init__" "Life.__init__" (defArgs s_Life___init__) (defBody s_Life___init__) (defScope s_Life___init__) [] kws f fd) (lc : LifC K C) : FnOk P w K mg base CX0 1 f fd ["self", "place", "hand", "drafts", "called"] (spLifeI C) := by
  refine F.ok sc_Life___init__ (fun vs H Q E h => ?_) (fun cdv A outer s H vs Q E hr h => ⟨_, PSs.nox
(pss_cons (kSFld K (ps_fld (pv 0) (pv 1) rfl))
  (pss_cons (kSFld K (ps_fld (pv 0) (pv 2) rfl))
  (pss_cons (kSFld K (ps_fld (pv 0) (pv 3) rfl))
  (pss_one (kSFld K (ps_fld (pv 0) (pv 4) rfl))))))
, ?_⟩)
  · obtain ⟨x, dx, v1, v2, v3, v4, rfl, _⟩ := h
    rfl
  · obtain ⟨x, dx, v1, v2, v3, v4, rfl, h1, q⟩ := h
    walk_at "ss"
    refine ⟨x, C, dx, _, rfl, h1, lc.cls, lc.n1, by decide, ?_⟩
    walk_at "ss"
    refine ⟨x, C, dx, _, rfl, upd_same, lc.cls, lc.n2, (by show 1 < 1000; decide), ?_⟩
    walk_at "ss"
    refine ⟨x, C, dx, _, rfl, upd_same, lc.cls, lc.n3, (by show 2 < 1000; decide), ?_⟩
    walk_at "ss"
    refine ⟨x, C, dx, _, rfl, upd_same, lc.cls, lc.n4, (by show 3 < 1000; decide), ?_⟩
    walk_at "ss"
    rw [upd_upd, upd_upd, upd_upd]
    exact q
end
end K46
namespace K46
open PySem PySem.Spec PyProof.Rows L2 TB LamX NdefX L3 OwnE
open C8 (Cal pe_c Mak pe_mk Met pe_mt pe_mt0 pss_cut tCut pe_gc)
abbrev s__law_latches : Stmt := top 19
theorem sc__law_latches : FnScope ["_law_pot_here", "_law_taken", "_law_k"] ["_law_pot_here"] (defScope s__law_latches) := ⟨rfl, rfl, rfl, by decide +kernel, rfl, by decide +kernel, by decide +kernel⟩
section
variable {P : Program} {w : World} {K : PySem.W.Frag} {mg : Str → Option Value} {base : Heap} {f C : Addr} {fd : FuncData} {tb : List (Addr × Str)}
theorem ok__law_latches (F : FnP K "_law_latches" s__law_latches f fd) (T : BltA mg) (c__law_draw : Cal P w K mg base 1 "_law_draw" (lsp ⟨K, tb⟩ none pDraw) []) (c__law_name : Cal P w K mg base 2 "_law_name" (lsp ⟨K, tb⟩ (some 1) pName) []) : FnOk P w K mg base CX0 3 f fd ["_law_pot_here"] (lsp ⟨K, tb⟩ none pLatches) := by
  refine F.ok sc__law_latches (lsp_len (by rintro ds Q3 ⟨rfl, _⟩; rfl)) (fun cdv A outer s H vs Q E hr h => ⟨_, PSs.nox
(pss_cons (toN (ps_set (i := 1) sc__law_latches.nd rfl (.inl rfl) (pe_lst pa_nil)))
  (pss_cons (ps_for PassesOwn.never rfl (pi_range1 (by rfl) T.b_range (pa_cons (pe_ix (ix_listK K) (pe_lst (pa_cons pe_int (pa_cons pe_int (pa_cons pe_int (pa_cons (pe_op op_add pe_int (pe_c c__law_draw hr (by decide) (by rfl) (pa_cons (pv 0) (pa_cons pe_int pa_nil)))) pa_nil))))) (pe_c c__law_draw hr (by decide) (by rfl) (pa_cons (pv 0) (pa_cons pe_int pa_nil))) (fun _ _ => rfl)) pa_nil)) (pg_name (i := 2) sc__law_latches.nd rfl (.inl rfl))
    (pss_one (ps_expr (toIo 1 (pe_c c__law_name hr (by decide) (by rfl) (pa_cons (pv 0) (pa_cons (pv 1) pa_nil)))))))
  (pss_one (ps_ret (pv 1)))))
, run3' ?go h⟩)
  case go =>
    refine ⟨_, (by walk_at "li"), ?_⟩
    rintro ds Q3 ⟨rfl, q⟩
    walk_at "pp"
    refine ⟨Nat.zero_le _, ?_⟩
    walk_at "pp"
    refine ⟨7, rfl, by decide, by decide, fun d0 z1 z2 => ?_⟩
    walk_at "pp"
    refine ⟨(by show 4 ≤ sizeLine; decide), ?_⟩
    walk_at "pp"
    refine ⟨4, rfl, by decide, by decide, fun d d1 d2 => ?_⟩
    walk_at "pp"
    obtain ⟨m, hm, m1, m7⟩ : ∃ m : Int, atI [D.int 7, D.int 1, D.int 3, D.int (1 + d0)] d = some (D.int m) ∧ 1 ≤ m ∧ m ≤ 7 := by
      obtain ⟨k, rfl⟩ := Int.eq_ofNat_of_zero_le d1
      have hk : k < 4 := by omega
      match k, hk with
      | 0, _ => exact ⟨7, atI_nat (j := 0) rfl, by decide, by decide⟩
      | 1, _ => exact ⟨1, atI_nat (j := 1) rfl, by decide, by decide⟩
      | 2, _ => exact ⟨3, atI_nat (j := 2) rfl, by decide, by decide⟩
      | 3, _ => exact ⟨1 + d0, atI_nat (j := 3) rfl, by omega, by omega⟩
    refine w_ixL (d := .int m) hm ?_
    walk_at "pp"
    refine ⟨m, rfl, by omega, by omega, ?_⟩
    have mn : m.toNat ≤ 7 := by omega
    have mp : 1 ≤ m.toNat := by omega
    refine ⟨fun i ρ => ∃ (ws : List Str) (p2 : PV), ws.length = i ∧ i ≤ m.toNat ∧ ws.Nodup ∧ (∀ z ∈ ws, Nm z) ∧ ρ = [.val potD, .own true (strsD ws), p2], ⟨[], _, rfl, Nat.zero_le _, List.nodup_nil, (fun _ z => nomatch z), rfl⟩, ?_⟩
    rintro i ρ ⟨ws, p2, e1, e2, nd, nm, rfl⟩
    refine ⟨fun hn => ?_, fun d hd => ?_⟩
    case refine_2 =>
      have hi : i < m.toNat := by
        have := (List.getElem?_eq_some_iff.mp hd).1
        simpa using this
      walk_at "pp"
      refine ⟨rfl, io_1, ws, rfl, by omega, fun z hz hn => ?_⟩
      walk_at "pp"
      refine ⟨ws ++ [z], _, by rw [List.length_append, e1]; rfl, hi, ?_, ?_, rfl⟩
      · rw [List.nodup_append]
        exact ⟨nd, List.nodup_cons.mpr ⟨by simp, List.nodup_nil⟩, by rintro a ha b hb rfl; exact hn (List.mem_singleton.mp hb ▸ ha)⟩
      · intro y hy
        rcases List.mem_append.mp hy with h | h
        · exact nm y h
        · rw [List.mem_singleton.mp h]
          exact hz
    case refine_1 =>
      have hi : i = m.toNat := by
        have := List.getElem?_eq_none_iff.mp hn
        rw [List.length_map, List.length_range] at this
        omega
      walk_at "pp"
      exact q ws nd nm (by omega) (by omega)
end
end K46
namespace K46
open PySem PySem.Spec PyProof.Rows L2 TB LamX NdefX L3
open C8 (Cal pe_c Mak pe_mk Met pe_mt pe_mt0 pss_cut tCut pe_gc)
abbrev s_height_of : Stmt := top 8
theorem sc_height_of : FnScope ["line", "some", "at", "lock", "found"] ["line", "some"] (defScope s_height_of) := ⟨rfl, rfl, rfl, by decide +kernel, rfl, by decide +kernel, by decide +kernel⟩
section
variable {P : Program} {w : World} {K : PySem.W.Frag} {mg : Str → Option Value} {base : Heap} {f C : Addr} {fd : FuncData} {tb : List (Addr × Str)}
theorem ok_height_of (F : FnP K "height_of" s_height_of f fd) (T : BltA mg) : FnOk P w K mg base CX0 1 f fd ["line", "some"] (lsp ⟨K, tb⟩ none pHeight) := by
  refine F.ok sc_height_of (lsp_len (by rintro ds Q3 ⟨line, so, rfl, _⟩; rfl)) (fun cdv A outer s H vs Q E hr h => ⟨_, PSs.nox
(pss_cons (ps_for PassesOwn.never rfl (kPEn K (pi_enum (by rfl) T.b_enumerate (pa_cons (pv 1) pa_nil))) (kTup K 2 (pg_tup rfl (pgs_cons (pg_name (i := 2) sc_height_of.nd rfl (.inl rfl)) (pgs_cons (pg_name (i := 3) sc_height_of.nd rfl (.inl rfl)) pgs_nil))))
    (pss_one (ps_if (PW.pt (pw_or (pt_cmpR (op_ninK K) (pv 3) (pv 0) rfl) (pw_or1 (pt_cmpR (op_inK K) (pv 3) (pe_slice (sl_listK K) (pv 1) po_none (po_some (pv 2))) rfl))))
        (pss_one ps_never)
        pss_nil)))
  (pss_cons (ps_set (i := 4) sc_height_of.nd rfl (.inl rfl) pe_int)
  (pss_cons (ps_for PassesOwn.never rfl (kPI K (pi_list (pv 0))) (pg_name (i := 3) sc_height_of.nd rfl (.inl rfl))
    (pss_one (ps_set (i := 4) sc_height_of.nd rfl (.inl rfl) (pe_op op_add (pe_op op_mul pe_int (pv 4)) (pe_callTy call_intB (by rfl) T.b_int (by decide +kernel) (pa_cons (pe_cmpR (op_inK K) (pv 3) (pv 1) rfl) pa_nil))))))
  (pss_one (ps_ret (pv 4))))))
, run3' ?go h⟩)
  case go =>
    refine ⟨_, (by walk_at "li"), ?_⟩
    rintro ds Q3 ⟨line, so, rfl, hl, hin, nd, q⟩
    walk_at "pp"
    rw [enum_map]
    refine ⟨fun i ρ => ∃ p2 p3 p4, ρ = [.val (.lst (strsD line)), .val (.lst (strsD so)), p2, p3, p4], ⟨_, _, _, rfl⟩, ?_⟩
    rintro i ρ ⟨p2, p3, p4, rfl⟩
    refine ⟨fun e => ?_, fun d e => ?_⟩
    · walk_at "pp"
      refine ⟨fun i ρ => ∃ p2 p3, ρ = [.val (.lst (strsD line)), .val (.lst (strsD so)), p2, p3, .val (.int (hgt (line.take i) so))], ⟨_, _, rfl⟩, ?_⟩
      rintro i ρ ⟨p2, p3, rfl⟩
      refine ⟨fun e => ?_, fun d e => ?_⟩
      · have hi := List.getElem?_eq_none_iff.mp e
        rw [List.length_map] at hi
        walk_at "pp"
        rw [List.take_of_length_le hi]
        exact q
      · rw [List.getElem?_map] at e
        cases e2 : line[i]? with
        | none => rw [e2] at e; exact nomatch e
        | some z =>
          rw [e2] at e
          obtain rfl := Option.some.inj e
          walk_at "pp"
          refine w_I (Or.inl ⟨by decide, by decide⟩) ?_
          walk_at "pp"
          have e5 : hgt (line.take (i + 1)) so = 2 * hgt (line.take i) so + (if decide (z ∈ so) = true then 1 else 0) := by
            rw [take_next e2]
            unfold hgt
            rw [List.foldl_append]
            simp
          refine ⟨p2, .val (.str z), ?_⟩
          rw [e5]
          rfl
    · rw [List.getElem?_map, List.getElem?_zipIdx, Nat.zero_add] at e
      cases e2 : so[i]? with
      | none => rw [e2] at e; exact nomatch e
      | some z =>
        rw [e2] at e
        obtain rfl := Option.some.inj e
        have hi : i < so.length := (List.getElem?_eq_some_iff.mp e2).1
        walk_at "pp"
        rw [decide_eq_true (hin z (List.mem_of_getElem? e2))]
        refine iteF ?_
        walk_at "pp"
        rw [cut_toD D.str so i (Nat.le_of_lt hi)]
        walk_at "pp"
        have hn : z ∉ so.take i := by
          intro hm
          obtain ⟨k, hk, ek⟩ := List.getElem_of_mem hm
          rw [List.length_take] at hk
          rw [List.getElem_take] at ek
          obtain ⟨hi2, e3⟩ := List.getElem?_eq_some_iff.mp e2
          exact List.pairwise_iff_getElem.mp nd k i (by omega) hi2 (by omega) (ek.trans e3.symm)
        rw [decide_eq_false hn]
        refine iteF ?_
        walk_at "pp"
        exact ⟨_, _, _, rfl⟩
end
end K46
namespace K46
open PySem PySem.Spec PyProof.Rows L2 TB LamX NdefX L3
open C8 (Cal pe_c Mak pe_mk Met pe_mt pe_mt0 pss_cut tCut pe_gc)
abbrev s__law_odd : Stmt := top 18
theorem sc__law_odd : FnScope ["_law_pot_here", "_law_some_here"] ["_law_pot_here"] (defScope s__law_odd) := ⟨rfl, rfl, rfl, by decide +kernel, rfl, by decide +kernel, by decide +kernel⟩
section
variable {P : Program} {w : World} {K : PySem.W.Frag} {mg : Str → Option Value} {base : Heap} {f : Addr} {fd : FuncData} {tb : List (Addr × Str)}
theorem ok__law_odd (F : FnP K "_law_odd" s__law_odd f fd) (T : BltA mg) (c__law_draw : Cal P w K mg base 1 "_law_draw" (lsp ⟨K, tb⟩ none pDraw) []) : FnOk P w K mg base CX0 2 f fd ["_law_pot_here"] (lsp ⟨K, tb⟩ none pOddN) := by
  refine F.ok sc__law_odd (lsp_len (by rintro ds Q3 ⟨rfl, _⟩; rfl)) (fun cdv A outer s H vs Q E hr h => ⟨_, PSs.nox
(pss_cons (ps_set (i := 1) sc__law_odd.nd rfl (.inl rfl) (pe_lst (pa_cons pe_non (pa_cons pe_bl (pa_cons pe_bl (pa_cons pe_int (pa_cons (pe_un un_neg pe_int) (pa_cons pe_int (pa_cons pe_str (pa_cons pe_str (pa_cons pe_str (pa_cons pe_str (pa_cons pe_str (pa_cons pe_str pa_nil))))))))))))))
  (pss_cons (ps_set (i := 1) sc__law_odd.nd rfl (.inl rfl) (pe_op op_cat (pv 1) (pe_lst (pa_cons (pe_lst pa_nil) (pa_cons (pe_lst (pa_cons pe_str pa_nil)) (pa_cons (pe_tup pa_nil) (pa_cons (pe_tup (pa_cons pe_str pa_nil)) (pa_cons pe_dnewK (pa_cons pe_d1 pa_nil)))))))))
  (pss_one (ps_ret (pe_ix (ix_listK K) (pv 1) (pe_c c__law_draw hr (by decide) (by rfl) (pa_cons (pv 0) (pa_cons pe_int pa_nil))) (fun _ _ => rfl))))))
, run3' ?go h⟩)
  case go =>
    refine ⟨_, (by walk_at "li"), ?_⟩
    rintro ds Q3 ⟨rfl, q⟩
    walk_at "pp"
    refine ⟨(by show 12 ≤ sizeLine; decide), ?_⟩
    walk_at "pp"
    refine ⟨(by show 0 ≤ sizeLine; decide), ?_⟩
    walk_at "pp"
    refine ⟨(by show 1 ≤ sizeLine; decide), ?_⟩
    walk_at "pp"
    refine ⟨(by show 0 ≤ sizeLine; decide), ?_⟩
    walk_at "pp"
    refine ⟨(by show 1 ≤ sizeLine; decide), ?_⟩
    walk_at "pp"
    refine ⟨(by show 6 ≤ sizeLine; decide), ?_⟩
    walk_at "pp"
    refine w_catL (by show 18 ≤ sizeLine; decide) ?_
    walk_at "pp"
    refine ⟨18, rfl, by decide, by decide, fun d d0 d1 => ?_⟩
    walk_at "pp"
    have all : ∀ y ∈ ([.non, .bl true, .bl false, .int 0, .int (-1), .int 7, .str "", .str "A", .str "a b", .str "abcdefghi", .str "a1", .str "-", .lst [], .lst [.str "a"], .tup [], .tup [.str "a"], .dic [] [], .dic [.inr "a"] [.int 1]] : List D), Od y := by
      intro y hy
      have sg : ∀ z ∈ (["", "A", "a b", "abcdefghi", "a1", "-", "a"] : List Str), Sg z := fun z hz => by
        have h : ∀ z ∈ (["", "A", "a b", "abcdefghi", "a1", "-", "a"] : List Str), z.length ≤ 100 ∧ (z.cps.toList.all fun c => decide (c < 1114112)) = true := by decide +kernel
        exact sg_lit (h z hz)
      simp only [List.mem_cons, List.not_mem_nil, or_false] at hy
      rcases hy with rfl | rfl | rfl | rfl | rfl | rfl | rfl | rfl | rfl | rfl | rfl | rfl | rfl | rfl | rfl | rfl | rfl | rfl
      · exact .it .non
      · exact .it .bl
      · exact .it .bl
      · exact .it (.int (by decide))
      · exact .it (.int (by decide))
      · exact .it (.int (by decide))
      · exact .it (.str (sg _ (by simp)))
      · exact .it (.str (sg _ (by simp)))
      · exact .it (.str (sg _ (by simp)))
      · exact .it (.str (sg _ (by simp)))
      · exact .it (.str (sg _ (by simp)))
      · exact .it (.str (sg _ (by simp)))
      · exact .it (.lst (ws := []) (by decide) (fun _ z => nomatch z))
      · exact .it (.lst (ws := ["a"]) (by decide) (fun z hz => by rw [List.mem_singleton.mp hz]; exact sg _ (by simp)))
      · exact .it (.tup (ws := []) (by decide) (fun _ z => nomatch z))
      · exact .it (.tup (ws := ["a"]) (by decide) (fun z hz => by rw [List.mem_singleton.mp hz]; exact sg _ (by simp)))
      · exact .it .dic
      · exact .dic
    obtain ⟨j, hj, rfl, ej⟩ := at_map id (xs := [D.non, .bl true, .bl false, .int 0, .int (-1), .int 7, .str "", .str "A", .str "a b", .str "abcdefghi", .str "a1", .str "-", .lst [], .lst [.str "a"], .tup [], .tup [.str "a"], .dic [] [], .dic [.inr "a"] [.int 1]]) d0 d1
    refine w_ixL ej ?_
    walk_at "pp"
    have no : ∀ z ∈ (["", "A", "a b", "abcdefghi", "a1", "-"] : List Str), ¬ Nm z := by
      unfold Nm
      decide +kernel
    have all2 : ∀ y ∈ ([.non, .bl true, .bl false, .int 0, .int (-1), .int 7, .str "", .str "A", .str "a b", .str "abcdefghi", .str "a1", .str "-", .lst [], .lst [.str "a"], .tup [], .tup [.str "a"], .dic [] [], .dic [.inr "a"] [.int 1]] : List D), ∀ z, y = .str z → ¬ Nm z := by
      intro y hy z e
      subst e
      refine no z ?_
      simp only [List.mem_cons, List.not_mem_nil, or_false, D.str.injEq, reduceCtorEq, false_or] at hy ⊢
      exact hy
    exact q _ (all _ (List.getElem_mem hj)) (all2 _ (List.getElem_mem hj))
end
end K46
namespace K46
open PySem PySem.Spec PyProof.Rows L2 TB LamX NdefX L3
open C8 (Cal pe_c Mak pe_mk Met pe_mt pe_mt0 pss_cut tCut pe_gc)
abbrev s__law_number : Stmt := top 17
theorem sc__law_number : FnScope ["_law_pot_here", "_law_far"] ["_law_pot_here"] (defScope s__law_number) := ⟨rfl, rfl, rfl, by decide +kernel, rfl, by decide +kernel, by decide +kernel⟩
section
variable {P : Program} {w : World} {K : PySem.W.Frag} {mg : Str → Option Value} {base : Heap} {f : Addr} {fd : FuncData} {tb : List (Addr × Str)}
theorem ok__law_number (F : FnP K "_law_number" s__law_number f fd) (T : BltA mg) (c__law_draw : Cal P w K mg base 1 "_law_draw" (lsp ⟨K, tb⟩ none pDraw) []) : FnOk P w K mg base CX0 2 f fd ["_law_pot_here"] (lsp ⟨K, tb⟩ none pNumber) := by
  refine F.ok sc__law_number (lsp_len (by rintro ds Q3 ⟨rfl, _⟩; rfl)) (fun cdv A outer s H vs Q E hr h => ⟨_, PSs.nox
(pss_cons (ps_set (i := 1) sc__law_number.nd rfl (.inl rfl) (pe_op op_sub (pe_c c__law_draw hr (by decide) (by rfl) (pa_cons (pv 0) (pa_cons (pe_op op_add (pe_op op_mul pe_int (pe_op op_pow pe_int pe_int)) pe_int) pa_nil))) (pe_op op_pow pe_int pe_int)))
  (pss_one (ps_ret (pe_ix (ix_listK K) (pe_lst (pa_cons (pe_c c__law_draw hr (by decide) (by rfl) (pa_cons (pv 0) (pa_cons pe_int pa_nil))) (pa_cons (pe_op op_sub (pe_c c__law_draw hr (by decide) (by rfl) (pa_cons (pv 0) (pa_cons pe_int pa_nil))) pe_int) (pa_cons (pe_op op_sub (pe_c c__law_draw hr (by decide) (by rfl) (pa_cons (pv 0) (pa_cons pe_int pa_nil))) pe_int) (pa_cons (pv 1) pa_nil))))) (pe_c c__law_draw hr (by decide) (by rfl) (pa_cons (pv 0) (pa_cons pe_int pa_nil))) (fun _ _ => rfl)))))
, run3' ?go h⟩)
  case go =>
    refine ⟨_, (by walk_at "li"), ?_⟩
    rintro ds Q3 ⟨rfl, q⟩
    walk_at "pp"
    refine ⟨10, 18, rfl, rfl, ⟨by decide, by decide, by decide⟩, ?_⟩
    walk_at "pp"
    refine ⟨2, _, rfl, rfl, Or.inl ⟨by decide, by decide⟩, ?_⟩
    walk_at "pp"
    refine ⟨_, rfl, by decide, by decide, fun d0 a1 a2 => ?_⟩
    walk_at "pp"
    refine ⟨10, 18, rfl, rfl, ⟨by decide, by decide, by decide⟩, ?_⟩
    walk_at "pp"
    refine ⟨3, rfl, by decide, by decide, fun d1 b1 b2 => ?_⟩
    walk_at "pp"
    refine ⟨3, rfl, by decide, by decide, fun d2 c1 c2 => ?_⟩
    walk_at "pp"
    refine ⟨2001, rfl, by decide, by decide, fun d3 e1 e2 => ?_⟩
    walk_at "pp"
    refine ⟨(by show 4 ≤ sizeLine; decide), ?_⟩
    walk_at "pp"
    refine ⟨4, rfl, by decide, by decide, fun d4 f1 f2 => ?_⟩
    walk_at "pp"
    have e18 : ((10 : Int) ^ (18 : Int).toNat) = 1000000000000000000 := by decide
    have e18' : ((10 : Int) ^ 18) = 1000000000000000000 := by decide
    rw [e18] at a2 ⊢
    obtain ⟨j, hj, rfl, ej⟩ := at_map D.int (xs := [d1, d2 - 1, d3 - 1000, d0 - 1000000000000000000]) f1 f2
    refine w_ixL ej ?_
    walk_at "pp"
    have hm := List.getElem_mem hj
    refine q _ ?_ ?_
    all_goals
      rw [e18']
      generalize [d1, d2 - 1, d3 - 1000, d0 - 1000000000000000000][j] = y at hm
      simp only [List.mem_cons, List.not_mem_nil, or_false] at hm
      omega
end
end K46
namespace K46
open PySem PySem.Spec PyProof.Rows L2 TB LamX NdefX L3 L4
open C8 (Cal pe_c Mak pe_mk Met pe_mt pe_mt0 pss_cut tCut pe_gc)
abbrev s__law_strange : Stmt := top 24
theorem sc__law_strange : FnScope ["_law_pot_here", "_law_latches_here", "_law_some_here"] ["_law_pot_here", "_law_latches_here"] (defScope s__law_strange) := ⟨rfl, rfl, rfl, by decide +kernel, rfl, by decide +kernel, by decide +kernel⟩
section
variable {P : Program} {w : World} {K : PySem.W.Frag} {mg : Str → Option Value} {base : Heap} {f : Addr} {fd : FuncData} {tb : List (Addr × Str)}
theorem ok__law_strange (F : FnP K "_law_strange" s__law_strange f fd) (T : BltA mg) (c__law_draw : Cal P w K mg base 1 "_law_draw" (lsp ⟨K, tb⟩ none pDraw) []) (c__law_odd : Cal P w K mg base 2 "_law_odd" (lsp ⟨K, tb⟩ none pOddN) []) : FnOk P w K mg base CX0 3 f fd ["_law_pot_here", "_law_latches_here"] (lsp ⟨K, tb⟩ none pStr46) := by
  refine F.ok sc__law_strange (lsp_len (by rintro ds Q3 ⟨ws, rfl, _⟩; rfl)) (fun cdv A outer s H vs Q E hr h => ⟨_, PSs.nox
(pss_cons (ps_set (i := 2) sc__law_strange.nd rfl (.inl rfl) (pe_lst (pa_cons (pe_c c__law_odd hr (by decide) (by rfl) (pa_cons (pv 0) pa_nil)) (pa_cons (pe_op op_catS (pe_ix (ix_listK K) (pv 1) pe_int (fun _ _ => rfl)) (pe_op op_mulS pe_str pe_int)) (pa_cons (pe_lst (pa_cons (pe_ix (ix_listK K) (pv 1) pe_int (fun _ _ => rfl)) pa_nil)) (pa_cons (pe_tup (pa_cons (pe_ix (ix_listK K) (pv 1) pe_int (fun _ _ => rfl)) pa_nil)) (pa_cons (pe_upperK (pe_ix (ix_listK K) (pv 1) (pe_un un_neg pe_int) (fun _ _ => rfl))) pa_nil)))))))
  (pss_one (ps_ret (pe_ix (ix_listK K) (pv 2) (pe_c c__law_draw hr (by decide) (by rfl) (pa_cons (pv 0) (pa_cons pe_int pa_nil))) (fun _ _ => rfl)))))
, run3' ?go h⟩)
  case go =>
    refine ⟨_, (by walk_at "li"), ?_⟩
    rintro ds Q3 ⟨ws, rfl, ok, q⟩
    walk_at "pp"
    refine ⟨rfl, fun d0 od0 nn0 => ?_⟩
    walk_at "pp"
    obtain ⟨ndw, nmw, w1, w7⟩ := ok
    obtain ⟨z0, hz0, ez0⟩ : ∃ z0, z0 ∈ ws ∧ atI (strsD ws) 0 = some (.str z0) := ⟨ws[0], List.getElem_mem (by omega), atI_nat (j := 0) (by rw [strsD, List.getElem?_map, List.getElem?_eq_getElem (by omega)]; rfl)⟩
    refine w_ixL ez0 ?_
    walk_at "pp"
    refine w_mulS (by decide +kernel) (by decide) (by decide) ?_
    walk_at "pp"
    refine w_catS ?_ ?_
    · have h8 := (nm_cz (nmw z0 hz0)).1
      rw [show (Txt.mul "a" 8).length = 8 by decide +kernel]
      exact Nat.le_trans (Nat.add_le_add_right h8 8) (by decide)
    walk_at "pp"
    refine w_ixL ez0 ?_
    walk_at "pp"
    refine ⟨(by show 1 ≤ sizeLine; decide), ?_⟩
    walk_at "pp"
    refine w_ixL ez0 ?_
    walk_at "pp"
    refine ⟨(by show 1 ≤ sizeLine; decide), ?_⟩
    walk_at "pp"
    obtain ⟨z1, hz1, ez1⟩ : ∃ z1, z1 ∈ ws ∧ atI (strsD ws) (-1) = some (.str z1) := by
      rcases List.eq_nil_or_concat ws with h | ⟨a, b, h⟩
      · rw [h] at w1; exact absurd w1 (by decide)
      · refine ⟨b, by rw [h, List.concat_eq_append]; exact List.mem_append_right _ (List.mem_singleton.mpr rfl), ?_⟩
        rw [h, List.concat_eq_append, strsD, List.map_append]
        exact atI_last _ _
    refine w_ixL ez1 ?_
    walk_at "pp"
    refine ⟨z1, rfl, Nat.le_trans (nm_cz (nmw z1 hz1)).1 (by decide), ?_⟩
    walk_at "pp"
    refine ⟨(by show 5 ≤ sizeLine; decide), ?_⟩
    walk_at "pp"
    refine ⟨5, rfl, by decide, by decide, fun k k0 k1 => ?_⟩
    walk_at "pp"
    obtain ⟨d, ed, hd⟩ := at_odd (ds := [d0, .str (z0 ++ Txt.mul "a" 8), .lst [.str z0], .tup [.str z0], .str (Txt.upper z1)]) k0 k1
    refine w_ixL ed ?_
    walk_at "pp"
    exact q d (strange46 nmw hz0 hz1 od0 nn0 d hd)
end
end K46
namespace K46
open PySem PySem.Spec PyProof.Rows L2 TB LamX NdefX L3 L4
open C8 (Cal pe_c Mak pe_mk Met pe_mt pe_mt0 pss_cut tCut pe_gc)
abbrev s__law_first_wrong : Stmt := top 25
theorem sc__law_first_wrong : FnScope ["_law_line", "_law_some_here", "_law_k", "_law_latch"] ["_law_line", "_law_some_here"] (defScope s__law_first_wrong) := ⟨rfl, rfl, rfl, by decide +kernel, rfl, by decide +kernel, by decide +kernel⟩
section
variable {P : Program} {w : World} {K : PySem.W.Frag} {mg : Str → Option Value} {base : Heap} {f : Addr} {fd : FuncData} {tb : List (Addr × Str)}
theorem ok__law_first_wrong (F : FnP K "_law_first_wrong" s__law_first_wrong f fd) (T : BltA mg) : FnOk P w K mg base CX0 1 f fd ["_law_line", "_law_some_here"] (lsp ⟨K, tb⟩ none pFw46) := by
  refine F.ok sc__law_first_wrong (lsp_len (by rintro ds Q3 ⟨ls, es, rfl, _⟩; rfl)) (fun cdv A outer s H vs Q E hr h => ⟨_, PSs.nox
(pss_cons (ps_for PassesOwn.never rfl (kPEn K (pi_enum (by rfl) T.b_enumerate (pa_cons (pv 1) pa_nil))) (kTup K 2 (pg_tup rfl (pgs_cons (pg_name (i := 2) sc__law_first_wrong.nd rfl (.inl rfl)) (pgs_cons (pg_name (i := 3) sc__law_first_wrong.nd rfl (.inl rfl)) pgs_nil))))
    (pss_one (ps_if (PW.pt (pw_or (pt_cmpR (kNotInX K (hu65 hr)) (pv 3) (pv 0) rfl) (pw_or1 (pt_cmpR (kInX K (hu65 hr)) (pv 3) (pe_slice (sl_listK K) (pv 1) po_none (po_some (pv 2))) rfl))))
        (pss_one (ps_ret (pe_lst (pa_cons (pv 3) pa_nil))))
        pss_nil)))
  (pss_one (ps_ret (pe_lst pa_nil))))
, run3' ?go h⟩)
  case go =>
    refine ⟨_, (by walk_at "li"), ?_⟩
    rintro ds Q3 ⟨ls, es, rfl, nmL, odE, lenE, q⟩
    walk_at "pp"
    rcases q with ⟨zs, rfl, nd, hz, q⟩ | ⟨d, ⟨zs, rest, rfl, nd, hz, bad, dl⟩, q⟩
    · refine ⟨fun i ρ => ∃ p2 p3, ρ = [.val (.lst (strsD ls)), .val (.lst (strsD zs)), p2, p3], ⟨_, _, rfl⟩, ?_⟩
      rintro i ρ ⟨p2, p3, rfl⟩
      refine ⟨fun e => ?_, fun x e => ?_⟩
      · walk_at "pp"
        refine ⟨Nat.zero_le _, ?_⟩
        walk_at "pp"
        exact q
      · obtain ⟨y, hy, rfl⟩ := enum_at (enc := fun d : D => d) e
        refine w_gtup (ds := [.int (i : Int), y]) rfl ?_
        walk_at "pp"
        rw [strsD, List.getElem?_map] at hy
        obtain ⟨z, hz1, rfl⟩ := Option.map_eq_some_iff.mp hy
        have hzm := List.mem_of_getElem? hz1
        have hl : i < zs.length := (List.getElem?_eq_some_iff.mp hz1).1
        refine w_ninOd (odE _ (List.mem_map_of_mem hzm)) nmL ?_
        rw [show inB (.str z) ls = true from decide_eq_true (hz z hzm)]
        walk_at "pp"
        have cp := cut_pre (zs := zs) (r := []) (Nat.le_of_lt hl)
        rw [List.append_nil] at cp
        rw [cp]
        refine w_yinOd (odE _ (List.mem_map_of_mem hzm)) (fun u hu => nmL u (hz u (List.mem_of_mem_take hu))) ?_
        rw [show inB (.str z) (zs.take i) = false from decide_eq_false (nodup_at nd hz1)]
        walk_at "pp"
        exact ⟨_, _, rfl⟩
    · have len : (strsD zs).length = zs.length := List.length_map _
      refine ⟨fun i ρ => i ≤ zs.length ∧ ∃ p2 p3, ρ = [.val (.lst (strsD ls)), .val (.lst (strsD zs ++ d :: rest)), p2, p3], ⟨Nat.zero_le _, _, _, rfl⟩, ?_⟩
      rintro i ρ ⟨hi, p2, p3, rfl⟩
      refine ⟨fun e => ?_, fun x e => ?_⟩
      · exfalso
        have := List.getElem?_eq_none_iff.mp e
        simp at this
        omega
      · obtain ⟨y, hy, rfl⟩ := enum_at (enc := fun d : D => d) e
        refine w_gtup (ds := [.int (i : Int), y]) rfl ?_
        walk_at "pp"
        have od := odE y (List.mem_of_getElem? hy)
        by_cases hl : i < zs.length
        · obtain ⟨z, hz1⟩ : ∃ z, zs[i]? = some z := ⟨_, List.getElem?_eq_getElem hl⟩
          have hy1 : y = .str z := by
            rw [List.getElem?_append_left (by omega)] at hy
            rw [strsD, List.getElem?_map, hz1] at hy
            exact (Option.some.inj hy).symm
          subst hy1
          have hzt := hz z (List.mem_of_getElem? hz1)
          refine w_ninOd od nmL ?_
          rw [show inB (.str z) ls = true from decide_eq_true hzt]
          walk_at "pp"
          rw [cut_pre (Nat.le_of_lt hl)]
          refine w_yinOd od (fun u hu => nmL u (hz u (List.mem_of_mem_take hu))) ?_
          rw [show inB (.str z) (zs.take i) = false from decide_eq_false (nodup_at nd hz1)]
          walk_at "pp"
          exact ⟨hl, _, _, rfl⟩
        · have hi2 : i = zs.length := by omega
          have hy1 : y = d := by
            rw [List.getElem?_append_right (by omega), hi2, len, Nat.sub_self] at hy
            exact (Option.some.inj hy).symm
          subst hy1
          refine w_ninOd od nmL ?_
          cases hb : inB y ls with
          | false =>
            walk_at "pp"
            refine ⟨(by show 1 ≤ sizeLine; decide), ?_⟩
            walk_at "pp"
            exact q
          | true =>
            walk_at "pp"
            rw [hi2, cut_pre (Nat.le_refl _), List.take_length]
            refine w_yinOd od (fun u hu => nmL u (hz u hu)) ?_
            have hb2 : inB y zs = true := by
              rcases bad with h | ⟨z, h, rfl⟩
              · rw [inB_no h] at hb; exact nomatch hb
              · exact decide_eq_true h
            rw [hb2]
            walk_at "pp"
            refine ⟨(by show 1 ≤ sizeLine; decide), ?_⟩
            walk_at "pp"
            exact q
end
end K46
namespace K46
open PySem PySem.Spec PyProof.Rows L2 TB LamX NdefX L3 L4
open C8 (Cal pe_c Mak pe_mk Met pe_mt pe_mt0 pss_cut tCut pe_gc)
abbrev s__law_some : Stmt := top 21
theorem sc__law_some : FnScope ["_law_pot_here", "_law_latches_here", "_law_left", "_law_found", "_law_k"] ["_law_pot_here", "_law_latches_here"] (defScope s__law_some) := ⟨rfl, rfl, rfl, by decide +kernel, rfl, by decide +kernel, by decide +kernel⟩
section
variable {P : Program} {w : World} {K : PySem.W.Frag} {mg : Str → Option Value} {base : Heap} {f : Addr} {fd : FuncData} {tb : List (Addr × Str)}
theorem ok__law_some (F : FnP K "_law_some" s__law_some f fd) (T : BltA mg) (c__law_draw : Cal P w K mg base 1 "_law_draw" (lsp ⟨K, tb⟩ none pDraw) []) : FnOk P w K mg base CX0 2 f fd ["_law_pot_here", "_law_latches_here"] (lsp ⟨K, tb⟩ none pSome46) := by
  refine F.ok sc__law_some (lsp_len (by rintro ds Q3 ⟨ws, rfl, _⟩; rfl)) (fun cdv A outer s H vs Q E hr h => ⟨_, PSs.nox
(pss_cons (toNN (ps_par (i := 2) (j := 3) rfl sc__law_some.nd rfl rfl (by decide) rfl rfl (pa_cons (pe_callTy (call_listK K) (by rfl) T.b_list (by decide +kernel) (pa_cons (pv 1) pa_nil)) (pa_cons (pe_lst pa_nil) pa_nil)) rfl))
  (pss_cons (ps_for PassesOwn.never rfl (pi_range1 (by rfl) T.b_range (pa_cons (pe_c c__law_draw hr (by decide) (by rfl) (pa_cons (pv 0) (pa_cons (pe_op op_add (pe_callB (call_lenK K) (by rfl) T.b_len PySem.boot_len (pa_cons (pv 1) pa_nil)) pe_int) pa_nil))) pa_nil)) (pg_name (i := 4) sc__law_some.nd rfl (.inl rfl))
    (pss_one (ps_expr (kBM K (pe_bm PySem.F.plainAttrs_list PySem.F.slot_list_append PySem.F.type_list_append mt_append (pv 3) (pa_cons (kBM K (pe_bm PySem.F.plainAttrs_list PySem.F.slot_list_pop PySem.F.type_list_pop mt_popAt (pv 2) (pa_cons (pe_c c__law_draw hr (by decide) (by rfl) (pa_cons (pv 0) (pa_cons (pe_callB (call_lenK K) (by rfl) T.b_len PySem.boot_len (pa_cons (pv 2) pa_nil)) pa_nil))) pa_nil))) pa_nil))))))
  (pss_one (ps_ret (pv 3)))))
, run3' ?go h⟩)
  case go =>
    refine ⟨_, (by walk_at "li"), ?_⟩
    rintro ds Q3 ⟨ws, rfl, ok, q⟩
    walk_at "pp"
    refine ⟨Nat.zero_le _, ?_⟩
    obtain ⟨ndw, nmw, w1, w7⟩ := ok
    have hsl : (strsD ws).length = ws.length := List.length_map _
    walk_at "pp"
    rw [hsl]
    refine ⟨_, rfl, by omega, by omega, fun m m0 m1 => ?_⟩
    walk_at "pp"
    refine ⟨m, rfl, by omega, by omega, ?_⟩
    refine ⟨fun i ρ => ∃ (left zs : List Str) (p6 : PV), (zs ++ left).Perm ws ∧ zs.length = i ∧ ρ = [.val potD, .val (.lst (strsD ws)), .own true (strsD left), .own true (strsD zs), p6], ⟨ws, [], _, List.Perm.refl _, rfl, rfl⟩, ?_⟩
    rintro i ρ ⟨left, zs, p6, pm, zi, rfl⟩
    have ll : zs.length + left.length = ws.length := by rw [← List.length_append]; exact pm.length_eq
    refine ⟨fun e => ?_, fun d e => ?_⟩
    · walk_at "pp"
      have nd : (zs ++ left).Nodup := pm.nodup_iff.mpr ndw
      exact q zs (nd.sublist (List.sublist_append_left _ _)) fun z hz => pm.mem_iff.mp (List.mem_append_left _ hz)
    · obtain ⟨hi, rfl⟩ := range_at e
      have h0 : 0 < left.length := by omega
      have hll : (strsD left).length = left.length := List.length_map _
      walk_at "pp"
      rw [hll]
      refine ⟨_, rfl, by omega, by omega, fun j j0 j1 => ?_⟩
      walk_at "pp"
      obtain ⟨j, rfl⟩ : ∃ j' : Nat, j = (j' : Int) := ⟨j.toNat, by omega⟩
      have hj : j < left.length := by omega
      refine ⟨(j : Int), j, .str left[j], rfl, by omega, by omega, seq_at (by rw [hll]; exact hj), (by rw [strsD, List.getElem?_map, List.getElem?_eq_getElem hj]; rfl), ?_⟩
      walk_at "pp"
      refine ⟨(by show (strsD zs).length < sizeLine; exact szL (by rw [strsD, List.length_map]; omega)), ?_⟩
      refine ⟨left.eraseIdx j, zs ++ [left[j]], _, ?_, by rw [List.length_append, zi]; rfl, by rw [show (strsD left).eraseIdx j = strsD (left.eraseIdx j) from TB.erase_map D.str left j, ← strs_snoc]; rfl⟩
      rw [List.append_assoc]
      exact ((erase_perm hj).append_left zs).trans pm
end
end K46
namespace K46
open PySem PySem.Spec PyProof.Rows L2 TB LamX NdefX L3 L4
open C8 (Cal pe_c Mak pe_mk Met pe_mt pe_mt0 pss_cut tCut pe_gc)
abbrev s__law_life : Stmt := top 22
theorem sc__law_life : FnScope ["_law_pot_here", "_law_latches_here", "_law_own", "_law_latch"] ["_law_pot_here", "_law_latches_here"] (defScope s__law_life) := ⟨rfl, rfl, rfl, by decide +kernel, rfl, by decide +kernel, by decide +kernel⟩
section
variable {P : Program} {w : World} {K : PySem.W.Frag} {mg : Str → Option Value} {base : Heap} {f C : Addr} {fd : FuncData} {tb : List (Addr × Str)}
theorem ok__law_life {gV : List V → List V → List V} {g3 : List D → Option (List D)} (hg : GLif K 3 gV g3) (hg3 : ∀ a b c, ∃ z, g3 [a, b, c] = some [a, b, z, c]) (F : FnP K "_law_life" s__law_life f fd) (T : BltA mg) (c__law_draw : Cal P w K mg base 1 "_law_draw" (lsp ⟨K, tb⟩ none pDraw) []) (c__law_number : Cal P w K mg base 2 "_law_number" (lsp ⟨K, tb⟩ none pNumber) []) (m_Life_phc : MakK P w K mg base 1 "Life" C (spLifeI C) ["place", "hand", "called"] gV) : FnOk P w K mg base CX0 3 f fd ["_law_pot_here", "_law_latches_here"] (lsp ⟨K, tb⟩ none pLif46) := by
  refine F.ok sc__law_life (lsp_len (by rintro ds Q3 ⟨ws, rfl, _⟩; rfl)) (fun cdv A outer s H vs Q E hr h => ⟨_, PSs.nox
(pss_cons (ps_setLc (i := 2) (own := [("_law_latch", 3)]) rfl sc__law_life.nd rfl rfl (sw_true rfl rfl rfl (by decide +kernel)) (kPI K (pi_list (pv 1))) (blkOk_by (N := ["_law_pot_here", "_law_latches_here", "_law_own", "_law_latch"]) (sc := defScope s__law_life) (by decide +kernel)) (fun _ _ _ _ _ => pg_name (i := 3) sc__law_life.nd rfl (Or.inl rfl)) (fun _ _ _ _ _ => pts_one (pt_cmpR op_eq (pe_c c__law_draw hr (by decide) (by rfl) (pa_cons (pv 0) (pa_cons pe_int pa_nil))) pe_int (nomark _))) (fun _ _ _ _ _ => (pv 3)))
  (pss_one (ps_ret (pe_mkK m_Life_phc hr (by decide) (by rfl) (pk_cons (pe_c c__law_draw hr (by decide) (by rfl) (pa_cons (pv 0) (pa_cons pe_int pa_nil))) (pk_cons (pe_c c__law_number hr (by decide) (by rfl) (pa_cons (pv 0) pa_nil)) (pk_cons (pe_callTy (call_tupK K) (by rfl) T.b_tuple (by decide +kernel) (pa_cons (pv 2) pa_nil)) pk_nil)))))))
, run3' ?go h⟩)
  case go =>
    refine ⟨_, (by walk_at "li"), ?_⟩
    rintro ds Q3 ⟨ws, rfl, ok, q⟩
    walk_at "pp"
    obtain ⟨ndw, nmw, w1, w7⟩ := ok
    have hsl : (strsD ws).length = ws.length := List.length_map _
    refine ⟨fun i acc ρ => acc.length ≤ i ∧ i ≤ ws.length ∧ (∃ zs, acc = strsD zs) ∧ ρ = [.val potD, .val (.lst (strsD ws)), .un, .un], ⟨Nat.le_refl _, Nat.zero_le _, ⟨[], rfl⟩, rfl⟩, ?_⟩
    rintro i acc ρ ⟨h1, h2, ⟨zs, rfl⟩, rfl⟩
    refine ⟨fun e => ?_, fun d e => ?_⟩
    · walk_at "pp"
      refine ⟨13, rfl, by decide, by decide, fun pl p0 p1 => ?_⟩
      walk_at "pp"
      refine ⟨rfl, fun hn n0 n1 => ?_⟩
      walk_at "pp"
      obtain ⟨z, ez⟩ := hg3 (.int pl) (.int hn) (.tup (strsD zs))
      refine ⟨[.int pl, .int hn, .tup (strsD zs)], _, _, _, _, rfl, ez, ?_⟩
      walk_at "pp"
      exact q _
    · have hi : i < ws.length := by
        have := (List.getElem?_eq_some_iff.mp e).1
        omega
      rw [strsD, List.getElem?_map] at e
      obtain ⟨z, hz, rfl⟩ := Option.map_eq_some_iff.mp e
      walk_at "pp"
      refine ⟨3, rfl, by decide, by decide, fun k k0 k1 => ?_⟩
      walk_at "pp"
      have lz : (strsD zs).length < sizeLine := szL (by omega)
      by_cases c : k = 0
      · rw [decide_eq_true c]
        refine iteT ?_
        walk_at "pp"
        exact ⟨lz, by rw [List.length_append]; show (strsD zs).length + 1 ≤ _; omega, hi, ⟨zs ++ [z], strs_snoc _ _⟩, rfl⟩
      · rw [decide_eq_false c]
        refine iteF ?_
        exact ⟨by omega, hi, ⟨zs, rfl⟩, rfl⟩
end
end K46
namespace K46
open PySem PySem.Spec PyProof.Rows L2 TB LamX NdefX L3 L4
open C8 (Cal pe_c Mak pe_mk Met pe_mt pe_mt0 pss_cut tCut pe_gc)
abbrev s__law_order_of : Stmt := top 20
theorem sc__law_order_of : FnScope ["_law_pot_here", "_law_latches_here", "_law_line", "_law_left", "_law_k", "_law_made", "_law_pairs", "_law_low", "_law_high"] ["_law_pot_here", "_law_latches_here"] (defScope s__law_order_of) := ⟨rfl, rfl, rfl, by decide +kernel, rfl, by decide +kernel, by decide +kernel⟩
section
variable {P : Program} {w : World} {K : PySem.W.Frag} {mg : Str → Option Value} {base : Heap} {f C dO : Addr} {fd : FuncData} {tb : List (Addr × Str)}
theorem ok__law_order_of (hd : ∀ H, SqT K H dO []) (F : FnP K "_law_order_of" s__law_order_of f fd) (T : BltA mg) (c__law_draw : Cal P w K mg base 1 "_law_draw" (lsp ⟨K, tb⟩ none pDraw) []) (m_Order : Mak P w K mg base 1 "Order" C (spInit K C) [.ref dO]) (m_Order_added : Met P w K mg base 5 C "added" (lsp ⟨K, tb⟩ none (pAdded C)) []) : FnOk P w K mg base CX0 6 f fd ["_law_pot_here", "_law_latches_here"] (lsp4 ⟨K, tb⟩ (pOrd46 C)) := by
  refine F.ok sc__law_order_of (lsp4_len (by rintro xs μ Q4 X4 ⟨ws, rfl, _⟩; rfl)) (fun cdv A outer s H vs Q E hr h => ⟨_, PSs.nox
(pss_cons (ps_par (i := 2) (j := 3) rfl sc__law_order_of.nd rfl rfl (by decide) rfl rfl (pa_cons (toMu (pe_lst pa_nil)) (pa_cons (toMu (pe_callTy (call_listK K) (by rfl) T.b_list (by decide +kernel) (pa_cons (pv 1) pa_nil))) pa_nil)) rfl)
  (pss_cons (ps_for PassesOwn.never rfl (pi_range1 (by rfl) T.b_range (pa_cons (pe_callB (call_lenK K) (by rfl) T.b_len PySem.boot_len (pa_cons (pv 1) pa_nil)) pa_nil)) (pg_name (i := 4) sc__law_order_of.nd rfl (.inl rfl))
    (pss_one (ps_expr (kBM K (pe_bm PySem.F.plainAttrs_list PySem.F.slot_list_append PySem.F.type_list_append mt_append (pv 2) (pa_cons (kBM K (pe_bm PySem.F.plainAttrs_list PySem.F.slot_list_pop PySem.F.type_list_pop mt_popAt (pv 3) (pa_cons (pe_c c__law_draw hr (by decide) (by rfl) (pa_cons (pv 0) (pa_cons (pe_callB (call_lenK K) (by rfl) T.b_len PySem.boot_len (pa_cons (pv 3) pa_nil)) pa_nil))) pa_nil))) pa_nil))))))
  (pss_cons (ps_par (i := 5) (j := 6) rfl sc__law_order_of.nd rfl rfl (by decide) rfl rfl (pa_cons (pe_mk m_Order hr (by decide) (by rfl) (pa_cons (pe_callTy (call_listK K) (by rfl) T.b_list (by decide +kernel) (pa_cons (pv 1) pa_nil)) pa_nil)) (pa_cons (toMu (pe_lst pa_nil)) pa_nil)) rfl)
  (pss_cons (ps_for PassesOwn.never rfl (pi_range1 (by rfl) T.b_range (pa_cons (pe_c c__law_draw hr (by decide) (by rfl) (pa_cons (pv 0) (pa_cons (pe_op op_add (pe_op op_mul pe_int (pe_callB (call_lenK K) (by rfl) T.b_len PySem.boot_len (pa_cons (pv 1) pa_nil))) pe_int) pa_nil))) pa_nil)) (pg_name (i := 4) sc__law_order_of.nd rfl (.inl rfl))
    (pss_cons (ps_asg (pe_callB (cr_sortedK K) (by rfl) T.b_sorted (by decide +kernel) (pa_cons (pe_lst (pa_cons (pe_c c__law_draw hr (by decide) (by rfl) (pa_cons (pv 0) (pa_cons (pe_callB (call_lenK K) (by rfl) T.b_len PySem.boot_len (pa_cons (pv 2) pa_nil)) pa_nil))) (pa_cons (pe_c c__law_draw hr (by decide) (by rfl) (pa_cons (pv 0) (pa_cons (pe_callB (call_lenK K) (by rfl) T.b_len PySem.boot_len (pa_cons (pv 2) pa_nil)) pa_nil))) pa_nil))) pa_nil)) (kUnl K 2 (pg_unl rfl (pgs_cons (pg_name (i := 7) sc__law_order_of.nd rfl (.inl rfl)) (pgs_cons (pg_name (i := 8) sc__law_order_of.nd rfl (.inl rfl)) pgs_nil)))))
      (pss_one (ps_if (pt_cmpR op_lt (pv 7) (pv 8) (nomark _))
        (pss_cons (ps_set (i := 5) sc__law_order_of.nd rfl (.inl rfl) (pe_mt m_Order_added hr (by decide) (pv 5) (pa_cons (pe_ix (ix_listK K) (pv 2) (pv 7) (fun _ _ => rfl)) (pa_cons (pe_ix (ix_listK K) (pv 2) (pv 8) (fun _ _ => rfl)) pa_nil))))
          (pss_one (ps_expr (kBM K (pe_bm PySem.F.plainAttrs_list PySem.F.slot_list_append PySem.F.type_list_append mt_append (pv 6) (pa_cons (pe_tup (pa_cons (pe_ix (ix_listK K) (pv 2) (pv 7) (fun _ _ => rfl)) (pa_cons (pe_ix (ix_listK K) (pv 2) (pv 8) (fun _ _ => rfl)) pa_nil))) pa_nil))))))
        pss_nil))))
  (pss_one (toFzS 6 (toFzS 2 (ps_ret (pe_tup (pa_cons (pv 5) (pa_cons (pv 6) (pa_cons (pv 2) pa_nil))))))))))))
, run4 ?go h⟩)
  case go =>
    refine ⟨_, (by walk_at "l4s"), ?_⟩
    rintro xs μ Q4 X4 ⟨ws, rfl, ok, q⟩
    walk_at "p4s"
    obtain ⟨ndw, nmw, w1, w7⟩ := ok
    intro Ra nR
    walk_at "p4s"
    intro La nL
    have lr : La ≠ Ra := fun e => by rw [e, updM_same] at nL; exact nomatch nL
    walk_at "p4s"
    refine ⟨_, _, rfl, ?_⟩
    walk_at "p4s"
    rw [show (strsD ws).length = ws.length from List.length_map _]
    refine ⟨((ws.length : Nat) : Int), rfl, by omega, by omega, ?_⟩
    refine v_for3 ⟨fun i ρ' μ' => ∃ (left zs : List Str) (p4 : Option Vl), (zs ++ left).Perm ws ∧ zs.length = i ∧ i ≤ ws.length ∧ μ' La = some (.lst ((strsD left).map Vl.d)) ∧ μ' Ra = some (.lst ((strsD zs).map Vl.d)) ∧ ρ' = [some (.d potD), some (.d (.lst (strsD ws))), some (.loc Ra), some (.loc La), p4, none, none, none, none], ⟨ws, [], _, List.Perm.refl _, rfl, Nat.zero_le _, updM_same, by rw [updM_ne (fun e => lr e.symm), updM_same]; rfl, rfl⟩, ?_⟩
    rintro i _ μ2 ⟨left, zs, p4, pm, zi, hin, hL, hR, rfl⟩
    have ll : zs.length + left.length = ws.length := by rw [← List.length_append]; exact pm.length_eq
    refine ⟨fun e => ?_, fun d e => ?_⟩
    · have hi2 : ws.length ≤ i := by simpa using List.getElem?_eq_none_iff.mp e
      have l0 : left = [] := List.length_eq_zero_iff.mp (by omega)
      subst l0
      rw [List.append_nil] at pm
      walk_at "p4s"
      refine ⟨_, ws, rfl, rfl, ?_⟩
      walk_at "p4s"
      intro Pa nP
      have pr : Pa ≠ Ra := fun e => by rw [e, hR] at nP; exact nomatch nP
      walk_at "p4s"
      refine ⟨_, _, rfl, ?_⟩
      walk_at "p4s"
      have hwl : (strsD ws).length = ws.length := List.length_map _
      rw [hwl]
      refine ⟨3, ((ws.length : Nat) : Int), rfl, rfl, (Or.inl ⟨by decide, by decide⟩), ?_⟩
      walk_at "p4s"
      refine ⟨_, rfl, by omega, by omega, fun n n0 n1 => ?_⟩
      walk_at "p4s"
      refine ⟨n, rfl, by omega, by omega, ?_⟩
      have ndz : zs.Nodup := pm.nodup_iff.mpr ndw
      have nmz : ∀ z ∈ zs, Nm z := fun z hz => nmw z (pm.mem_iff.mp hz)
      have lz : zs.length = ws.length := pm.length_eq
      refine v_for3 ⟨fun k ρ' μ' => ∃ (ps : List Pr) (prs : List D) (p4 p7 p8 : Option Vl), OrdOk ws ps ∧ (∀ z ∈ ps, ixS zs z.1 < ixS zs z.2) ∧ prs.length ≤ k ∧ k ≤ n.toNat ∧ μ' Pa = some (.lst (prs.map Vl.d)) ∧ μ' Ra = some (.lst ((strsD zs).map Vl.d)) ∧ ρ' = [some (.d potD), some (.d (.lst (strsD ws))), some (.loc Ra), some (.loc La), p4, some (.d (ordD C ws ps)), some (.loc Pa), p7, p8], ⟨[], [], _, _, _, OrdOk.nil ndw nmw (by omega), (fun _ z => nomatch z), Nat.le_refl _, Nat.zero_le _, updM_same, by rw [updM_ne (fun e => pr e.symm)]; exact hR, rfl⟩, ?_⟩
      clear e
      rintro k _ μ3 ⟨ps, prs, p4, p7, p8, okp, hrk, lp, kn, hP, hR3, rfl⟩
      refine ⟨fun e => ?_, fun d e => ?_⟩
      · walk_at "p4s"
        refine v_fzS rfl hP ?_
        refine v_fzS rfl (by rw [delM_ne (fun e => pr e.symm)]; exact hR3) ?_
        walk_at "p4s"
        exact q ps prs zs _ okp pm
      · obtain ⟨hk, rfl⟩ := range_at e
        have hzl : (strsD zs).length = zs.length := List.length_map _
        walk_at "p4s"
        rw [rdL4_loc hR3]
        walk_at "p4s"
        rw [hzl]
        refine ⟨_, rfl, by omega, by omega, fun x x0 x1 => ?_⟩
        walk_at "p4s"
        rw [rdL4_loc hR3]
        walk_at "p4s"
        rw [hzl]
        refine ⟨_, rfl, by omega, by omega, fun y y0 y1 => ?_⟩
        walk_at "p4s"
        refine ⟨[x, y], rfl, fun ns' pm2 pw => ?_⟩
        obtain ⟨lo, hi, rfl⟩ : ∃ lo hi, ns' = [lo, hi] := by
          have h2 : ns'.length = 2 := pm2.length_eq
          match ns', h2 with
          | [a, b], _ => exact ⟨a, b, rfl⟩
        have inr : ∀ v ∈ [lo, hi], 0 ≤ v ∧ v < (zs.length : Int) := fun v hv => by
          rcases List.mem_cons.mp (pm2.mem_iff.mp hv) with rfl | hv
          · exact ⟨x0, x1⟩
          · rw [List.mem_singleton.mp hv]; exact ⟨y0, y1⟩
        obtain ⟨lo0, lo1⟩ := inr lo List.mem_cons_self
        obtain ⟨hi0, hi1⟩ := inr hi (List.mem_cons_of_mem _ List.mem_cons_self)
        refine ⟨[.d (.int lo), .d (.int hi)], rfl, rfl, ?_⟩
        walk_at "p4s"
        by_cases c : lo < hi
        · rw [decide_eq_true c]
          obtain ⟨j1, hj1, rfl, at1⟩ := at_some' (xs := zs) (d := lo) lo0 lo1
          obtain ⟨j2, hj2, rfl, at2⟩ := at_some' (xs := zs) (d := hi) hi0 hi1
          have e1 : atI (strsD zs) (j1 : Int) = some (.str zs[j1]) := atI_nat (by rw [strsD, List.getElem?_map, List.getElem?_eq_getElem hj1]; rfl)
          have e2 : atI (strsD zs) (j2 : Int) = some (.str zs[j2]) := atI_nat (by rw [strsD, List.getElem?_map, List.getElem?_eq_getElem hj2]; rfl)
          have r1 : ixS zs zs[j1] = j1 := ixS_get ndz (List.getElem?_eq_getElem hj1)
          have r2 : ixS zs zs[j2] = j2 := ixS_get ndz (List.getElem?_eq_getElem hj2)
          have m1 : zs[j1] ∈ ws := pm.mem_iff.mp (List.getElem_mem hj1)
          have m2 : zs[j2] ∈ ws := pm.mem_iff.mp (List.getElem_mem hj2)
          have hlt : ixS zs zs[j1] < ixS zs zs[j2] := by rw [r1, r2]; omega
          have hab : zs[j1] ≠ zs[j2] := fun e => by rw [e] at hlt; exact absurd hlt (Nat.lt_irrefl _)
          have hnr : ¬ Rch ps zs[j2] zs[j1] := fun z => absurd (z.rank (ixS zs) hrk) (by omega)
          have eR : lstOf μ3 (.loc Ra) = some ((strsD zs).map Vl.d) := by show (match μ3 Ra with | some (.lst vs) => some vs | _ => none) = _; rw [hR3]
          generalize zs[j1] = a at *
          generalize zs[j2] = b at *
          walk_at "p4s"
          refine ⟨_, rfl, ord_added, ?_⟩
          walk_at "p4s"
          refine ⟨(strsD zs).map Vl.d, _, .d (.str a), eR, rfl, atI_mapV e1, ?_⟩
          walk_at "p4s"
          refine ⟨(strsD zs).map Vl.d, _, .d (.str b), eR, rfl, atI_mapV e2, ?_⟩
          walk_at "p4s"
          refine ⟨ws, ps, a, b, rfl, okp, m1, m2, hab, hnr, fun qs ok2 hm => ?_⟩
          walk_at "p4s"
          refine ⟨Pa, rfl, ⟨_, hP⟩, ?_⟩
          walk_at "p4s"
          refine ⟨(strsD zs).map Vl.d, _, .d (.str a), eR, rfl, atI_mapV e1, ?_⟩
          walk_at "p4s"
          refine ⟨(strsD zs).map Vl.d, _, .d (.str b), eR, rfl, atI_mapV e2, ?_⟩
          walk_at "p4s"
          refine ⟨_, hP, _, rfl, szL (by rw [List.length_map]; omega), ?_⟩
          walk_at "p4s"
          refine ⟨qs, prs ++ [.tup [.str a, .str b]], _, _, _, ok2, fun z hz => ?_, by rw [List.length_append]; show prs.length + 1 ≤ _; omega, by omega, by rw [updM_same, List.map_append]; rfl, by rw [updM_ne (fun e => pr e.symm)]; exact hR3, rfl⟩
          rcases (hm z).mp hz with h | rfl
          · exact hrk z h
          · exact hlt
        · rw [decide_eq_false c]
          walk_at "p4s"
          exact ⟨ps, prs, _, _, _, okp, hrk, by omega, by omega, hP, hR3, rfl⟩
    · obtain ⟨hi, rfl⟩ := range_at e
      have l0 : 0 < left.length := by omega
      have hll : (strsD left).length = left.length := List.length_map _
      walk_at "p4s"
      refine ⟨Ra, rfl, ⟨_, hR⟩, ?_⟩
      walk_at "p4s"
      refine ⟨La, rfl, ⟨_, hL⟩, ?_⟩
      walk_at "p4s"
      rw [rdL4_loc hL]
      walk_at "p4s"
      rw [hll]
      refine ⟨_, rfl, by omega, by omega, fun j j0 j1 => ?_⟩
      walk_at "p4s"
      obtain ⟨j, rfl⟩ : ∃ j' : Nat, j = (j' : Int) := ⟨j.toNat, by omega⟩
      have hj : j < left.length := by omega
      refine ⟨_, hL, (j : Int), j, .d (.str left[j]), rfl, by omega, by omega, seq_at (by rw [List.length_map, hll]; exact hj), (by rw [strsD, List.getElem?_map, List.getElem?_map, List.getElem?_eq_getElem hj]; rfl), ?_⟩
      walk_at "p4s"
      refine ⟨_, by rw [updM_ne lr.symm]; exact hR, _, rfl, szL (by rw [List.length_map, strsD, List.length_map]; omega), ?_⟩
      walk_at "p4s"
      refine ⟨left.eraseIdx j, zs ++ [left[j]], _, (by rw [List.append_assoc]; exact ((erase_perm hj).append_left zs).trans pm), by rw [List.length_append, zi]; rfl, by omega, ?_, by rw [updM_same, strsD, strsD, List.map_append, List.map_append]; rfl, rfl⟩
      rw [updM_ne lr, updM_same, TB.erase_map Vl.d, show (strsD left).eraseIdx j = strsD (left.eraseIdx j) from TB.erase_map D.str left j]
end
end K46
namespace K46
open PySem PySem.Spec PyProof.Rows L2 TB LamX NdefX L3 L4
open C8 (Cal pe_c Mak pe_mk Met pe_mt pe_mt0 pss_cut tCut pe_gc)
abbrev s_ask_of : Stmt := top 6
theorem sc_ask_of : FnScope ["order", "pile", "lock", "locks", "behind", "gone", "at", "one", "stays"] ["order", "pile", "lock"] (defScope s_ask_of) := ⟨rfl, rfl, rfl, by decide +kernel, rfl, by decide +kernel, by decide +kernel⟩
section
variable {P : Program} {w : World} {K : PySem.W.Frag} {mg : Str → Option Value} {base : Heap} {f C NS : Addr} {fd : FuncData} {tb : List (Addr × Str)}
theorem ok_ask_of_x (F : FnP K "ask_of" s_ask_of f fd) (T : BltA mg) (m_Order_locks : Met P w K mg base 1 C "locks" (lsp ⟨K, tb⟩ none (pLocks C)) []) (m_NoSuch : MkNS P w K mg base NS) : FnOk P w K mg base (L2.CX P w) 3 f fd ["order", "pile", "lock"] (lsp4 ⟨K, tb⟩ (pAskX C NS)) := by
  refine F.ok sc_ask_of (lsp4_len (by rintro xs μ Q4 X4 ⟨ls, ps, x, d, rfl, _⟩; rfl)) (fun cdv A outer s H vs Q E hr h => ⟨_, 
(pss_cons (ps_if (pt_cmpR (kNotInX K (hu65 hr)) (pv 2) (pe_mt0 m_Order_locks hr (by decide) (pv 0)) rfl)
    (pss_one (ps_raiseM rfl (takes_of rfl rfl rfl rfl) PySem.F.excBase_LookupError m_NoSuch hr (by decide) (by rfl) (pa_cons (pv 2) pa_nil)))
    pss_nil)
  (pss_cons ps_never
  (pss_cons ps_never
  (pss_cons ps_never
  (pss_cons ps_never
  (pss_cut ps_never
  (pss_one ps_never)))))))
, run4 ?go h⟩)
  case go =>
    refine ⟨_, (by walk_at "l4s"), ?_⟩
    rintro xs μ Q4 X4 ⟨ls, ps, x, d, rfl, oo, od, nm, ne, q⟩
    walk_at "p4s"
    refine ⟨_, rfl, ord_locks, ?_⟩
    walk_at "p4s"
    refine ⟨ls, ps, rfl, ?_⟩
    walk_at "p4s"
    refine w_ninOd od nm ?_
    rw [inB_no ne]
    walk_at "p4s"
    exact ⟨rfl, trivial, q⟩
end
end K46
namespace K46
open PySem PySem.Spec PyProof.Rows L2 TB LamX NdefX L3 L4
open C8 (Cal pe_c Mak pe_mk Met pe_mt pe_mt0 pss_cut tCut pe_gc)
section
variable {P : Program} {w : World} {K : PySem.W.Frag} {mg : Str → Option Value} {base : Heap} {f NS : Addr} {fd : FuncData} {tb : List (Addr × Str)}
theorem ok_height_of_x (F : FnP K "height_of" s_height_of f fd) (T : BltA mg) (m_NoSuch : MkNS P w K mg base NS) : FnOk P w K mg base (L2.CX P w) 3 f fd ["line", "some"] (lsp4 ⟨K, tb⟩ (pHgtX NS)) := by
  refine F.ok sc_height_of (lsp4_len (by rintro xs μ Q4 X4 ⟨ls, ds, d, rfl, _⟩; rfl)) (fun cdv A outer s H vs Q E hr h => ⟨_, 
(pss_cons (ps_for (passes_of rfl) rfl (kPEn K (pi_enum (by rfl) T.b_enumerate (pa_cons (pv 1) pa_nil))) (kTup K 2 (pg_tup rfl (pgs_cons (pg_name (i := 2) sc_height_of.nd rfl (.inl rfl)) (pgs_cons (pg_name (i := 3) sc_height_of.nd rfl (.inl rfl)) pgs_nil))))
    (pss_one (ps_if (PW.pt (pw_or (pt_cmpR (kNotInX K (hu65 hr)) (pv 3) (pv 0) rfl) (pw_or1 (pt_cmpR (kInX K (hu65 hr)) (pv 3) (pe_slice (sl_listK K) (pv 1) po_none (po_some (pv 2))) rfl))))
        (pss_one (ps_raiseM rfl (takes_of rfl rfl rfl rfl) PySem.F.excBase_LookupError m_NoSuch hr (by decide) (by rfl) (pa_cons (pv 3) pa_nil)))
        pss_nil)))
  (pss_cons ps_never
  (pss_cons ps_never
  (pss_one ps_never))))
, run4 ?go h⟩)
  case go =>
    refine ⟨_, (by walk_at "l4s"), ?_⟩
    rintro xs μ Q4 X4 ⟨ls, ds, d, rfl, nmL, odE, ⟨zs, rest, rfl, nd, hz, bad, dl⟩, q⟩
    walk_at "p4s"
    refine v_for3 ⟨fun i ρ' μ' => i ≤ zs.length ∧ μ' = μ ∧ ∃ p2 p3 p4, ρ' = [some (.d (.lst (strsD ls))), some (.d (.lst (strsD zs ++ d :: rest))), p2, p3, p4], ⟨Nat.zero_le _, rfl, _, _, _, rfl⟩, ?_⟩
    rintro i _ μ' ⟨hi, rfl, p2, p3, p4, rfl⟩
    have len : (strsD zs).length = zs.length := List.length_map _
    refine ⟨fun e => ?_, fun x e => ?_⟩
    · exfalso
      have := List.getElem?_eq_none_iff.mp e
      simp at this
      omega
    · obtain ⟨y, hy, rfl⟩ := enum_at (enc := fun d : D => d) e
      refine v_gtup (xs := [.d (.int (i : Int)), .d y]) rfl rfl ?_
      walk_at "p4s"
      have od := odE y (List.mem_of_getElem? hy)
      by_cases hl : i < zs.length
      · obtain ⟨z, hz1⟩ : ∃ z, zs[i]? = some z := ⟨_, List.getElem?_eq_getElem hl⟩
        have hy1 : y = .str z := by
          rw [List.getElem?_append_left (by omega)] at hy
          rw [strsD, List.getElem?_map, hz1] at hy
          exact (Option.some.inj hy).symm
        subst hy1
        refine w_ninOd od nmL ?_
        rw [show inB (.str z) ls = true from decide_eq_true (hz z (List.mem_of_getElem? hz1))]
        walk_at "p4s"
        rw [cut_pre (Nat.le_of_lt hl)]
        refine w_yinOd od (fun u hu => nmL u (hz u (List.mem_of_mem_take hu))) ?_
        rw [show inB (.str z) (zs.take i) = false from decide_eq_false (nodup_at nd hz1)]
        walk_at "p4s"
        exact ⟨hl, rfl, _, _, _, rfl⟩
      · have hi2 : i = zs.length := by omega
        have hy1 : y = d := by
          rw [List.getElem?_append_right (by omega), hi2, len, Nat.sub_self] at hy
          exact (Option.some.inj hy).symm
        subst hy1
        refine w_ninOd od nmL ?_
        cases hb : inB y ls with
        | false =>
          walk_at "p4s"
          exact ⟨rfl, trivial, q⟩
        | true =>
          walk_at "p4s"
          rw [hi2, cut_pre (Nat.le_refl _), List.take_length]
          refine w_yinOd od (fun u hu => nmL u (hz u hu)) ?_
          have hb2 : inB y zs = true := by
            rcases bad with h | ⟨z, h, rfl⟩
            · rw [inB_no h] at hb; exact nomatch hb
            · exact decide_eq_true h
          rw [hb2]
          walk_at "p4s"
          exact ⟨rfl, trivial, q⟩
end
end K46
namespace K46
open PySem PySem.Spec PyProof.Rows L2 TB LamX NdefX L3 L4
open C8 (Cal pe_c Mak pe_mk Met pe_mt pe_mt0 pss_cut tCut pe_gc)
abbrev s__law_refused : Stmt := top 23
theorem sc__law_refused : FnScope ["_law_call", "_law_thing", "_law_told", "e"] ["_law_call", "_law_thing"] (defScope s__law_refused) := ⟨rfl, rfl, rfl, by decide +kernel, rfl, by decide +kernel, by decide +kernel⟩
section
variable {P : Program} {w : World} {K : PySem.W.Frag} {mg : Str → Option Value} {base : Heap} {f NS c2 : Addr} {fd : FuncData} {tb : List (Addr × Str)}
theorem fl__law_refused (k : Nat) (F : FnP K "_law_refused" s__law_refused f fd) (T : BltA mg) (sysB : He.dictB K sysModules = true) (hm : mg "_law_refused" = some (.ref f)) (hk : PySem.W.keepIn K (.ref f) = true) (b : L2.Binds K fd ["_law_call", "_law_thing"] []) (gN : mg "NoSuch" = some (.ref NS)) (eN : PySem.W.exmOne K (.ref NS) (.ref NS) = some true) (xN : ExcC K NS) (n1 : PySem.W.findIn K (.ref NS) "who" = some none)
    (vH : mg "HallError" = some (.ref c2)) (eH : PySem.W.exmOne K (.ref NS) (.ref c2) = some false) (bLE : mg "LookupError" = none) (kE : PySem.W.kitOne K (.ref NS) (.type "LookupError") = some true) : FnL2 P w K mg base k "_law_refused" (TT42 ⟨K, tb⟩ (pRef46 NS)) := by
  refine fnl2_of F hm hk b sc__law_refused rfl (.inl rfl) (by decide) (by decide) fun cdv A stack gd => run4L2 (X := ⟨K, tb⟩) fun q f c' s H tl hr act => ⟨_,
    (pss_cons (ps_set (i := 2) sc__law_refused.nd rfl (.inl rfl) pe_non)
    (pss_cons (ps_try_mix (l := [⟨.ref c2, none, _⟩, ⟨.ref NS, some 3, _⟩]) rfl rfl L2.takes0
      (fun W pn xe tk _ => pss_one (ps_expr (act W pn xe _ _ tk))) sc__law_refused.nd
      (.cons ⟨rfl, by decide, .inl vH⟩ (fun a oe cls d pn hz hf => pss_one (ps_set (i := 2) sc__law_refused.nd rfl (.inl rfl) pe_str))
      (.consAs (i := 3) rfl rfl ⟨rfl, by decide, .inl gN⟩ (fun a oe cls d pn hz hf => pss_one (ps_set (i := 2) sc__law_refused.nd rfl (.inl rfl)
        (pe_tup (pa_cons (pe_callB (call_isE2K K hz hf) (by rfl) T.b_isinstance (by decide +kernel) (pa_cons (pv 3) (pa_cons (pe_bltn (v := .ty "LookupError") (u := .type "LookupError") (by rfl) bLE (by decide +kernel) rfl) pa_nil)))
          (pa_cons (pe_callB (call_reprX K sysB hr.units gd) (by rfl) T.b_repr (by decide +kernel) (pa_cons (pe_xf xN.xf n1 hz hf (pv 3)) pa_nil)) pa_nil))))) .nil)))
    (pss_one (ps_ret (pe_cmpR (op_eqTS K (hu65 hr)) (pv 2) (pe_tup (pa_cons pe_bl (pa_cons (pe_callB (call_reprX K sysB hr.units gd) (by rfl) T.b_repr (by decide +kernel) (pa_cons (pv 1) pa_nil)) pa_nil))) (nomark _)))))), fun c pb hX hact => ?_⟩
  obtain ⟨X', F0, H0, M0⟩ := c
  obtain rfl : X' = ⟨K, tb⟩ := hX
  refine ⟨_, s_seqc (s_asgc (by walk_at "l4s") (by walk_at "l4s")) (s_seqc (s_tryMixc (fun W => s_dropXc (hact W)) (.cons (fun a cls d => s_asgc (by walk_at "l4s") (by walk_at "l4s")) (.cons (fun a cls d => s_asgc (by walk_at "l4s") (by walk_at "l4s")) .nil))) (s_retc (by walk_at "l4s"))), fun x2 μ Q4 hP => ?_⟩
  dsimp only [C4.K]
  obtain ⟨d, rfl, od, hP⟩ := hP
  walk_at "p4s"
  unfold sTryMix
  refine ⟨rfl, ?_⟩
  refine hP _ _ (fun μ1 q => ⟨false, eH, (fun z => nomatch z), fun _ => ⟨true, eN, fun _ a cls dd => ?_, fun z => nomatch z⟩⟩)
  unfold H4.run
  walk_at "p4s"
  refine w_isE (xd := whoX NS d) (.ty _) xN kE ?_
  walk_at "p4s"
  refine ⟨whoX NS d, .d d, rfl, rfl, rfl, ?_⟩
  walk_at "p4s"
  refine w_reprS od.shw (by decide) (by decide) ?_
  walk_at "p4s"
  refine w_reprS od.shw (by decide) (by decide) ?_
  walk_at "p4s"
  refine w_eqTS (Or.inr (Or.inl ⟨_, rfl⟩)) (od_sho od) ?_
  exact q
end
end K46
namespace K46
open PySem PySem.Spec PyProof.Rows L2 TB LamX NdefX L3 L4
open C8 (Cal pe_c Mak pe_mk Met pe_mt pe_mt0 pss_cut tCut pe_gc)
abbrev s__law_right : Stmt := top 26
theorem sc__law_right : FnScope ["_law_pot_here", "_law_latches_here", "_law_made", "_law_pairs", "_law_line", "_law_turn", "_law_own", "_law_pile", "_law_latch", "_law_strange_here", "_law_some_here", "_law_k", "_law_more", "_law_wrong", "_law_kept"] ["_law_pot_here", "_law_latches_here"] (defScope s__law_right) := ⟨rfl, rfl, rfl, by decide +kernel, rfl, by decide +kernel, by decide +kernel⟩
section
variable {P : Program} {w : World} {K : PySem.W.Frag} {mg : Str → Option Value} {base : Heap} {f C NS : Addr} {fd : FuncData} {tb : List (Addr × Str)}
/-- the lambdas' name -/
def lamR : Str := (envOfC "_law_right" (defScope s__law_right) 0 0 .none).qual ++ "<lambda>"
theorem ok__law_right {c T1 : Addr} (hTI : TIn tb T1 lamR) (F : FnP K "_law_right" s__law_right f fd) (hcd : fd.code = .ref c) (tb0 : TabB base mg c T1) (T : BltA mg) (sysB : He.dictB K sysModules = true) (c__law_order_of : Cal P w K mg base 6 "_law_order_of" (lsp4 ⟨K, tb⟩ (pOrd46 C)) []) (c__law_some : Cal P w K mg base 2 "_law_some" (lsp ⟨K, tb⟩ none pSome46) []) (c__law_life : Cal P w K mg base 3 "_law_life" (lsp ⟨K, tb⟩ none pLif46) []) (c__law_strange : Cal P w K mg base 3 "_law_strange" (lsp ⟨K, tb⟩ none pStr46) []) (c__law_first_wrong : Cal P w K mg base 1 "_law_first_wrong" (lsp ⟨K, tb⟩ none pFw46) []) (c__law_draw : Cal P w K mg base 1 "_law_draw" (lsp ⟨K, tb⟩ none pDraw) [])
    (c_height_of : Cal P w K mg base 1 "height_of" (lsp ⟨K, tb⟩ none pHeight) []) (m_Order_locks : Met P w K mg base 1 C "locks" (lsp ⟨K, tb⟩ none (pLocks C)) []) (x_ask : CalX P w K mg base 3 "ask_of" (lsp4 ⟨K, tb⟩ (pAskX C NS)) []) (x_height : CalX P w K mg base 3 "height_of" (lsp4 ⟨K, tb⟩ (pHgtX NS)) [])
    (fl__law_refused : FnL2 P w K mg base 4 "_law_refused" (TT42 ⟨K, tb⟩ (pRef46 NS))) : FnG P w K mg base CX0 9 f fd ["_law_pot_here", "_law_latches_here"] (lsp ⟨K, tb⟩ none pRight46) := by
  refine fng_imp ?_ (lsp4_of (P4 := fun xs μ Q4 _ => ∃ ws, xs = [.d potD, .d (.lst (strsD ws))] ∧ Ws46 ws ∧ ∀ μ', Q4 (.d (.bl true)) μ') fun ds Q3 h => by
    obtain ⟨ws, rfl, ok, q⟩ := h
    exact ⟨ws, rfl, ok, fun μ' => Or.inl ⟨_, rfl, q⟩⟩)
  refine fng_ofC F hcd sc__law_right (lsp4_len (by rintro xs μ Q4 X4 ⟨ws, rfl, _⟩; rfl)) (fun A outer s H vs Q E g hr h => ⟨_, PSs.nox
(pss_cons (ps_asg (pe_c c__law_order_of hr (by decide) (by rfl) (pa_cons (pv 0) (pa_cons (pv 1) pa_nil))) (kTup K 3 (pg_tup rfl (pgs_cons (pg_name (i := 2) sc__law_right.nd rfl (.inr rfl)) (pgs_cons (pg_name (i := 3) sc__law_right.nd rfl (.inl rfl)) (pgs_cons (pg_name (i := 4) sc__law_right.nd rfl (.inr rfl)) pgs_nil))))))
  (pss_cons (ps_for PassesOwn.never rfl (pi_range1 (by rfl) T.b_range (pa_cons pe_int pa_nil)) (pg_name (i := 5) sc__law_right.nd rfl (.inl rfl))
    (pss_cons (ps_set (i := 6) sc__law_right.nd rfl (.inl rfl) (pe_c c__law_some hr (by decide) (by rfl) (pa_cons (pv 0) (pa_cons (pv 1) pa_nil))))
      (pss_cons (ps_set (i := 7) sc__law_right.nd rfl (.inr rfl) (pe_callTy (call_tupK K) (by rfl) T.b_tuple (by decide +kernel) (pa_cons (pe_lc (own := [("_law_latch", 8)]) (tt := tYes) rfl sc__law_right.nd (kPI K (pi_list (pv 6))) (blkOk_by (N := ["_law_pot_here", "_law_latches_here", "_law_made", "_law_pairs", "_law_line", "_law_turn", "_law_own", "_law_pile", "_law_latch", "_law_strange_here", "_law_some_here", "_law_k", "_law_more", "_law_wrong", "_law_kept"]) (sc := defScope s__law_right) (by decide +kernel)) (fun _ _ _ _ _ => pg_name (i := 8) sc__law_right.nd rfl (Or.inl rfl)) (fun _ _ _ _ _ => pts_nil) (fun _ _ _ _ _ => (pe_tup (pa_cons (pv 8) (pa_cons (pe_c c__law_life hr (by decide) (by rfl) (pa_cons (pv 0) (pa_cons (pv 1) pa_nil))) pa_nil))))) pa_nil)))
      (pss_cons (ps_set (i := 9) sc__law_right.nd rfl (.inr rfl) (pe_c c__law_strange hr (by decide) (by rfl) (pa_cons (pv 0) (pa_cons (pv 1) pa_nil))))
      (pss_cons (ps_if (pt_not (pt_val (pe_lamG2 fl__law_refused (by rfl) tb0 rfl g hr (by decide) (lamS_by (sc := defScope s__law_right) (by decide +kernel)) rfl (fun _ _ _ _ _ => rfl) (fun A outer s H E f c' hr2 => (pe_cX x_ask hr2 (by decide) (takes_of rfl rfl rfl rfl) (by rfl) (pa_cons (pv 2) (pa_cons (pv 7) (pa_cons (pv 9) pa_nil))))) (pv 9))))
        (pss_one (ps_ret pe_bl))
        pss_nil)
      (pss_cons (ps_set (i := 10) sc__law_right.nd rfl (.inr rfl) (toMu (pe_callTy (call_listK K) (by rfl) T.b_list (by decide +kernel) (pa_cons (pv 6) pa_nil))))
      (pss_cons (ps_for PassesOwn.never rfl (pi_range1 (by rfl) T.b_range (pa_cons (pe_op op_add pe_int (pe_c c__law_draw hr (by decide) (by rfl) (pa_cons (pv 0) (pa_cons pe_int pa_nil)))) pa_nil)) (pg_name (i := 11) sc__law_right.nd rfl (.inl rfl))
        (pss_cons (ps_set (i := 12) sc__law_right.nd rfl (.inl rfl) (pe_ix (ix_listK K) (pe_lst (pa_cons (pv 9) (pa_cons (pe_ix (ix_listK K) (pv 4) (pe_c c__law_draw hr (by decide) (by rfl) (pa_cons (pv 0) (pa_cons (pe_callB (call_lenK K) (by rfl) T.b_len PySem.boot_len (pa_cons (pv 4) pa_nil)) pa_nil))) (fun _ _ => rfl)) pa_nil))) (pe_c c__law_draw hr (by decide) (by rfl) (pa_cons (pv 0) (pa_cons pe_int pa_nil))) (fun _ _ => rfl)))
          (pss_one (ps_expr (kBM K (pe_bm PySem.F.plainAttrs_list PySem.F.slot_list_insert PySem.F.type_list_insert mt_insK (pv 10) (pa_cons (pe_c c__law_draw hr (by decide) (by rfl) (pa_cons (pv 0) (pa_cons (pe_op op_add (pe_callB (call_lenK K) (by rfl) T.b_len PySem.boot_len (pa_cons (pv 10) pa_nil)) pe_int) pa_nil))) (pa_cons (pv 12) pa_nil))))))))
      (pss_cons (toFzS 10 (ps_par (i := 13) (j := 14) rfl sc__law_right.nd rfl rfl (by decide) rfl rfl (pa_cons (pe_c c__law_first_wrong hr (by decide) (by rfl) (pa_cons (pv 4) (pa_cons (pv 10) pa_nil))) (pa_cons (pe_callB (call_reprX K sysB hr.units g) (by rfl) T.b_repr (by decide +kernel) (pa_cons (pe_lst (pa_cons (pv 4) (pa_cons (pv 10) pa_nil))) pa_nil)) pa_nil)) rfl))
      (pss_cons (ps_if (PW.pt (pw_and (pt_cmpR (op_neL0 K hr.units) (pv 13) (pe_lst pa_nil) (nomark _)) (pw_and1 (pt_not (pt_val (pe_lamG2 fl__law_refused (by rfl) tb0 rfl g hr (by decide) (lamS_by (sc := defScope s__law_right) (by decide +kernel)) rfl (fun _ _ _ _ _ => rfl) (fun A outer s H E f c' hr2 => (pe_cX x_height hr2 (by decide) (takes_of rfl rfl rfl rfl) (by rfl) (pa_cons (pv 4) (pa_cons (pv 10) pa_nil)))) (pe_ix (ix_listK K) (pv 13) pe_int (fun _ _ => rfl))))))))
        (pss_one (ps_ret pe_bl))
        pss_nil)
      (pss_one (ps_if (PW.pt (pw_or (pt_cmpR op_ne (pe_callB (call_reprX K sysB hr.units g) (by rfl) T.b_repr (by decide +kernel) (pa_cons (pe_lst (pa_cons (pv 4) (pa_cons (pv 10) pa_nil))) pa_nil)) (pv 14) (nomark _)) (pw_or1 (pt_not (pt_chain op_le op_lt pe_int (pe_c c_height_of hr (by decide) (by rfl) (pa_cons (pv 4) (pa_cons (pv 6) pa_nil))) (pe_op op_shl pe_int (pe_callB (call_lenK K) (by rfl) T.b_len PySem.boot_len (pa_cons (pv 4) pa_nil))))))))
        (pss_one (ps_ret pe_bl))
        pss_nil)))))))))))
  (pss_one (ps_ret (pe_cmpR (op_eqDK K hr.units) (pe_mt0 m_Order_locks hr (by decide) (pv 2)) (pv 1) (nomark _))))))
, run4 ?go h⟩)
  case go =>
    refine ⟨_, (by walk_at "l4s"), ?_⟩
    rintro xs μ Q4 X4 ⟨ws, rfl, ok, q⟩
    obtain ⟨ndw, nmw, w1, w7⟩ := id ok
    walk_at "p4s"
    refine ⟨ws, rfl, ok, fun ps prs line μ1 okp pm => ?_⟩
    refine v_gtup (xs := [.d (ordD C ws ps), .d (.lst prs), .d (.lst (strsD line))]) rfl rfl ?_
    walk_at "p4s"
    have ndl : line.Nodup := pm.nodup_iff.mpr ndw
    have nml : ∀ z ∈ line, Nm z := fun z hz => nmw z (pm.mem_iff.mp hz)
    have ll : line.length = ws.length := pm.length_eq
    have okl : Ws46 line := ⟨ndl, nml, by omega, by omega⟩
    refine ⟨4, rfl, by decide, by decide, ?_⟩
    refine v_for3 ⟨fun i ρ' μ' => ∃ (p5 p6 p7 p8 p9 p10 p11 p12 p13 p14 : Option Vl), ρ' = [some (.d potD), some (.d (.lst (strsD ws))), some (.d (ordD C ws ps)), some (.d (.lst prs)), some (.d (.lst (strsD line))), p5, p6, p7, p8, p9, p10, p11, p12, p13, p14], ⟨_, _, _, _, _, _, _, _, _, _, rfl⟩, ?_⟩
    rintro i _ μ2 ⟨p5, p6, p7, p8, p9, p10, p11, p12, p13, p14, rfl⟩
    refine ⟨fun e => ?_, fun d e => ?_⟩
    · walk_at "p4s"
      refine ⟨_, rfl, ord_locks, ?_⟩
      walk_at "p4s"
      refine ⟨ws, ps, rfl, ?_⟩
      walk_at "p4s"
      refine w_eqStrs nmw nmw ?_
      rw [decide_eq_true rfl]
      exact q _
    · clear e
      walk_at "p4s"
      refine ⟨ws, rfl, ok, fun zs ndz hz => ?_⟩
      walk_at "p4s"
      have lz : zs.length ≤ 7 := Nat.le_trans (nodup_le ndz hz) w7
      refine ⟨fun i acc μ' => ∃ ds : List D, acc = ds.map Vl.d ∧ ds.length ≤ i, ⟨[], rfl, Nat.le_refl _⟩, ?_⟩
      rintro i2 _ μ3 ⟨pl, rfl, hpl⟩
      refine ⟨trivial, fun e => ?_, fun x e => ?_⟩
      rotate_left
      · have e : ((strsD zs).map Vl.d)[i2]? = some x := e
        have hi2 : i2 < zs.length := by
          have := (List.getElem?_eq_some_iff.mp e).1
          rw [List.length_map, strsD, List.length_map] at this
          exact this
        rw [List.getElem?_map, strsD, List.getElem?_map] at e
        obtain ⟨y, e1, rfl⟩ := Option.map_eq_some_iff.mp e
        obtain ⟨z, ez, rfl⟩ := Option.map_eq_some_iff.mp e1
        walk_at "p4s"
        refine ⟨ws, rfl, ok, fun lf => ?_⟩
        walk_at "p4s"
        refine ⟨szL (by rw [List.length_map]; omega), pl ++ [.tup [.str z, lf]], by rw [List.map_append]; rfl, by rw [List.length_append]; show pl.length + 1 ≤ _; omega⟩
      refine ⟨pl, allD_map _, ?_⟩
      walk_at "p4s"
      refine ⟨ws, rfl, ok, fun th hth => ?_⟩
      walk_at "p4s"
      refine ⟨th, rfl, hth.1, fun Q2 ex2 k2 => ?_⟩
      walk_at "p4s"
      refine ⟨ws, ps, _, th, rfl, okp, hth.1, nmw, hth.2, k2 _ ?_⟩
      walk_at "p4s"
      intro Sa nS
      walk_at "p4s"
      refine ⟨2, rfl, by decide, by decide, fun r r0 r1 => ?_⟩
      walk_at "p4s"
      refine ⟨1 + r, rfl, by omega, by omega, ?_⟩
      refine v_for3 ⟨fun k ρ' μ' => ∃ (ds : List D) (q8 q11 q12 : Option Vl), (∀ x ∈ ds, Od x) ∧ k ≤ (1 + r).toNat ∧ ds.length ≤ 7 + k ∧ μ' Sa = some (.lst (ds.map Vl.d)) ∧ ρ' = [some (.d potD), some (.d (.lst (strsD ws))), some (.d (ordD C ws ps)), some (.d (.lst prs)), some (.d (.lst (strsD line))), some (.d d), some (.d (.lst (strsD zs))), some (.d (.tup pl)), q8, some (.d th), some (.loc Sa), q11, q12, p13, p14], ⟨strsD zs, _, _, _, fun x hx => by
        obtain ⟨z, hz1, rfl⟩ := List.mem_map.mp hx
        exact od_str (nmw z (hz z hz1)), Nat.zero_le _, by rw [strsD, List.length_map]; omega, updM_same, rfl⟩, ?_⟩
      rintro k _ μ4 ⟨ds, q8, q11, q12, odd, kr, dl, hS, rfl⟩
      refine ⟨fun e => ?_, fun dk e => ?_⟩
      rotate_left
      · obtain ⟨hk, rfl⟩ := range_at e
        walk_at "p4s"
        rw [show (strsD line).length = line.length from List.length_map _]
        refine ⟨_, rfl, by omega, by omega, fun a a0 a1 => ?_⟩
        walk_at "p4s"
        obtain ⟨j1, hj1, rfl, at1⟩ := at_some' (xs := line) (d := a) a0 a1
        have e1 : atI (strsD line) (j1 : Int) = some (.str line[j1]) := atI_nat (by rw [strsD, List.getElem?_map, List.getElem?_eq_getElem hj1]; rfl)
        have m1 : line[j1] ∈ line := List.getElem_mem hj1
        generalize line[j1] = za at *
        refine ⟨(strsD line).map Vl.d, _, .d (.str za), rfl, rfl, atI_mapV e1, ?_⟩
        walk_at "p4s"
        refine ⟨2, rfl, by decide, by decide, fun b b0 b1 => ?_⟩
        walk_at "p4s"
        obtain ⟨mo, em, hm⟩ := at_odd (ds := [th, .str za]) b0 b1
        have omo : Od mo := by
          rcases List.mem_cons.mp hm with rfl | hm
          · exact hth.1
          · rw [List.mem_singleton.mp hm]; exact od_str (nml za m1)
        refine ⟨[.d th, .d (.str za)], _, .d mo, rfl, rfl, atI_mapV em, ?_⟩
        walk_at "p4s"
        refine ⟨Sa, rfl, ⟨_, hS⟩, ?_⟩
        walk_at "p4s"
        rw [rdL4_loc hS]
        walk_at "p4s"
        refine ⟨_, rfl, by omega, by omega, fun c c0 c1 => ?_⟩
        walk_at "p4s"
        refine ⟨_, hS, c, .d mo, rfl, szL (by rw [List.length_map]; omega), by omega, by omega, ?_⟩
        walk_at "p4s"
        refine ⟨ds.take c.toNat ++ [mo] ++ ds.drop c.toNat, _, _, _, fun x hx => ?_, by omega, ?_, ?_, rfl⟩
        · rcases List.mem_append.mp hx with hx | hx
          · rcases List.mem_append.mp hx with hx | hx
            · exact odd x (List.mem_of_mem_take hx)
            · rw [List.mem_singleton.mp hx]; exact omo
          · exact odd x (List.mem_of_mem_drop hx)
        · rw [List.length_append, List.length_append, List.length_take, List.length_drop]
          show _ + 1 + _ ≤ _
          omega
        · rw [updM_same, List.map_append, List.map_append, List.map_take, List.map_drop]
          rfl
      · walk_at "p4s"
        refine v_fzS rfl hS ?_
        walk_at "p4s"
        have hk2 : k ≤ 2 := by omega
        have shk := shw46 nml odd (by omega) (by omega : ds.length ≤ 9)
        rcases all46 (ls := line) (es := ds) (by omega) with ⟨ys, eds, ndy, hy⟩ | ⟨bd, fb⟩
        · refine ⟨line, ds, rfl, nml, odd, by omega, Or.inl ⟨ys, eds, ndy, hy, ?_⟩⟩
          walk_at "p4s"
          refine w_reprS shk (by decide) (by decide) ?_
          walk_at "p4s"
          refine ⟨_, _, rfl, ?_⟩
          walk_at "p4s"
          refine w_neL0 ?_
          walk_at "p4s"
          rw [decide_eq_true (show ([] : List D).length = 0 from rfl)]
          walk_at "p4s"
          refine w_reprS shk (by decide) (by decide) ?_
          walk_at "p4s"
          rw [decide_eq_true rfl]
          walk_at "p4s"
          refine ⟨line, zs, rfl, by omega, fun z hz1 => pm.mem_iff.mpr (hz z hz1), ndz, ?_⟩
          walk_at "p4s"
          rw [decide_eq_true (hgt_bd line zs).1]
          refine iteT ?_
          walk_at "p4s"
          rw [show (strsD line).length = line.length from List.length_map _]
          refine ⟨1, ((line.length : Nat) : Int), rfl, rfl, ⟨by omega, by omega, by decide⟩, ?_⟩
          walk_at "p4s"
          rw [decide_eq_true (show hgt line zs < 1 * 2 ^ ((line.length : Nat) : Int).toNat by rw [Int.toNat_natCast, Int.one_mul]; exact (hgt_bd line zs).2)]
          walk_at "p4s"
          exact ⟨_, _, _, _, _, _, _, _, _, _, rfl⟩
        · refine ⟨line, ds, rfl, nml, odd, by omega, Or.inr ⟨bd, fb, ?_⟩⟩
          walk_at "p4s"
          refine w_reprS shk (by decide) (by decide) ?_
          walk_at "p4s"
          refine ⟨_, _, rfl, ?_⟩
          walk_at "p4s"
          refine w_neL0 ?_
          walk_at "p4s"
          rw [decide_eq_false (show ¬ ([bd] : List D).length = 0 from fun z => nomatch z)]
          walk_at "p4s"
          refine ⟨[.d bd], 0, .d bd, rfl, rfl, rfl, ?_⟩
          walk_at "p4s"
          have obd : Od bd := by
            obtain ⟨us, rest, e, _⟩ := fb
            exact odd bd (by rw [e]; exact List.mem_append_right _ List.mem_cons_self)
          refine ⟨bd, rfl, obd, fun Q5 ex5 k5 => ?_⟩
          walk_at "p4s"
          refine ⟨line, ds, bd, rfl, nml, odd, fb, k5 _ ?_⟩
          walk_at "p4s"
          refine w_reprS shk (by decide) (by decide) ?_
          walk_at "p4s"
          rw [decide_eq_true rfl]
          walk_at "p4s"
          refine ⟨line, zs, rfl, by omega, fun z hz1 => pm.mem_iff.mpr (hz z hz1), ndz, ?_⟩
          walk_at "p4s"
          rw [decide_eq_true (hgt_bd line zs).1]
          refine iteT ?_
          walk_at "p4s"
          rw [show (strsD line).length = line.length from List.length_map _]
          refine ⟨1, ((line.length : Nat) : Int), rfl, rfl, ⟨by omega, by omega, by decide⟩, ?_⟩
          walk_at "p4s"
          rw [decide_eq_true (show hgt line zs < 1 * 2 ^ ((line.length : Nat) : Int).toNat by rw [Int.toNat_natCast, Int.one_mul]; exact (hgt_bd line zs).2)]
          walk_at "p4s"
          exact ⟨_, _, _, _, _, _, _, _, _, _, rfl⟩
end
end K46
namespace K46
open PySem PySem.Spec PyProof.Rows L2 TB LamX NdefX
open C8 (Cal pe_c Mak pe_mk Met pe_mt pe_mt0 pss_cut tCut pe_gc)
abbrev s_NoSuch___init__ : Stmt := inClass (top 2) 0
theorem sc_NoSuch___init__ : FnScope ["self", "who"] ["self", "who"] (defScope s_NoSuch___init__) := ⟨rfl, rfl, rfl, by decide +kernel, rfl, by decide +kernel, by decide +kernel⟩
section
variable {P : Program} {w : World} {K : PySem.W.Frag} {mg : Str → Option Value} {base : Heap} {f R : Addr} {fd : FuncData}
theorem ok_NoSuch___init__ (F : FnM K "__init__" "NoSuch.__init__" s_NoSuch___init__ [] f fd) (T : OexB K R L2.leB "LookupError.__new__") (hLE : mg "LookupError" = none) (n1 : PySem.W.findIn K (.ref R) "who" = some none) :
    FnOk P w K mg base CX0 1 f fd ["self", "who"] (spE R ["who"] fun _ => True) := by
  refine F.ok sc_NoSuch___init__ (fun vs H Q E h => ?_) (fun cdv A outer s H vs Q E hr h => ⟨_, 
    (pss_cons (ps_expr (pe_binit PySem.F.excBase_LookupError (by rfl) hLE PyProof.Rows.Boot.«LookupError» typ_LE (by decide +kernel) (init_LE _) (by decide +kernel) (pa_cons (pv 0) (pa_cons pe_str pa_nil))))
    (pss_one (ps_oset (newId := "LookupError.__new__") PySem.F.store_LookupError (pv 0) (pv 1))))
, ?_⟩)
  · obtain ⟨x, ws, rfl, hl, _⟩ := h
    rw [List.length_cons, hl]
    rfl
  · obtain ⟨x, ws, rfl, hl, _, hx, q⟩ := h
    obtain ⟨v, rfl⟩ : ∃ v, ws = [v] := by
      match ws, hl with
      | [v], _ => exact ⟨v, rfl⟩
    refine ⟨_, rfl, x, R, [_], rfl, (by show 1 ≤ 1000; decide), T, hx, ?_⟩
    refine ⟨_, rfl, _, rfl, x, R, rfl, T, n1, .inl ⟨hx, fun dx nd ne => ?_⟩⟩
    exact q dx _ nd ne (fun b h1 h2 => by rw [upd_ne h1, upd_ne h2]) upd_same (by rw [upd_ne ne]; exact upd_same)
end
end K46
namespace K46
open PySem PySem.Spec PyProof.Rows L2 TB LamX NdefX L3 L4
open C8 (Cal pe_c Mak pe_mk Met pe_mt pe_mt0 pss_cut tCut pe_gc)
abbrev s_law : Stmt := top 27
theorem sc_law : FnScope ["_law_script", "_law_k", "_law_pot_here"] ["_law_script"] (defScope s_law) := ⟨rfl, rfl, rfl, by decide +kernel, rfl, by decide +kernel, by decide +kernel⟩
section
variable {P : Program} {w : World} {K : PySem.W.Frag} {mg : Str → Option Value} {base : Heap} {f : Addr} {fd : FuncData} {tb : List (Addr × Str)}
theorem ok_law (F : FnP K "law" s_law f fd) (T : BltA mg) (c__law_pot : Cal P w K mg base 1 "_law_pot" (lsp ⟨K, tb⟩ none (pPot K)) []) (c__law_latches : Cal P w K mg base 3 "_law_latches" (lsp ⟨K, tb⟩ none pLatches) []) (c__law_right : CalG P w K mg base 9 "_law_right" (lsp ⟨K, tb⟩ none pRight46)) :
    FnG P w K mg base CX0 10 f fd ["_law_script"] (lsp ⟨K, tb⟩ none (pLaw K)) := by
  refine fng_imp ?_ (lsp4_of (P4 := fun xs μ Q4 _ => ∃ ds Q3, xs = ds.map Vl.d ∧ pLaw K ds Q3 ∧ ∀ d μ', Q3 (.val d) none → Q4 (.d d) μ') fun ds Q3 h => ⟨ds, Q3, rfl, h, fun d μ' q => Or.inl ⟨d, rfl, q⟩⟩)
  refine fng_of F sc_law (lsp4_len (by rintro xs μ Q4 X4 ⟨ds, Q3, rfl, ⟨ns, rfl, _⟩, _⟩; rfl)) (fun cdv A outer s H vs Q E g hr h => ⟨_, PSs.nox
(pss_cons (ps_for PassesOwn.never rfl (pi_range1 (by rfl) T.b_range (pa_cons (pe_callB (call_max2 rfl) (by rfl) T.b_max (by decide +kernel) (pa_cons pe_int (pa_cons (pe_callB (call_min2 rfl) (by rfl) T.b_min (by decide +kernel) (pa_cons pe_int (pa_cons (toScr (pe_callB (call_lenK K) (by rfl) T.b_len PySem.boot_len (pa_cons (pv 0) pa_nil))) pa_nil))) pa_nil))) pa_nil)) (pg_name (i := 1) sc_law.nd rfl (.inl rfl))
    (pss_cons (ps_set (i := 2) sc_law.nd rfl (.inl rfl) (pe_c c__law_pot hr (by decide) (by rfl) (pa_cons (pv 0) (pa_cons (pv 1) pa_nil))))
      (pss_one (ps_if (pt_not (pt_val (pe_cG c__law_right g hr (by decide) (by rfl) (pa_cons (pv 2) (pa_cons (pe_c c__law_latches hr (by decide) (by rfl) (pa_cons (pv 2) pa_nil)) pa_nil)))))
        (pss_one (ps_ret pe_bl))
        pss_nil))))
  (pss_one (ps_ret pe_bl)))
, run4 ?go h⟩)
  case go =>
    refine ⟨_, (by walk_at "l4s"), ?_⟩
    rintro xs μ Q4 X4 ⟨ds, Q3, rfl, ⟨ns, rfl, hl, q⟩, k⟩
    walk_at "p4s"
    obtain ⟨m, em, hm⟩ := cells_at2 (n := ns.length) (m := 6) (by decide) (by decide)
    rw [em]
    refine ⟨(m : Int), rfl, by omega, by omega, ?_⟩
    rw [Int.toNat_natCast]
    refine v_for3 ⟨fun i ρ' _ => ∃ p1 p2 : Option Vl, ρ' = [some (.d (scrD K ns)), p1, p2], ⟨_, _, rfl⟩, ?_⟩
    rintro i _ μ1 ⟨p1, p2, rfl⟩
    refine ⟨fun e => ?_, fun d e => ?_⟩
    · walk_at "p4s"
      exact k _ _ q
    · obtain ⟨hi, rfl⟩ := range_at e
      walk_at "p4s"
      refine ⟨ns, _, rfl, by omega, by omega, ?_⟩
      walk_at "p4s"
      refine ⟨rfl, fun ws nd nm w1 w7 => ?_⟩
      walk_at "p4s"
      refine ⟨ws, rfl, ⟨nd, nm, w1, w7⟩, ?_⟩
      walk_at "p4s"
      exact ⟨_, _, rfl⟩
end
end K46
namespace K46
open PySem PySem.Spec PyProof.Rows L2 TB LamX NdefX
open C8 (Cal pe_c Mak pe_mk Met pe_mt pe_mt0 pss_cut tCut pe_gc)
def d_NoSuch___init__ : He.DefD := ⟨("NoSuch", some "__init__"), "__init__", "NoSuch.__init__", defArgs s_NoSuch___init__, defBody s_NoSuch___init__, defScope s_NoSuch___init__, [], []⟩
def d_ask_of : He.DefD := ⟨("ask_of", none), "ask_of", "ask_of", defArgs s_ask_of, defBody s_ask_of, defScope s_ask_of, [], []⟩
def d_Life___init__ : He.DefD := ⟨("Life", some "__init__"), "__init__", "Life.__init__", defArgs s_Life___init__, defBody s_Life___init__, defScope s_Life___init__, [], [("drafts", .adr (kwAt ("Life", some "__init__") "drafts"))]⟩
def d_Order___init__ : He.DefD := ⟨("Order", some "__init__"), "__init__", "Order.__init__", defArgs s_Order___init__, defBody s_Order___init__, defScope s_Order___init__, [.adr (He.dflAt ("Order", some "__init__") 0)], []⟩
def d_Order_want : He.DefD := ⟨("Order", some "want"), "want", "Order.want", defArgs s_Order_want, defBody s_Order_want, defScope s_Order_want, [], []⟩
def d_Order_locks : He.DefD := ⟨("Order", some "locks"), "locks", "Order.locks", defArgs s_Order_locks, defBody s_Order_locks, defScope s_Order_locks, [], []⟩
def d_Order_has : He.DefD := ⟨("Order", some "has"), "has", "Order.has", defArgs s_Order_has, defBody s_Order_has, defScope s_Order_has, [], []⟩
def d_Order_after : He.DefD := ⟨("Order", some "after"), "after", "Order.after", defArgs s_Order_after, defBody s_Order_after, defScope s_Order_after, [], []⟩
def d_Order_behind : He.DefD := ⟨("Order", some "behind"), "behind", "Order.behind", defArgs s_Order_behind, defBody s_Order_behind, defScope s_Order_behind, [], []⟩
def d_Order_leads : He.DefD := ⟨("Order", some "leads"), "leads", "Order.leads", defArgs s_Order_leads, defBody s_Order_leads, defScope s_Order_leads, [], []⟩
def d_Order_with_pair : He.DefD := ⟨("Order", some "with_pair"), "with_pair", "Order.with_pair", defArgs s_Order_with_pair, defBody s_Order_with_pair, defScope s_Order_with_pair, [], []⟩
def d_Order_added : He.DefD := ⟨("Order", some "added"), "added", "Order.added", defArgs s_Order_added, defBody s_Order_added, defScope s_Order_added, [], []⟩
def d_height_of : He.DefD := ⟨("height_of", none), "height_of", "height_of", defArgs s_height_of, defBody s_height_of, defScope s_height_of, [], []⟩
def d__law_pot : He.DefD := ⟨("_law_pot", none), "_law_pot", "_law_pot", defArgs s__law_pot, defBody s__law_pot, defScope s__law_pot, [], []⟩
def d__law_draw : He.DefD := ⟨("_law_draw", none), "_law_draw", "_law_draw", defArgs s__law_draw, defBody s__law_draw, defScope s__law_draw, [], []⟩
def d__law_name : He.DefD := ⟨("_law_name", none), "_law_name", "_law_name", defArgs s__law_name, defBody s__law_name, defScope s__law_name, [], []⟩
def d__law_number : He.DefD := ⟨("_law_number", none), "_law_number", "_law_number", defArgs s__law_number, defBody s__law_number, defScope s__law_number, [], []⟩
def d__law_odd : He.DefD := ⟨("_law_odd", none), "_law_odd", "_law_odd", defArgs s__law_odd, defBody s__law_odd, defScope s__law_odd, [], []⟩
def d__law_latches : He.DefD := ⟨("_law_latches", none), "_law_latches", "_law_latches", defArgs s__law_latches, defBody s__law_latches, defScope s__law_latches, [], []⟩
def d__law_order_of : He.DefD := ⟨("_law_order_of", none), "_law_order_of", "_law_order_of", defArgs s__law_order_of, defBody s__law_order_of, defScope s__law_order_of, [], []⟩
def d__law_some : He.DefD := ⟨("_law_some", none), "_law_some", "_law_some", defArgs s__law_some, defBody s__law_some, defScope s__law_some, [], []⟩
def d__law_life : He.DefD := ⟨("_law_life", none), "_law_life", "_law_life", defArgs s__law_life, defBody s__law_life, defScope s__law_life, [], []⟩
def d__law_refused : He.DefD := ⟨("_law_refused", none), "_law_refused", "_law_refused", defArgs s__law_refused, defBody s__law_refused, defScope s__law_refused, [], []⟩
def d__law_strange : He.DefD := ⟨("_law_strange", none), "_law_strange", "_law_strange", defArgs s__law_strange, defBody s__law_strange, defScope s__law_strange, [], []⟩
def d__law_first_wrong : He.DefD := ⟨("_law_first_wrong", none), "_law_first_wrong", "_law_first_wrong", defArgs s__law_first_wrong, defBody s__law_first_wrong, defScope s__law_first_wrong, [], []⟩
def d__law_right : He.DefD := ⟨("_law_right", none), "_law_right", "_law_right", defArgs s__law_right, defBody s__law_right, defScope s__law_right, [], []⟩
def d_law : He.DefD := ⟨("law", none), "law", "law", defArgs s_law, defBody s_law, defScope s_law, [], []⟩
def fn : List He.DefD := [d_NoSuch___init__, d_ask_of, d_Life___init__, d_Order___init__, d_Order_want, d_Order_locks, d_Order_has, d_Order_after, d_Order_behind, d_Order_leads, d_Order_with_pair, d_Order_added, d_height_of, d__law_pot, d__law_draw, d__law_name, d__law_number, d__law_odd, d__law_latches, d__law_order_of, d__law_some, d__law_life, d__law_refused, d__law_strange, d__law_first_wrong, d__law_right, d_law]
def fa : List He.Fa := [.glo "ask_of", .glo "height_of", .glo "_law_pot", .glo "_law_draw", .glo "_law_name", .glo "_law_number", .glo "_law_odd", .glo "_law_latches", .glo "_law_order_of", .glo "_law_some", .glo "_law_life", .glo "_law_refused", .glo "_law_strange", .glo "_law_first_wrong", .glo "_law_right", .glo "law", .free "len", .free "max", .free "min", .free "abs", .free "divmod", .free "range", .free "enumerate", .free "int", .free "list", .free "repr", .free "isinstance", .free "str", .free "tuple", .free "sorted", .free "all", .free "any", .free "zip", .free "dict", .free "sum", .free "bool", .glo "Order", .cls "Order", .noat "Order" "own_locks", .noat "Order" "own_pairs", .mkr "Order", .meth "Order" "want", .meth "Order" "locks", .meth "Order" "has", .meth "Order" "after", .meth "Order" "behind", .meth "Order" "leads", .meth "Order" "with_pair", .meth "Order" "added", .glo "Life", .cls "Life", .noat "Life" "place", .noat "Life" "hand", .noat "Life" "drafts", .noat "Life" "called", .mkr "Life", .glo "NoSuch", .noat "NoSuch" "who", .meth "NoSuch" "__init__", .exm "NoSuch" "NoSuch" true, .free "LookupError", .glo "HallError"]
def tf : List He.Defn := [("Order", some "with_pair"), ("_law_right", none)]
def exB (K : PySem.W.Frag) : Bool := He.dictB K PySem.sysModules && (nilB (He.dflAt ("Order", some "__init__") 0) K && (nilB (kwAt ("Life", some "__init__") "drafts") K && (decide ((He.cT K ("Order", some "with_pair")).2 ≠ (He.cT K ("_law_right", none)).2) && (L2.oexB K (He.ga K "NoSuch") L2.leB "LookupError.__new__" && (decide (PySem.W.typeIn K (.ref (He.ma K (He.ga K "NoSuch") "__init__")) = some (.type "function")) && (L2.excCB K (He.ga K "NoSuch") && (decide (PySem.W.kitOne K (.ref (He.ga K "NoSuch")) (.type "LookupError") = some true) && decide (PySem.W.exmOne K (.ref (He.ga K "NoSuch")) (.ref (He.ga K "HallError")) = some false))))))))
abbrev R : PySem.W.OpenRow := PySem.W.OpenLaw.row PySem.Challenge.rw_turnedback_k46_piles_refused
abbrev hk : PySem.W.Hook := He.hookS 6 fa fn tf exB
def ob (s : PySem.W.SharedT) : He.AlX := He.obsS 6 fa fn tf exB (HandSHeadRun.getT s)
theorem ob_eq (s : PySem.W.SharedT) : ob s = hk.obs s.abs := He.obsS_eq (HandSHeadRun.getT_eq s)
def loose : List Str := (["HallError", "NoSuch", "Ring", "held_locks", "ask_of", "height_of", "Life", "Order", "_law_pot", "_law_draw", "_law_name", "_law_number", "_law_odd", "_law_latches", "_law_order_of", "_law_some", "_law_life", "_law_refused", "_law_strange", "_law_first_wrong", "_law_right"] : List Str)
theorem run (w : World) : HandSHeadRun.RunEq R (PySem.W.view R.prog [27]) hk ob 6000 loose w := by
  intro os
  kernel_rfl
/-- the code object and its table -/
abbrev cT0 (K : PySem.W.Frag) : Addr × Addr := He.cT K ("Order", some "with_pair")
abbrev cT1 (K : PySem.W.Frag) : Addr × Addr := He.cT K ("_law_right", none)
abbrev tbK (K : PySem.W.Frag) : List (Addr × Str) := [((cT0 K).2, lamQ), ((cT1 K).2, lamR)]
theorem facts {P : Program} {w : World} {K : PySem.W.Frag} {h : Heap} {mg : Str → Option Value} {f : Addr} (X : K.In h) (G : h.Ns mainGlobals mg) (hfa : mg ("law" : Str) = some (.ref f)) (c : He.SaysX fa fn [] tf exB w h K) :
    ∃ fd : FuncData, (∀ (s : Shared) (v : Value), BindsTo s fd ⟨[v], []⟩ [("_law_script", v)]) ∧ ∀ base : Heap, K.In base → base.Ns mainGlobals mg → (∀ x ∈ tf.map (He.cT K), TabB base mg x.1 x.2) → FnG P w K mg base CX0 10 f fd ["_law_script"] (L4.spLawM K (tbK K)) := by
  obtain ⟨fd_NoSuch___init__, F_NoSuch___init__⟩ := c.t.d.def_ 0 (d := d_NoSuch___init__) rfl
  obtain ⟨fd_ask_of, F_ask_of⟩ := c.t.d.def_ 1 (d := d_ask_of) rfl
  obtain ⟨fd_Life___init__, F_Life___init__⟩ := c.t.d.def_ 2 (d := d_Life___init__) rfl
  obtain ⟨fd_Order___init__, F_Order___init__⟩ := c.t.d.def_ 3 (d := d_Order___init__) rfl
  obtain ⟨fd_Order_want, F_Order_want⟩ := c.t.d.def_ 4 (d := d_Order_want) rfl
  obtain ⟨fd_Order_locks, F_Order_locks⟩ := c.t.d.def_ 5 (d := d_Order_locks) rfl
  obtain ⟨fd_Order_has, F_Order_has⟩ := c.t.d.def_ 6 (d := d_Order_has) rfl
  obtain ⟨fd_Order_after, F_Order_after⟩ := c.t.d.def_ 7 (d := d_Order_after) rfl
  obtain ⟨fd_Order_behind, F_Order_behind⟩ := c.t.d.def_ 8 (d := d_Order_behind) rfl
  obtain ⟨fd_Order_leads, F_Order_leads⟩ := c.t.d.def_ 9 (d := d_Order_leads) rfl
  obtain ⟨fd_Order_with_pair, F_Order_with_pair⟩ := c.t.d.def_ 10 (d := d_Order_with_pair) rfl
  obtain ⟨fd_Order_added, F_Order_added⟩ := c.t.d.def_ 11 (d := d_Order_added) rfl
  obtain ⟨fd_height_of, F_height_of⟩ := c.t.d.def_ 12 (d := d_height_of) rfl
  obtain ⟨fd__law_pot, F__law_pot⟩ := c.t.d.def_ 13 (d := d__law_pot) rfl
  obtain ⟨fd__law_draw, F__law_draw⟩ := c.t.d.def_ 14 (d := d__law_draw) rfl
  obtain ⟨fd__law_name, F__law_name⟩ := c.t.d.def_ 15 (d := d__law_name) rfl
  obtain ⟨fd__law_number, F__law_number⟩ := c.t.d.def_ 16 (d := d__law_number) rfl
  obtain ⟨fd__law_odd, F__law_odd⟩ := c.t.d.def_ 17 (d := d__law_odd) rfl
  obtain ⟨fd__law_latches, F__law_latches⟩ := c.t.d.def_ 18 (d := d__law_latches) rfl
  obtain ⟨fd__law_order_of, F__law_order_of⟩ := c.t.d.def_ 19 (d := d__law_order_of) rfl
  obtain ⟨fd__law_some, F__law_some⟩ := c.t.d.def_ 20 (d := d__law_some) rfl
  obtain ⟨fd__law_life, F__law_life⟩ := c.t.d.def_ 21 (d := d__law_life) rfl
  obtain ⟨fd__law_refused, F__law_refused⟩ := c.t.d.def_ 22 (d := d__law_refused) rfl
  obtain ⟨fd__law_strange, F__law_strange⟩ := c.t.d.def_ 23 (d := d__law_strange) rfl
  obtain ⟨fd__law_first_wrong, F__law_first_wrong⟩ := c.t.d.def_ 24 (d := d__law_first_wrong) rfl
  obtain ⟨fd__law_right, F__law_right⟩ := c.t.d.def_ 25 (d := d__law_right) rfl
  obtain ⟨fd_law, F_law⟩ := c.t.d.def_ 26 (d := d_law) rfl
  have e := hfa.symm.trans (He.glo_ok X G (c.t.d.fact 15 (f := .glo "law") rfl))
  cases e
  have T : BltA mg := { b_len := He.free_ok X G (c.t.d.fact 16 (f := .free "len") rfl), b_max := He.free_ok X G (c.t.d.fact 17 (f := .free "max") rfl), b_min := He.free_ok X G (c.t.d.fact 18 (f := .free "min") rfl), b_abs := He.free_ok X G (c.t.d.fact 19 (f := .free "abs") rfl), b_divmod := He.free_ok X G (c.t.d.fact 20 (f := .free "divmod") rfl), b_range := He.free_ok X G (c.t.d.fact 21 (f := .free "range") rfl), b_enumerate := He.free_ok X G (c.t.d.fact 22 (f := .free "enumerate") rfl), b_int := He.free_ok X G (c.t.d.fact 23 (f := .free "int") rfl), b_list := He.free_ok X G (c.t.d.fact 24 (f := .free "list") rfl), b_repr := He.free_ok X G (c.t.d.fact 25 (f := .free "repr") rfl), b_isinstance := He.free_ok X G (c.t.d.fact 26 (f := .free "isinstance") rfl), b_str := He.free_ok X G (c.t.d.fact 27 (f := .free "str") rfl), b_tuple := He.free_ok X G (c.t.d.fact 28 (f := .free "tuple") rfl), b_sorted := He.free_ok X G (c.t.d.fact 29 (f := .free "sorted") rfl), b_all := He.free_ok X G (c.t.d.fact 30 (f := .free "all") rfl), b_any := He.free_ok X G (c.t.d.fact 31 (f := .free "any") rfl), b_zip := He.free_ok X G (c.t.d.fact 32 (f := .free "zip") rfl), b_dict := He.free_ok X G (c.t.d.fact 33 (f := .free "dict") rfl), b_sum := He.free_ok X G (c.t.d.fact 34 (f := .free "sum") rfl), b_bool := He.free_ok X G (c.t.d.fact 35 (f := .free "bool") rfl) }
  have b_NoSuch___init__ : Binds K fd_NoSuch___init__ ["self", "who"] [] := F_NoSuch___init__.bindsN fun _ _ _ _ _ _ us hl => match us, hl with | [_, _], _ => rfl
  have b_ask_of : Binds K fd_ask_of ["order", "pile", "lock"] [] := F_ask_of.bindsN fun _ _ _ _ _ _ us hl => match us, hl with | [_, _, _], _ => rfl
  have b_Order_want : Binds K fd_Order_want ["self", "lock"] [] := F_Order_want.bindsN fun _ _ _ _ _ _ us hl => match us, hl with | [_, _], _ => rfl
  have b_Order_locks : Binds K fd_Order_locks ["self"] [] := F_Order_locks.bindsN fun _ _ _ _ _ _ us hl => match us, hl with | [_], _ => rfl
  have b_Order_has : Binds K fd_Order_has ["self", "one", "other"] [] := F_Order_has.bindsN fun _ _ _ _ _ _ us hl => match us, hl with | [_, _, _], _ => rfl
  have b_Order_after : Binds K fd_Order_after ["self", "lock"] [] := F_Order_after.bindsN fun _ _ _ _ _ _ us hl => match us, hl with | [_, _], _ => rfl
  have b_Order_behind : Binds K fd_Order_behind ["self", "one"] [] := F_Order_behind.bindsN fun _ _ _ _ _ _ us hl => match us, hl with | [_, _], _ => rfl
  have b_Order_leads : Binds K fd_Order_leads ["self", "one", "other"] [] := F_Order_leads.bindsN fun _ _ _ _ _ _ us hl => match us, hl with | [_, _, _], _ => rfl
  have b_Order_with_pair : Binds K fd_Order_with_pair ["self", "one", "other"] [] := F_Order_with_pair.bindsN fun _ _ _ _ _ _ us hl => match us, hl with | [_, _, _], _ => rfl
  have b_Order_added : Binds K fd_Order_added ["self", "one", "other"] [] := F_Order_added.bindsN fun _ _ _ _ _ _ us hl => match us, hl with | [_, _, _], _ => rfl
  have b_height_of : Binds K fd_height_of ["line", "some"] [] := F_height_of.bindsN fun _ _ _ _ _ _ us hl => match us, hl with | [_, _], _ => rfl
  have b__law_pot : Binds K fd__law_pot ["_law_script", "_law_k"] [] := F__law_pot.bindsN fun _ _ _ _ _ _ us hl => match us, hl with | [_, _], _ => rfl
  have b__law_draw : Binds K fd__law_draw ["_law_pot_here", "_law_many"] [] := F__law_draw.bindsN fun _ _ _ _ _ _ us hl => match us, hl with | [_, _], _ => rfl
  have b__law_name : Binds K fd__law_name ["_law_pot_here", "_law_taken"] [] := F__law_name.bindsN fun _ _ _ _ _ _ us hl => match us, hl with | [_, _], _ => rfl
  have b__law_number : Binds K fd__law_number ["_law_pot_here"] [] := F__law_number.bindsN fun _ _ _ _ _ _ us hl => match us, hl with | [_], _ => rfl
  have b__law_odd : Binds K fd__law_odd ["_law_pot_here"] [] := F__law_odd.bindsN fun _ _ _ _ _ _ us hl => match us, hl with | [_], _ => rfl
  have b__law_latches : Binds K fd__law_latches ["_law_pot_here"] [] := F__law_latches.bindsN fun _ _ _ _ _ _ us hl => match us, hl with | [_], _ => rfl
  have b__law_order_of : Binds K fd__law_order_of ["_law_pot_here", "_law_latches_here"] [] := F__law_order_of.bindsN fun _ _ _ _ _ _ us hl => match us, hl with | [_, _], _ => rfl
  have b__law_some : Binds K fd__law_some ["_law_pot_here", "_law_latches_here"] [] := F__law_some.bindsN fun _ _ _ _ _ _ us hl => match us, hl with | [_, _], _ => rfl
  have b__law_life : Binds K fd__law_life ["_law_pot_here", "_law_latches_here"] [] := F__law_life.bindsN fun _ _ _ _ _ _ us hl => match us, hl with | [_, _], _ => rfl
  have b__law_refused : Binds K fd__law_refused ["_law_call", "_law_thing"] [] := F__law_refused.bindsN fun _ _ _ _ _ _ us hl => match us, hl with | [_, _], _ => rfl
  have b__law_strange : Binds K fd__law_strange ["_law_pot_here", "_law_latches_here"] [] := F__law_strange.bindsN fun _ _ _ _ _ _ us hl => match us, hl with | [_, _], _ => rfl
  have b__law_first_wrong : Binds K fd__law_first_wrong ["_law_line", "_law_some_here"] [] := F__law_first_wrong.bindsN fun _ _ _ _ _ _ us hl => match us, hl with | [_, _], _ => rfl
  have b__law_right : Binds K fd__law_right ["_law_pot_here", "_law_latches_here"] [] := F__law_right.bindsN fun _ _ _ _ _ _ us hl => match us, hl with | [_, _], _ => rfl
  have b_law := FunD.bindsA (ps := ["_law_script"]) F_law fun _ _ _ _ _ _ us hl => match us, hl with | [_], _ => rfl
  obtain ⟨ds_o, vs_o, b_o⟩ := F_Order___init__.binds1 (ps := ["self", "locks", "pairs"]) 2 0 (List.cons_ne_nil _ _) rfl (fun _ _ _ _ _ _ _ us its h1 h2 => match us, its, h1, h2 with | [_, _], [_], _, _ => ⟨_, rfl, rfl⟩)
  obtain ⟨mv_f, b_phc⟩ := F_Life___init__.kbinds0 (ps := ["self", "place", "hand", "drafts", "called"]) 1 ["place", "hand", "called"] [("drafts", .ref (kwAt ("Life", some "__init__") "drafts" K))] gLife (List.cons_ne_nil _ _) (fun q hq => hq) gLife_rel (fun _ _ _ _ _ _ us mv ws h1 h2 h3 => match us, mv, ws, h1, h2, h3 with | [_], [_], [_, _, _], _, _, _ => ⟨_, _, _, _, _, _, rfl, rfl, rfl⟩)
  refine ⟨fd_law, fun s v => b_law s [v] rfl, fun base _ _ tbs => ?_⟩
  have tb0 := tbs (cT0 K) (List.mem_cons_self)
  have tb1 := tbs (cT1 K) (List.mem_cons_of_mem _ (List.mem_cons_self))
  have c__law_draw : Cal P w K mg base 1 "_law_draw" spDraw [] := ⟨_, _, _, _, ok_draw F__law_draw T, (He.glo_ok X G (c.t.d.fact 3 (f := .glo "_law_draw") rfl)), F__law_draw.kp, b__law_draw, .nil⟩
  have c__law_pot : Cal P w K mg base 1 "_law_pot" (spPot K) [] := ⟨_, _, _, _, ok_pot F__law_pot T, (He.glo_ok X G (c.t.d.fact 2 (f := .glo "_law_pot") rfl)), F__law_pot.kp, b__law_pot, .nil⟩
  have c__law_name : Cal P w K mg base 2 "_law_name" spName [] := ⟨_, _, _, _, ok_name F__law_name T c__law_draw, (He.glo_ok X G (c.t.d.fact 4 (f := .glo "_law_name") rfl)), F__law_name.kp, b__law_name, .nil⟩
  have ex4 := c.more
  unfold exB at ex4
  simp only [Bool.and_eq_true, decide_eq_true_eq] at ex4
  obtain ⟨sysB, n1, n2, tne, o1, o2, o3, o5, o6⟩ := ex4
  have hTQ : L4.TIn (tbK K) (cT0 K).2 lamQ := ⟨List.mem_cons_self, fun x hx e => by
    rcases List.mem_cons.mp hx with rfl | hx
    · rfl
    · rw [List.mem_singleton.mp hx] at e
      exact absurd e.symm tne⟩
  have hTR : L4.TIn (tbK K) (cT1 K).2 lamR := ⟨List.mem_cons_of_mem _ List.mem_cons_self, fun x hx e => by
    rcases List.mem_cons.mp hx with rfl | hx
    · exact absurd e tne
    · exact List.mem_singleton.mp hx⟩
  have hd := nilB_ok n1
  have hdr := nilB_ok n2
  have oc : OrdC K (He.ga K "Order") := ⟨He.cls_ok (c.t.d.fact 37 (f := .cls "Order") rfl), He.noat_ok (c.t.d.fact 38 (f := .noat "Order" "own_locks") rfl), He.noat_ok (c.t.d.fact 39 (f := .noat "Order" "own_pairs") rfl)⟩
  have lc : LifC K (He.ga K "Life") := ⟨He.cls_ok (c.t.d.fact 50 (f := .cls "Life") rfl), He.noat_ok (c.t.d.fact 51 (f := .noat "Life" "place") rfl), He.noat_ok (c.t.d.fact 52 (f := .noat "Life" "hand") rfl), He.noat_ok (c.t.d.fact 53 (f := .noat "Life" "drafts") rfl), He.noat_ok (c.t.d.fact 54 (f := .noat "Life" "called") rfl)⟩
  have m_Order_want : Met P w K mg base 1 (He.ga K "Order") "want" (spWant (He.ga K "Order")) [] := ⟨_, _, _, _, He.cls_ok (c.t.d.fact 37 (f := .cls "Order") rfl), He.meth_ok (c.t.d.fact 41 (f := .meth "Order" "want") rfl), ok_Order_want F_Order_want T oc, b_Order_want, .nil⟩
  have m_Order_has : Met P w K mg base 2 (He.ga K "Order") "has" (spHas (He.ga K "Order")) [] := ⟨_, _, _, _, He.cls_ok (c.t.d.fact 37 (f := .cls "Order") rfl), He.meth_ok (c.t.d.fact 43 (f := .meth "Order" "has") rfl), ok_Order_has F_Order_has T oc m_Order_want, b_Order_has, .nil⟩
  have m_Order_after : Met P w K mg base 1 (He.ga K "Order") "after" (spAfter (He.ga K "Order")) [] := ⟨_, _, _, _, He.cls_ok (c.t.d.fact 37 (f := .cls "Order") rfl), He.meth_ok (c.t.d.fact 44 (f := .meth "Order" "after") rfl), ok_Order_after F_Order_after T oc, b_Order_after, .nil⟩
  have m_Order_behind : Met P w K mg base 2 (He.ga K "Order") "behind" (spBehind (He.ga K "Order")) [] := ⟨_, _, _, _, He.cls_ok (c.t.d.fact 37 (f := .cls "Order") rfl), He.meth_ok (c.t.d.fact 45 (f := .meth "Order" "behind") rfl), ok_Order_behind F_Order_behind T oc m_Order_want m_Order_after, b_Order_behind, .nil⟩
  have m_Order_leads : Met P w K mg base 3 (He.ga K "Order") "leads" (spLeads (He.ga K "Order")) [] := ⟨_, _, _, _, He.cls_ok (c.t.d.fact 37 (f := .cls "Order") rfl), He.meth_ok (c.t.d.fact 46 (f := .meth "Order" "leads") rfl), ok_Order_leads F_Order_leads T oc m_Order_want m_Order_behind, b_Order_leads, .nil⟩
  have m_Order_with_pair : Met P w K mg base 4 (He.ga K "Order") "with_pair" (spWith (He.ga K "Order") (cT0 K).2 lamQ) [] := ⟨_, _, _, _, He.cls_ok (c.t.d.fact 37 (f := .cls "Order") rfl), He.meth_ok (c.t.d.fact 47 (f := .meth "Order" "with_pair") rfl), ok_Order_with_pair F_Order_with_pair (code_of F_Order_with_pair) tb0 T oc m_Order_has m_Order_leads, b_Order_with_pair, .nil⟩
  have m_Order : Mak P w K mg base 1 "Order" (He.ga K "Order") (spInit K (He.ga K "Order")) [.ref (He.dflAt ("Order", some "__init__") 0 K)] := ⟨_, _, _, _, He.mkr_ok (c.t.d.fact 40 (f := .mkr "Order") rfl), ok_Order___init__ F_Order___init__ T oc, (He.glo_ok X G (c.t.d.fact 36 (f := .glo "Order") rfl)), b_o, vs_o⟩
  have m_Order_added : Met P w K mg base 5 (He.ga K "Order") "added" (spAdded (He.ga K "Order") (cT0 K).2 lamQ) [] := ⟨_, _, _, _, He.cls_ok (c.t.d.fact 37 (f := .cls "Order") rfl), He.meth_ok (c.t.d.fact 48 (f := .meth "Order" "added") rfl), ok_Order_added F_Order_added T oc hd m_Order m_Order_with_pair, b_Order_added, .nil⟩
  have m_Order_locks : Met P w K mg base 1 (He.ga K "Order") "locks" (spLocks (He.ga K "Order")) [] := ⟨_, _, _, _, He.cls_ok (c.t.d.fact 37 (f := .cls "Order") rfl), He.meth_ok (c.t.d.fact 42 (f := .meth "Order" "locks") rfl), ok_Order_locks F_Order_locks T oc, b_Order_locks, .nil⟩
  have x_draw := L3.cal_imp (sp' := L3.lsp ⟨K, tbK K⟩ none L3.pDraw) c__law_draw (L3.i_draw (fun p m H Q E h1 h2 h3 h4 h5 => ⟨p, m, rfl, h1, h2, h3, h4, h5⟩))
  have x_name := L3.cal_imp (sp' := L3.lsp ⟨K, tbK K⟩ (some 1) L3.pName) c__law_name (L3.i_name (fun p l ws H Q E h1 h2 h3 h4 h5 => ⟨p, l, ws, rfl, h1, h2, h3, h4, h5⟩))
  have x_pot := L3.cal_imp (sp' := L3.lsp ⟨K, tbK K⟩ none (L3.pPot K)) c__law_pot (L3.i_pot (X := ⟨K, tbK K⟩) (fun l ns k H Q E h1 h2 h3 h4 h5 => ⟨l, ns, k, rfl, h1, h2, h3, h4, h5⟩))
  have x_locks := L3.met_imp (sp' := L3.lsp ⟨K, tbK K⟩ none (L3.pLocks _)) m_Order_locks L3.i_locks
  have x_behind := L3.met_imp (sp' := L3.lsp ⟨K, tbK K⟩ none (L3.pBehind _)) m_Order_behind L3.i_behind
  have x_added := L3.met_imp (sp' := L3.lsp ⟨K, tbK K⟩ none (L3.pAdded _)) m_Order_added (L4.i_addedM hTQ)
  have c__law_latches : Cal P w K mg base 3 "_law_latches" (L3.lsp ⟨K, tbK K⟩ none L3.pLatches) [] := ⟨_, _, _, _, ok__law_latches F__law_latches T x_draw x_name, (He.glo_ok X G (c.t.d.fact 7 (f := .glo "_law_latches") rfl)), F__law_latches.kp, b__law_latches, .nil⟩
  have c__law_number : Cal P w K mg base 2 "_law_number" (L3.lsp ⟨K, tbK K⟩ none L3.pNumber) [] := ⟨_, _, _, _, ok__law_number F__law_number T x_draw, (He.glo_ok X G (c.t.d.fact 5 (f := .glo "_law_number") rfl)), F__law_number.kp, b__law_number, .nil⟩
  have c__law_odd : Cal P w K mg base 2 "_law_odd" (L3.lsp ⟨K, tbK K⟩ none L3.pOddN) [] := ⟨_, _, _, _, ok__law_odd F__law_odd T x_draw, (He.glo_ok X G (c.t.d.fact 6 (f := .glo "_law_odd") rfl)), F__law_odd.kp, b__law_odd, .nil⟩
  have c_height_of : Cal P w K mg base 1 "height_of" (L3.lsp ⟨K, tbK K⟩ none L3.pHeight) [] := ⟨_, _, _, _, ok_height_of F_height_of T, (He.glo_ok X G (c.t.d.fact 1 (f := .glo "height_of") rfl)), F_height_of.kp, b_height_of, .nil⟩
  have m_Life_phc : MakK P w K mg base 1 "Life" (He.ga K "Life") (spLifeI (He.ga K "Life")) ["place", "hand", "called"] (fun vs zs => gLife vs [.ref (kwAt ("Life", some "__init__") "drafts" K)] zs) := ⟨_, _, _, _, He.mkr_ok (c.t.d.fact 55 (f := .mkr "Life") rfl), ok_Life___init__ F_Life___init__ lc, (He.glo_ok X G (c.t.d.fact 49 (f := .glo "Life") rfl)), b_phc⟩
  have c__law_order_of : Cal P w K mg base 6 "_law_order_of" (L4.lsp4 ⟨K, tbK K⟩ (L4.pOrd46 (He.ga K "Order"))) [] := ⟨_, _, _, _, ok__law_order_of hd F__law_order_of T x_draw m_Order x_added, (He.glo_ok X G (c.t.d.fact 8 (f := .glo "_law_order_of") rfl)), F__law_order_of.kp, b__law_order_of, .nil⟩
  have c__law_some : Cal P w K mg base 2 "_law_some" (L3.lsp ⟨K, tbK K⟩ none L4.pSome46) [] := ⟨_, _, _, _, ok__law_some F__law_some T x_draw, (He.glo_ok X G (c.t.d.fact 9 (f := .glo "_law_some") rfl)), F__law_some.kp, b__law_some, .nil⟩
  have c__law_life : Cal P w K mg base 3 "_law_life" (L3.lsp ⟨K, tbK K⟩ none L4.pLif46) [] := ⟨_, _, _, _, ok__law_life (L4.glif_phc hdr) L4.g3phc_ok F__law_life T x_draw c__law_number m_Life_phc, (He.glo_ok X G (c.t.d.fact 10 (f := .glo "_law_life") rfl)), F__law_life.kp, b__law_life, .nil⟩
  have c__law_strange : Cal P w K mg base 3 "_law_strange" (L3.lsp ⟨K, tbK K⟩ none L4.pStr46) [] := ⟨_, _, _, _, ok__law_strange F__law_strange T x_draw c__law_odd, (He.glo_ok X G (c.t.d.fact 12 (f := .glo "_law_strange") rfl)), F__law_strange.kp, b__law_strange, .nil⟩
  have c__law_first_wrong : Cal P w K mg base 1 "_law_first_wrong" (L3.lsp ⟨K, tbK K⟩ none L4.pFw46) [] := ⟨_, _, _, _, ok__law_first_wrong F__law_first_wrong T, (He.glo_ok X G (c.t.d.fact 13 (f := .glo "_law_first_wrong") rfl)), F__law_first_wrong.kp, b__law_first_wrong, .nil⟩
  have oxN := L2.oexB_ok o1
  have b_LE := He.free_ok X G (c.t.d.fact 60 (f := .free "LookupError") rfl)
  have gN := He.glo_ok X G (c.t.d.fact 56 (f := .glo "NoSuch") rfl)
  have mtN := He.meth_ok (c.t.d.fact 58 (f := .meth "NoSuch" "__init__") rfl)
  have nW := He.noat_ok (c.t.d.fact 57 (f := .noat "NoSuch" "who") rfl)
  have m_NoSuch : L4.MkNS P w K mg base (He.ga K "NoSuch") := ⟨_, _, _, oxN, mtN.1, o2, ok_NoSuch___init__ F_NoSuch___init__ oxN b_LE nW, b_NoSuch___init__, gN⟩
  have x_ask : L2.CalX P w K mg base 3 "ask_of" (L4.lsp4 ⟨K, tbK K⟩ (L4.pAskX (He.ga K "Order") (He.ga K "NoSuch"))) [] := ⟨_, _, _, _, ok_ask_of_x F_ask_of T x_locks m_NoSuch, (He.glo_ok X G (c.t.d.fact 0 (f := .glo "ask_of") rfl)), F_ask_of.kp, b_ask_of, .nil⟩
  have x_height : L2.CalX P w K mg base 3 "height_of" (L4.lsp4 ⟨K, tbK K⟩ (L4.pHgtX (He.ga K "NoSuch"))) [] := ⟨_, _, _, _, ok_height_of_x F_height_of T m_NoSuch, (He.glo_ok X G (c.t.d.fact 1 (f := .glo "height_of") rfl)), F_height_of.kp, b_height_of, .nil⟩
  have fl__law_refused : LamX.FnL2 P w K mg base 4 "_law_refused" (L4.TT42 ⟨K, tbK K⟩ (L4.pRef46 (He.ga K "NoSuch"))) := fl__law_refused 4 F__law_refused T sysB (He.glo_ok X G (c.t.d.fact 11 (f := .glo "_law_refused") rfl)) F__law_refused.kp b__law_refused gN (He.exm_ok (c.t.d.fact 59 (f := .exm "NoSuch" "NoSuch" true) rfl)) (L2.excCB_ok o3) nW (He.glo_ok X G (c.t.d.fact 61 (f := .glo "HallError") rfl)) o6 b_LE o5
  have c__law_right : CalG P w K mg base 9 "_law_right" (L3.lsp ⟨K, tbK K⟩ none L4.pRight46) := ⟨_, _, _, ok__law_right hTR F__law_right (code_of F__law_right) tb1 T sysB c__law_order_of c__law_some c__law_life c__law_strange c__law_first_wrong x_draw c_height_of x_locks x_ask x_height fl__law_refused, (He.glo_ok X G (c.t.d.fact 14 (f := .glo "_law_right") rfl)), F__law_right.kp, b__law_right⟩
  exact L3.fng_imp (ok_law F_law T x_pot c__law_latches c__law_right) L4.law_impM
end K46
open PySem PySem.W PySem.Calls PyProof.Rows
set_option maxRecDepth 100000 in
set_option maxHeartbeats 0 in
theorem PySem.Challenge.cw_turnedback_k46_piles_refused_holds : PySem.Challenge.rw_turnedback_k46_piles_refused.Holds := by
  w_on; o_law
  refine HandSHeadRun.head_any (r := OpenLaw.row PySem.Challenge.rw_turnedback_k46_piles_refused) (q := view (OpenLaw.row PySem.Challenge.rw_turnedback_k46_piles_refused).prog [27]) (H := K46.hk) (ob := K46.ob) (M := 6000) (loose := K46.loose) (d := HandSHeadRun.topDef (OpenLaw.row PySem.Challenge.rw_turnedback_k46_piles_refused).prog 27) (kwd := []) K46.ob_eq
    (by kernel_rfl) (fun s => by kernel_rfl) K46.run (by kernel_rfl) (by kernel_rfl) (by kernel_rfl) (by rfl) (by first | assumption | decide +kernel) (by decide +kernel) ⟨rfl, rfl, rfl, rfl, rfl, by decide +kernel⟩ ?hw ?hc
  case hw => w_witness2
  case hc =>
    refine TB.walk_ofTM (l := PySem.Challenge.rw_turnedback_k46_piles_refused) (n := 63) (k := 10) (x := "_law_script") (CX := L2.CX0) rfl (by decide) (by kernel_rfl) ⟨rfl, by decide, by decide⟩ ?F (fun _ _ _ _ z => z)
    intro w mg fa h Y G hmg0
    obtain ⟨K, KX, c⟩ := Y
    have hmg : mg ("law" : PySem.Str) = some (.ref fa) := by
      have e : (HandSHeadRun.topDef (OpenLaw.row PySem.Challenge.rw_turnedback_k46_piles_refused).prog 27).name = ("law" : PySem.Str) := by kernel_rfl
      rw [← e]
      exact hmg0
    obtain ⟨fd, hb, hF⟩ := K46.facts (P := (PySem.Challenge.rw_turnedback_k46_piles_refused).prog) (w := w) KX G hmg c
    refine ⟨K, fd, L4.spLawM K (K46.tbK K), K46.tf.map (He.cT K), KX, (fun x hx => by obtain ⟨d, hd, rfl⟩ := List.mem_map.mp hx; exact c.empty _ hd), (fun x hx => by obtain ⟨d, hd, rfl⟩ := List.mem_map.mp hx; exact c.out _ hd), (fun x hx => by obtain ⟨d, hd, rfl⟩ := List.mem_map.mp hx; exact PySem.W.codeHd_of_K KX (c.hd _ hd)), hb, fun H a ns hl hO hT hS => ?_, hF⟩
    have inT : ∀ x ∈ K46.tbK K, ∃ d ∈ K46.tf, x.1 = (He.cT K d).2 := fun x hx => by
      rcases List.mem_cons.mp hx with rfl | hx
      · exact ⟨_, List.mem_cons_self, rfl⟩
      rcases List.mem_cons.mp hx with rfl | hx
      · exact ⟨_, List.mem_cons_of_mem _ (List.mem_cons_self), rfl⟩
      exact nomatch hx
    refine ⟨a, ns, rfl, hS, fun x hx => ?_, hl, hO.noT, fun x hx => ?_, fun _ => rfl⟩
    · obtain ⟨d, hd, e⟩ := inT x hx
      rw [e]
      exact TB.ne_tab hS (hT _ (List.mem_map_of_mem hd)) (c.out _ hd)
    · obtain ⟨d, hd, e⟩ := inT x hx
      rw [e]
      exact TB.TabS_nil (hT _ (List.mem_map_of_mem hd))
