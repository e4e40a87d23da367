import PyProof.Rows.All
import Wide.All
import OpenK.AllK
import Wide.FinOn
import KE.KStateDown
import HandS.ForMost
import HandS.Exc
import HandS.TryOnly
import HandS.ExcOwn
import HandS.WordsExc
import HandS.Codes
import HandS.Defaults
import HandS.MakeKwOnly
import HandS.Deep
import HandS.Flow
import HandS.Style
import HandS.IsInst
import HandS.FStr
import HandS.TupAny
import HandS.Wide
import HandS.WideBits
import HandS.Conv
import HandS.Head0
import HandS.Head1
import HandS.Head2
import HandS.HeadEnd
import HandS.HeadHook1
import HandS.HeadHook2
import HandS.Evl
import PyProof.Rows.StrRev
import HandS.SortKw
import HandS.Nested
import PyProof.TupleOfSeq
import HandS.EndTab
import HandS.HeadHook4
import HandS.Strs
import HandS.NoneIn
import HandS.SortInts
import KE.GoesMore
import PyProof.InstNe
import PyProof.NeKinds
import HandS.OwnEq
import PyProof.SetScanFacts
import HandS.Head4
import KE.DataMinMax
import KE.SortData
import HandS.Iter
import KE.KDictZip
import PyProof.ListNew
import HandS.ExcInit
import HandS.ExcField
import HandS.ExcIs
import KE.KExcInit
import HandS.RevRange
import KE.KExcIs
import HandS.Dict
import PyProof.P3In
import HandS.More
import KE.KUnpackStar
import KE.GoesEnum
import HandS.Zip
import HandS.ListItems
import HandS.DictTup
import HandS.CallLocal
import KE.KItemsList
import HandS.HeadWalk
import HandS.Head4
import PySem.Challenge.RW_turnedback_k22_what_deeds_do
set_option Elab.async false
set_option linter.all false
set_option maxRecDepth 100000
set_option maxHeartbeats 4000000
namespace TB
open PySem PySem.Spec PyProof.Rows L2
/-- no dict with tuple keys in u -/
def noT : HO → Prop
  | .dT _ => False
  | .frz _ u => noT u
  | _ => True
def NoT (H : Hp) : Prop := ∀ a o, H a = some o → noT o
theorem NoT.upd {H : Hp} {p : Addr} {o : HO} (h : NoT H) (ho : noT o) : NoT (upd H p o) := fun a u e => by
  by_cases q : a = p
  · subst q
    rw [upd_same] at e
    cases e
    exact ho
  · rw [upd_ne q] at e
    exact h a u e
/-- what u at a leans on stands in H -/
def leans (H : Hp) (a : Addr) : HO → Prop
  | .ins _ dx _ => H dx = some (.own a)
  | .frz _ u => leans H a u
  | _ => True
theorem leans_of {P : Program} {w : World} {H : Hp} {h : Heap} {a : Addr} : ∀ (o : HO), ObjOk P w H h a o → leans H a o
  | .lst _, _ => trivial
  | .tup _, _ => trivial
  | .dK _, _ => trivial
  | .dT _, _ => trivial
  | .set _ _, _ => trivial
  | .ins _ _ _, x => x.1
  | .own _, _ => trivial
  | .xd _, _ => trivial
  | .rng _ _, _ => trivial
  | .frz _ u, x => leans_of u x.2
  | .tbl _, _ => trivial
  | .met _ _, _ => trivial
  | .ext _, _ => trivial
theorem ok_leans {P : Program} {w : World} {H H' : Hp} {h : Heap} {a : Addr} : ∀ (o : HO), ObjOk P w H h a o → noT o → leans H' a o → ObjOk P w H' h a o
  | .lst _, x, _, _ => x
  | .tup _, x, _, _ => x
  | .dK _, x, _, _ => x
  | .dT _, _, n, _ => n.elim
  | .set _ _, x, _, _ => x
  | .ins _ _ _, x, _, l => ⟨l, x.2⟩
  | .own _, x, _, _ => x
  | .xd _, x, _, _ => x
  | .rng _ _, x, _, _ => x
  | .frz _ u, x, n, l => ⟨x.1, ok_leans u x.2 n l⟩
  | .tbl _, x, _, _ => x
  | .met _ _, x, _, _ => x
  | .ext _, x, _, _ => x
/-- H'' is what is still told of H' behind a call that began with H: no more than H' tells, all that H told of, and what those lean on -/
structure Fg (H H' H'' : Hp) : Prop where
  sub : ∀ b o, H'' b = some o → H' b = some o
  old : ∀ b o o', H b = some o → H' b = some o' → H'' b = some o'
  lean : ∀ a o, H'' a = some o → H a = none → leans H'' a o
  same : ∀ a o, H a = some o → leans H a o → ∀ o', H'' a = some o' → leans H'' a o'
  nt : NoT H''
theorem hok_fg {P : Program} {w : World} {H H' H'' : Hp} {h h' : Heap} (k0 : HOk P w H h) (k : HOk P w H' h') (f : Fg H H' H'') : HOk P w H'' h' := by
  intro a o e
  refine ok_leans o (k a o (f.sub a o e)) (f.nt a o e) ?_
  cases q : H a with
  | none => exact f.lean a o e q
  | some u => exact f.same a u q (leans_of u (k0 a u q)) o e
theorem un_fg {fs ex : List Addr} {H H' H'' : Hp} {h h' : Heap} (u : Un fs ex H H' h h') (f : Fg H H' H'') : Un fs ex H H'' h h' where
  keep := u.keep
  slot := u.slot
  free := fun b o e n hx => by
    have z := u.free b o e n hx
    cases q : H'' b with
    | none => rfl
    | some v =>
      rw [f.sub b v q] at z
      cases z
  there := u.there
  tups := fun b xs e => f.old b _ _ e (u.tups b xs e)
  frzs := fun b o v e => f.old b _ _ e (u.frzs b o v e)
  tbls := fun b ps e => by
    obtain ⟨m, e2⟩ := u.tbls b ps e
    exact ⟨m, f.old b _ _ e e2⟩
/-- nothing new is told -/
theorem Fg.back {H H' : Hp} (s : Same H H') (n : NoT H) : Fg H H' H := by
  refine ⟨s, fun b o o' e e' => ?_, fun a o e z => ?_, fun a o e l o' e' => ?_, n⟩
  · rw [s b o e] at e'
    cases e'
    exact e
  · rw [e] at z
    cases z
  · rw [e] at e'
    cases e'
    exact l
/-- one new thing that leans on nothing -/
theorem Fg.one {H H' : Hp} {p : Addr} {o : HO} (s : Same H H') (n : NoT H) (hp : H p = none) (e : H' p = some o) (no : noT o) (lo : ∀ H, leans H p o) : Fg H H' (upd H p o) := by
  have lk : ∀ (a : Addr) (u : HO), leans H a u → leans (upd H p o) a u := by
    intro a u
    induction u with
    | ins C dx fs =>
      intro l
      have l2 : H dx = some (.own a) := l
      show upd H p o dx = some (.own a)
      rw [upd_ne (ne_of_none l2 hp)]
      exact l2
    | frz ob v ih => exact fun l => ih l
    | _ => exact fun _ => trivial
  refine ⟨fun b u q => ?_, fun b u u' q q' => ?_, fun a u q z => ?_, fun a u q l u' q' => ?_, n.upd no⟩
  · by_cases hb : b = p
    · subst hb
      rw [upd_same] at q
      cases q
      exact e
    · rw [upd_ne hb] at q
      exact s b u q
  · have hb : b ≠ p := ne_of_none q hp
    rw [upd_ne hb, ← q', s b u q]
    exact q
  · by_cases hb : a = p
    · subst hb
      rw [upd_same] at q
      cases q
      exact lo _
    · rw [upd_ne hb, z] at q
      cases q
  · have hb : a ≠ p := ne_of_none q hp
    rw [upd_ne hb, q] at q'
    cases q'
    exact lk a u l
section
variable {P : Program} {w : World} {K : PySem.W.Frag} {mg : Str → Option Value} {base : Heap} {CX : CXT} {k : Nat} {f : Addr} {fd : FuncData} {ps : List Str} {sp sp' : Sp}
/-- a promise whose end forgets -/
theorem fn_fg (F : FnOk P w K mg base CX k f fd ps sp) (h : ∀ vs H Q E, sp' vs H Q E → sp vs H (fun v H' => ∃ H'', Fg H H' H'' ∧ Q v H'') E) : FnOk P w K mg base CX k f fd ps sp' := by
  refine ⟨fun vs H Q E q => F.len _ _ _ _ (h vs H Q E q), fun A outer s H args us vs Q E hr he hb hv hs => ?_⟩
  refine codeAny_mono (F.run A outer s H args us vs _ E hr he hb hv (h vs H Q E hs)) fun r s' c => ?_
  match r, c with
  | .ok (.ret u), ⟨v, H', os, bare, un, hok, rv, H'', fg, q⟩ => exact ⟨v, H'', os, bare, un_fg un fg, hok_fg he.hok hok fg, rv, q⟩
  | .error e, c => exact c
end
def potP (p : Addr) (h : Heap) : Prop := ∃ (a b : Int) (t u : Tok) (n : Nat), h.get? p = some { cls := .type "list", data := .seq #[.int a t, .int b u] n } ∧ 0 ≤ a ∧ 0 ≤ b ∧ b < 2147483647
/-- a pot stands at p -/
def PotO (p : Addr) : HO := .ext (potP p)
theorem pot_stay (p : Addr) : ∀ h1 h2 : Heap, potP p h1 → (∀ o, h1.get? p = some o → h2.get? p = some o) → potP p h2 := by
  rintro h1 h2 ⟨a, b, t, u, n, e, r⟩ k
  exact ⟨a, b, t, u, n, k _ e, r⟩
theorem pot_ok {P : Program} {w : World} {H H' : Hp} {h : Heap} {p : Addr} {a b : Int} (x : ObjOk P w H h p (.lst [.int a, .int b])) (ha : 0 ≤ a) (hb : 0 ≤ b) (hb2 : b < 2147483647) : ObjOk P w H' h p (PotO p) := by
  obtain ⟨_, its, n, r, e⟩ := x
  cases r with
  | cons r1 r2 => cases r2 with
    | cons r2 r3 => cases r3 with
      | nil =>
        obtain ⟨t, rfl⟩ := r1
        obtain ⟨u, rfl⟩ := r2
        exact ⟨⟨a, b, t, u, n, e, ha, hb, hb2⟩, ⟨_, e⟩, pot_stay p⟩
theorem pot_open {P : Program} {w : World} {H : Hp} {h : Heap} {p : Addr} (x : ObjOk P w H h p (PotO p)) : ∃ a b : Int, 0 ≤ a ∧ 0 ≤ b ∧ b < 2147483647 ∧ ∀ H' : Hp, ObjOk P w H' h p (.lst [.int a, .int b]) := by
  obtain ⟨⟨a, b, t, u, n, e, ha, hb, hb2⟩, _, _⟩ := x
  exact ⟨a, b, ha, hb, hb2, fun _ => ⟨(by show 2 ≤ sizeLine; decide), _, n, .cons ⟨t, rfl⟩ (.cons ⟨u, rfl⟩ .nil), e⟩⟩
theorem pot_hok {P : Program} {w : World} {H : Hp} {h : Heap} {p : Addr} {o o' : HO} (k : HOk P w H h) (e : H p = some o) (m : Mut (some o)) (x : ObjOk P w (upd H p o') h p o') : HOk P w (upd H p o') h := by
  intro b u q
  by_cases hb : b = p
  · subst hb
    rw [upd_same] at q
    cases q
    exact x
  · rw [upd_ne hb] at q
    refine (k b u q).stay (fun _ _ _ z => z) (fun c z => ?_) (fun c xs z => ?_)
    · rw [upd_ne (ne_of z e (fun y => by rw [← y] at m; exact m))]
      exact z
    · rw [upd_ne (ne_of z e (fun y => by rw [← y] at m; exact m))]
      exact z
section
variable {P : Program} {w : World} {K : PySem.W.Frag} {mg : Str → Option Value} {base : Heap} {k : Nat} {f : Addr} {fd : FuncData} {ps : List Str} {sp sp' : Sp}
/-- a def that turns a pot, told of a pot that nobody looks into -/
theorem fn_pot (F : FnOk P w K mg base CX0 k f fd ps sp)
    (h : ∀ vs H Q E, sp' vs H Q E → ∃ p, H p = some (PotO p) ∧ ∀ a b : Int, 0 ≤ a → 0 ≤ b → b < 2147483647 →
      sp vs (upd H p (.lst [.int a, .int b])) (fun v H' => ∃ a' b' : Int, 0 ≤ a' ∧ 0 ≤ b' ∧ b' < 2147483647 ∧ H' p = some (.lst [.int a', .int b']) ∧ ∃ H'', Fg H (upd H' p (PotO p)) H'' ∧ Q v H'') E) : FnOk P w K mg base CX0 k f fd ps sp' := by
  refine ⟨fun vs H Q E q => ?_, fun A outer s H args us vs Q E hr he hb hv hs => ?_⟩
  · obtain ⟨p, _, z⟩ := h vs H Q E q
    exact F.len _ _ _ _ (z 0 0 (by decide) (by decide) (by decide))
  · obtain ⟨p, hp, z⟩ := h vs H Q E hs
    obtain ⟨a, b, ha, hb0, hb1, ok⟩ := pot_open (he.hok p _ hp)
    have ok1 : HOk P w (upd H p (.lst [.int a, .int b])) s.heap := pot_hok he.hok hp trivial (ok _)
    have ne : ∀ c, H c = none → c ≠ p := fun c q z => by
      rw [z, hp] at q
      cases q
    have e1 : Env0 P w K mg base A outer s (upd H p (.lst [.int a, .int b])) := ⟨he.frames, he.mod, fun c o q => ⟨(he.bs c o q).1, by rw [upd_ne (ne c (he.bs c o q).2)]; exact (he.bs c o q).2⟩, he.bsz, he.funs, fun c q => by rw [upd_ne (ne c (he.frf c q))]; exact he.frf c q, ok1, he.bare⟩
    refine codeAny_mono (F.run A outer s _ args us vs _ E hr e1 hb hv (z a b ha hb0 hb1)) fun r s' c => ?_
    match r, c with
    | .ok (.ret u), ⟨v, H', os, bare, un, hok, rv, a', b', ha', hb', hb2', ep, H'', fg, q⟩ =>
      have hok2 : HOk P w (upd H' p (PotO p)) s'.heap := pot_hok hok ep trivial (pot_ok (hok p _ ep) ha' hb' hb2')
      have np : ∀ c o, H c = some o → o ≠ PotO p → c ≠ p := fun c o q n z => by
        rw [z, hp] at q
        cases q
        exact n rfl
      have un2 : Un (frs outer) [] H (upd H' p (PotO p)) s.heap s'.heap := by
        refine ⟨fun c o q n h1 h2 => un.keep c o q (by rw [upd_ne (ne c n)]; exact n) h1 h2, fun c o q n h1 h2 => un.slot c o q (by rw [upd_ne (ne c n)]; exact n) h1 h2, fun c o q n h2 => ?_, un.there, fun c xs q => ?_, fun c o v q => ?_, fun c qs q => ?_⟩
        · rw [upd_ne (ne c n)]
          exact un.free c o q (by rw [upd_ne (ne c n)]; exact n) h2
        · have nc := np c _ q (by intro z; cases z)
          rw [upd_ne nc]
          exact un.tups c xs (by rw [upd_ne nc]; exact q)
        · have nc := np c _ q (by intro z; cases z)
          rw [upd_ne nc]
          exact un.frzs c o v (by rw [upd_ne nc]; exact q)
        · have nc := np c _ q (by intro z; cases z)
          rw [upd_ne nc]
          exact un.tbls c qs (by rw [upd_ne nc]; exact q)
      exact ⟨v, H'', os, bare, un_fg un2 fg, hok_fg he.hok hok2 fg, rv, q⟩
/-- a def that makes a pot -/
theorem fn_mkpot (F : FnOk P w K mg base CX0 k f fd ps sp)
    (h : ∀ vs H Q E, sp' vs H Q E → sp vs H (fun v H' => ∃ (p : Addr) (a b : Int), 0 ≤ a ∧ 0 ≤ b ∧ b < 2147483647 ∧ H p = none ∧ H' p = some (.lst [.int a, .int b]) ∧ ∃ H'', Fg H (upd H' p (PotO p)) H'' ∧ Q v H'') E) : FnOk P w K mg base CX0 k f fd ps sp' := by
  refine ⟨fun vs H Q E q => F.len _ _ _ _ (h vs H Q E q), fun A outer s H args us vs Q E hr he hb hv hs => ?_⟩
  refine codeAny_mono (F.run A outer s _ args us vs _ E hr he hb hv (h vs H Q E hs)) fun r s' c => ?_
  match r, c with
  | .ok (.ret u), ⟨v, H', os, bare, un, hok, rv, p, a', b', ha', hb', hb2', np, ep, H'', fg, q⟩ =>
    have hok2 : HOk P w (upd H' p (PotO p)) s'.heap := pot_hok hok ep trivial (pot_ok (hok p _ ep) ha' hb' hb2')
    have un2 : Un (frs outer) [] H (upd H' p (PotO p)) s.heap s'.heap := by
      refine ⟨un.keep, un.slot, fun c o q n h2 => ?_, un.there, fun c xs q => ?_, fun c o v q => ?_, fun c qs q => ?_⟩
      · have z := un.free c o q n h2
        have nc : c ≠ p := fun y => by
          rw [y, ep] at z
          cases z
        rw [upd_ne nc]
        exact z
      · rw [upd_ne (ne_of_none q np)]
        exact un.tups c xs q
      · rw [upd_ne (ne_of_none q np)]
        exact un.frzs c o v q
      · rw [upd_ne (ne_of_none q np)]
        exact un.tbls c qs q
    exact ⟨v, H'', os, bare, un_fg un2 fg, hok_fg he.hok hok2 fg, rv, q⟩
end
end TB
namespace TB
open PySem PySem.Spec PyProof.Rows L2
/-- as FnOk, of calls where no guard lies below -/
structure FnG (P : Program) (w : World) (K : PySem.W.Frag) (mg : Str → Option Value) (base : Heap) (CX : CXT) (k : Nat) (f : Addr) (fd : FuncData) (ps : List Str) (sp : Sp) : Prop where
  lenG : ∀ vs H Q E, sp vs H Q E → vs.length = ps.length
  runG : ∀ (A : Around) (outer : List Env) (s : Shared) (H : Hp) (args : Args) (us : List Value) (vs : List V) (Q : VK) (E : XK), A.guards = some [] → Room k A → Env0 P w K mg base A outer s H → BindsTo s fd args (ps.zip us) → Vals vs us →
    sp vs H Q E → codeAny (model P w) A (.call (.ref f) args) (CR CX outer P w H s Q E) s
section
variable {P : Program} {w : World} {K : PySem.W.Frag} {mg : Str → Option Value} {base : Heap} {CX : CXT} {k : Nat} {f : Addr} {fd : FuncData} {ps : List Str} {sp sp' : Sp}
theorem FnG.of (F : FnOk P w K mg base CX k f fd ps sp) : FnG P w K mg base CX k f fd ps sp :=
  ⟨F.len, fun A outer s H args us vs Q E _ hr he hb hv hs => F.run A outer s H args us vs Q E hr he hb hv hs⟩
/-- a def of the text, by its body, where no guard lies below -/
theorem fng_of {x qual : Str} {params : Arguments} {body : List Stmt} {scope : Scope} {dvs : List V} {kws : List (Str × V)} {N : List Str}
    (F : FunD K x qual params body scope dvs kws f fd) (S : FnScope N ps scope) (len : ∀ vs H Q E, sp vs H Q E → vs.length = ps.length)
    (hbody : ∀ (cdv : Value) (A : Around) (outer : List Env) (s : Shared) (H : Hp) (vs : List V) (Q : VK) (E : XK), A.guards = some [] →
      Room k (A.deeper (envOfC qual scope s.heap.objs.size f cdv)) → sp vs H Q E →
      ∃ t, PSs (cxOf CX P w K mg base N qual scope f cdv A outer s H E) body t ∧ t { nx := fun _ H' => Q .non H', rt := Q } (start N vs) H) :
    FnG P w K mg base CX (k + 1) f fd ps sp := by
  obtain ⟨oc, od, dV, kV, doc, pm, an, cdv, ct, osl, rfl, lk, hcd, _, _⟩ := F.ex
  refine ⟨len, ?_⟩
  intro A outer s H args us vs Q E g hr e0 hb rv hsp
  have hl := len _ _ _ _ hsp
  have kx : K.In s.heap := e0.mod.kin.keeps (fun b o e => And.left (e0.bs b o e))
  have nl : s.heap.NoLimit := e0.mod.nolimit.keeps (fun b o e => And.left (e0.bs b o e))
  obtain ⟨t, ht, hq⟩ := hbody cdv A outer s H vs Q E g (hr.deeper _) hsp
  refine codeAny_call_function hr.depth (kx _ _ lk) rfl S.co S.gen rfl (PySem.W.codeRec_of kx hcd) (hb _ _ _ _ (wpAny_newFunctionEnv_cells S.kind ?_ ?_))
  · rintro ⟨n, v⟩ hy
    rcases S.par n (List.of_mem_zip hy).1 with z | z
    · exact Or.inl z
    · exact Or.inr ⟨z, PySem.W.cellsFrom_some _ _ _ (Or.inl z)⟩
  · rintro env rfl s1 x
    refine ⟨nl.keeps x.toInCall.keep, codeAny_func ?_⟩
    refine wpAny_mono (ht.run [] s1 (start N vs) H _ (inv_start S hr.hd e0 hl rv x) hq) ?_ (fun _ _ z => z)
    rintro (_ | _ | _ | u) s' hs
    · obtain ⟨σ', H', J, q⟩ := hs
      exact ⟨V.non, H', J.os, J.bare, J.base, J.hok, rfl, q⟩
    · exact (hs.elim fun _ z => z.elim fun _ z => z.2.elim)
    · exact (hs.elim fun _ z => z.elim fun _ z => z.2.elim)
    · obtain ⟨v, σ', H', J, r2, q⟩ := hs
      exact ⟨v, H', J.os, J.bare, J.base, J.hok, r2, q⟩
/-- a def by its name, with FnG's promise -/
structure CalG (P : Program) (w : World) (K : PySem.W.Frag) (mg : Str → Option Value) (base : Heap) (k : Nat) (x : Str) (sp : Sp) : Prop where
  gex : ∃ (f : Addr) (fd : FuncData) (ps : List Str), FnG P w K mg base CX0 k f fd ps sp ∧ mg x = some (.ref f) ∧ PySem.W.keepIn K (.ref f) = true ∧ Binds K fd ps []
end
section
variable {X : Cx} {k j : Nat} {x : Str} {sp : Sp} {p pos : Pos} {e : Expr} {es : List Expr} {t : TA}
theorem run_fng {f : Addr} {fd : FuncData} {ps : List Str} {CX : CXT} {E : XK} {pins : List (Addr × Obj)} {σ : L2.St} {H : Hp} {s : Shared} {Q : VK} {us : List Value} {vs : List V}
    (F : FnG X.prog X.w X.K X.mg X.base CX k f fd ps sp) (g : X.A.guards = some []) (hr : Room k X.A) (hb : Binds X.K fd ps []) (hx : Passes CX X E) (I : Inv X pins σ H s) (rv : Vals vs us) (h : sp vs H Q E) :
    wpAny (model X.prog X.w) X.A (call (.ref f) us) (EP X pins σ Q) X.xe s := by
  have hl : (us ++ []).length = ps.length := by
    rw [List.append_nil, ← rv.length]
    exact F.lenG _ _ _ _ h
  have hb2 := hb s us I.kIn hl
  rw [List.append_nil] at hb2
  refine wpAny_call (codeAny_mono (F.runG X.A X.stack s H ⟨us, []⟩ us vs Q E g hr I.env0 hb2 rv h) ?_)
  rintro (er | (_ | _ | _ | u)) s' hq
  · exact hx pins σ H s er s' I hq
  · exact hq.elim
  · exact hq.elim
  · exact hq.elim
  · exact I.after hq
theorem pe_cG (c : CalG X.prog X.w X.K X.mg X.base k x sp) (g : X.A.guards = some []) (hr : Room j X.A) (hk : k ≤ j) (hg : Gl X x) (ha : PA X (e :: es) t)
    (hdb : (x == ("__debug__" : Str)) = false := by decide) (he : starEach (e :: es) X.env = (false, eval e X.env) :: starEach es X.env := by rfl)
    (hpl : (backTo pos (starEach es X.env)).any (·.1) = false := by rfl) : PE X (.Call (.Name x p) (e :: es) [] pos) (tCall sp [] E0 t) := by
  obtain ⟨f, fd, ps, F, hm, kp, b⟩ := c.gex
  constructor
  intro pins s σ H Q I h
  refine wpAny_Call_Name_kw (ld_glob I hg hm ?_ hdb)
  refine PySem.W.callWith_K (h₀ := X.base) I.ok.mod.kin kp ?_ he hpl
  refine thn (ha.run pos pins s σ H _ I h) ?_
  rintro us s1 ⟨vs, H1, I1, r, q⟩
  refine ⟨I1.kIn, run_fng F g (hr.mono hk) b pass0 I1 r ?_⟩
  have q2 : sp (vs ++ []) H1 Q E0 := q
  rw [List.append_nil] at q2
  exact q2
end
theorem law_callG {P : Program} {w : World} {K : PySem.W.Frag} {mg mb : Str → Option Value} {CX : CXT} {k : Nat} {fa a : Addr} {fd : FuncData} {x : Str} {sp : Sp} {s₁ : Shared} {vs : List Value} {ns : List Int}
    (KX : K.In s₁.heap) (hns : s₁.heap.Ns mainGlobals mg) (hb : s₁.heap.Ns builtinsNs mb) (hbb : ∀ y : Str, y ≠ "__name__" → mb y = bootBuiltins y) (hlim : s₁.heap.NoLimit) (hg : s₁.gens = #[])
    (ha : s₁.heap.get? a = some { cls := .type "list", data := .seq vs.toArray }) (hi : IntsAre vs ns) (hl : ns.length ≤ sizeLine) (hr : Room k callerA)
    (F : ∀ base : Heap, K.In base → base.Ns mainGlobals mg → FnG P w K mg base CX k fa fd [x] sp) (hbind : ∀ (s : Shared) (u : Value), BindsTo s fd ⟨[u], []⟩ [(x, u)])
    (hsp : ∀ H : Hp, Only H → SqL K H a (ns.map V.int) → sp [.ref a] H (fun v _ => v = .bl true) (fun _ _ _ => False)) (hCX : ∀ H e s', CX [] H s₁ (fun _ _ _ => False) e s' → False) :
    codeAny (model P w) callerA (.call (.ref fa) ⟨[.ref a], []⟩) (fun r s' => r = .ok (.ret (.bool true)) ∧ OldK s₁.heap s'.heap ∧ s'.os = s₁.os ∧ AllBare s'.gens) s₁ := by
  have lenV := hi.length
  suffices core : ∀ H : Hp, Only H → SqL K H a (ns.map V.int) → HOk P w H s₁.heap → (∀ b, H b ≠ none → b = a) → (H a ≠ none → K.lookup a = none) →
      codeAny (model P w) callerA (.call (.ref fa) ⟨[.ref a], []⟩) (fun r s' => r = .ok (.ret (.bool true)) ∧ OldK s₁.heap s'.heap ∧ s'.os = s₁.os ∧ AllBare s'.gens) s₁ by
    cases hk : K.lookup a with
    | some o =>
      have e := (KX a o hk).symm.trans ha
      cases e
      refine core (fun _ => none) (fun _ => Or.inl rfl) (Or.inr ⟨_, vs.toArray, _, hk, rfl, rfl, rfl, ?_, ?_⟩) (fun b u z => ?_) (fun b z => absurd rfl z) (fun z => absurd rfl z)
      · rw [List.size_toArray, lenV]
        exact hl
      · rw [List.toList_toArray]
        exact vals_ints hi
      · exact nomatch (show (none : Option HO) = some u from z)
    | none =>
      let H0 : Hp := upd (fun _ => none) a (.frz { cls := .type "list", data := .seq vs.toArray } (.lst (ns.map V.int)))
      have at_ : ∀ b u, H0 b = some u → b = a ∧ u = .frz { cls := .type "list", data := .seq vs.toArray } (.lst (ns.map V.int)) := by
        intro b u z
        by_cases q : b = a
        · subst q
          have z2 : upd (fun _ => none) b (.frz { cls := .type "list", data := .seq vs.toArray } (.lst (ns.map V.int))) b = some u := z
          rw [upd_same] at z2
          exact ⟨rfl, (Option.some.inj z2).symm⟩
        · have z2 : upd (fun _ => none) a (.frz { cls := .type "list", data := .seq vs.toArray } (.lst (ns.map V.int))) b = some u := z
          rw [upd_ne q] at z2
          exact nomatch z2
      refine core H0 (fun b => ?_) (Or.inl (Or.inr ⟨_, upd_same⟩)) (fun b u z => ?_) (fun b z => ?_) (fun _ => hk)
      · cases q : H0 b with
        | none => exact Or.inl rfl
        | some u => exact Or.inr ⟨_, _, congrArg some (at_ b u q).2⟩
      · obtain ⟨rfl, rfl⟩ := at_ b u z
        refine ⟨ha, ?_, vs, _, vals_ints hi, ha⟩
        rw [List.length_map]
        exact hl
      · cases q : H0 b with
        | none => exact absurd q z
        | some u => exact (at_ b u q).1
  intro H hO hS hok hA hK
  have seqd : ∀ {b : Addr} {o : Obj} {es : Array DictEntry} {ep : Nat}, s₁.heap.get? b = some o → o.data = .dict es ep → H b = none := by
    intro b o es ep e d
    cases q : H b with
    | none => rfl
    | some u =>
      have z : b = a := hA b (by rw [q]; exact Option.some_ne_none u)
      rw [z, ha] at e
      cases e
      exact nomatch d
  have nsK : ∀ {b : Addr} {m : Str → Option Value}, s₁.heap.Ns b m → (hidT s₁.heap H).Ns b m := by
    rintro b m ⟨o, es, ep, e, d, r⟩
    exact ⟨o, es, ep, hidT_get e (seqd e d), d, r⟩
  have hKb : K.In (hidT s₁.heap H) := by
    intro b o e
    refine hidT_get (KX b o e) ?_
    cases q : H b with
    | none => rfl
    | some u =>
      have z : b = a := hA b (by rw [q]; exact Option.some_ne_none u)
      subst z
      rw [hK (by rw [q]; exact Option.some_ne_none u)] at e
      exact nomatch e
  obtain ⟨mc, h1, h2⟩ := hlim
  have hM : Mod K mg (hidT s₁.heap H) := ⟨hKb, nsK hns, ⟨mb, nsK hb, hbb⟩, ⟨mc, nsK h1, h2⟩⟩
  have e0 : Env0 P w K mg (hidT s₁.heap H) callerA [] s₁ H :=
    ⟨rfl, hM, fun b o e => of_hidT e, Nat.le_of_eq (hidT_size _ _), trivial, fun b z => (nomatch (show b ∈ ([] : List Addr) from z)), hok, .of_eq hg⟩
  refine codeAny_mono ((F _ hKb (nsK hns)).runG callerA [] s₁ H ⟨[.ref a], []⟩ [.ref a] [.ref a] _ _ rfl hr e0 (hbind s₁ (.ref a)) (.cons rfl .nil) (hsp H hO hS)) ?_
  rintro (er | (_ | _ | _ | u)) s' h
  · exact (hCX H er s' h).elim
  · exact h.elim
  · exact h.elim
  · exact h.elim
  · obtain ⟨v, H', os, bare, un, hok', r', q⟩ := h
    obtain rfl : v = .bl true := q
    obtain rfl : u = Value.bool true := r'
    refine ⟨rfl, OldK.of_keep ?_, os, bare⟩
    intro b o e
    cases q : H b with
    | none => exact un.keep b o e q (fun z => nomatch (show b ∈ ([] : List Addr) from z)) (fun z => nomatch z)
    | some y =>
      rcases hO b with z | ⟨ob, xs, z⟩
      · exact nomatch (q.symm.trans z)
      · have e1 := (hok b _ z).1
        have e2 := (hok' b _ (un.frzs b ob _ z)).1
        rw [e] at e1
        cases e1
        exact e2
theorem walk_ofG {l : PySem.W.OpenLaw} {n k : Nat} {q : Program} {loose : List Str} {XP : (Str → Option Value) → Heap → Prop} {YP : World → Heap → Prop} {d : DefRec} {CX : CXT} {x : Str}
    (hn : l.most = some n) (hn2 : n ≤ sizeLine) (hdf : d.params.defaults = []) (hr : Room k callerA)
    (F : ∀ (w : World) (mg : Str → Option Value) (fa : Addr) (h : Heap), YP w h → h.Ns mainGlobals mg → mg d.name = some (.ref fa) →
      ∃ (K : PySem.W.Frag) (fd : FuncData) (sp : Sp), K.In h ∧ (∀ (s : Shared) (u : Value), BindsTo s fd ⟨[u], []⟩ [(x, u)]) ∧
        (∀ (H : Hp) (a : Addr) (ns : List Int), ns.length ≤ n → Only H → SqL K H a (ns.map V.int) → sp [.ref a] H (fun v _ => v = .bl true) (fun _ _ _ => False)) ∧
        ∀ base : Heap, K.In base → base.Ns mainGlobals mg → FnG l.prog w K mg base CX k fa fd [x] sp)
    (hCX : ∀ (H : Hp) (s : Shared) (e : Value) (s' : Shared), CX [] H s (fun _ _ _ => False) e s' → False) :
    PySem.W.WalkO q loose XP YP l.row.toRowW d [] (fun f vs => PySem.call f vs) := by
  refine Att.attach_call hn hdf ?_
  intro w s₀ s₁ mg mb fa o pm cd doc a vs ns G Y ho hd hcd hmg hobj hints hlen hg
  obtain ⟨K, fd, sp, kx, hb, hsp, hF⟩ := F w mg fa _ Y G.T.g hmg
  exact law_callG kx G.T.g G.T.b G.T.builtins G.T.nolimit hg hobj hints (Nat.le_trans hlen hn2) hr hF hb (fun H hO hS => hsp H a ns hlen hO hS) (fun H e s' => hCX H s₁ e s')
end TB
namespace TB
open PySem PySem.Spec PyProof.Rows L2
section
variable {σ : L2.St} {H : Hp} {D : Ends} {Q : VK} {QT : Bool → Hp → Prop} {QA : List V → Hp → Prop} {t u : TS} {te ta tb : TE} {tc td : TT} {tl : TA} {g : TG} {i : Nat} {v x y : V}
theorem st_seq (h : t { D with nx := u D } σ H) : tSeq t u D σ H := h
theorem st_next (h : D.nx σ H) : tNext D σ H := h
theorem st_drop (h : te σ H fun _ H1 => D.nx σ H1) : tDrop te D σ H := h
theorem st_ret (h : te σ H D.rt) : tRet te D σ H := h
theorem st_asg (h : te σ H fun x H1 => g x σ H1 D.nx) : tAsg te g D σ H := h
theorem st_name {R : L2.St → Hp → Prop} (h : R (σ.set i (some v)) H) : gName i v σ H R := h
theorem st_var (e : σ[i]? = some (some v)) (h : Q v H) : tVar i σ H Q := ⟨v, e, h⟩
theorem st_c (h : Q v H) : tC v σ H Q := h
theorem st_op {r : R2} (h : ta σ H fun x H1 => tb σ H1 fun y H2 => r x y H2 Q) : tOp r ta tb σ H Q := h
theorem st_cons (h : ta σ H fun x H1 => tl σ H1 fun xs H2 => QA (x :: xs) H2) : tCons ta tl σ H QA := h
theorem st_nil (h : QA [] H) : tNil σ H QA := h
theorem st_cb {r : List V → Hp → VK → Prop} (h : tl σ H fun vs H1 => r vs H1 Q) : tCB r tl σ H Q := h
theorem st_call {sp : Sp} {dvs : List V} {E : XK} (h : tl σ H fun vs H1 => sp (vs ++ dvs) H1 Q E) : tCall sp dvs E tl σ H Q := h
theorem st_ifs (h : tc σ H fun b H1 => if b = true then t D σ H1 else u D σ H1) : tIfS tc t u D σ H := h
theorem st_if (h : tc σ H fun b H1 => if b = true then ta σ H1 Q else tb σ H1 Q) : tIf tc ta tb σ H Q := h
theorem st_test (h : te σ H fun x H1 => ∃ k, x = .bl k ∧ QT k H1) : tTest te σ H QT := h
theorem st_yes (h : QT true H) : tYes σ H QT := h
theorem st_lst (h : tl σ H fun xs H1 => xs.length ≤ sizeLine ∧ ∀ p, H1 p = none → Q (.ref p) (upd H1 p (.lst xs))) : tLst tl σ H Q := h
theorem st_bm {K : PySem.W.Frag} {T : String} {r : V → List V → Hp → VK → Prop} (h : te σ H fun x H1 => tyV K T x H1 ∧ tl σ H1 fun xs H2 => r x xs H2 Q) : tBM K T r te tl σ H Q := h
theorem st_m1 {r : V → List V → Hp → VK → Prop} (h : ta σ H fun x H1 => (∃ a, x = .str a) ∧ tb σ H1 fun y H2 => r x [y] H2 Q) : tM1 r ta tb σ H Q := h
theorem st_I0 {g : Int → Int → V} {i j : Int} (h : Q (g i j) H) : rI0 g (.int i) (.int j) H Q := ⟨i, j, rfl, rfl, h⟩
theorem st_I {C : Int → Int → Prop} {g : Int → Int → V} {i j : Int} (c : C i j) (h : Q (g i j) H) : rI C g (.int i) (.int j) H Q := ⟨i, j, rfl, rfl, c, h⟩
theorem st_eq (c : scal x y = true) (h : Q (.bl (decide (x = y))) H) : rEq x y H Q := ⟨c, h⟩
theorem st_bl {P : Bool → Prop} {b : Bool} (h : P b) : ∃ k, V.bl b = V.bl k ∧ P k := ⟨b, rfl, h⟩
theorem st_gtup {K : PySem.W.Frag} {n : Nat} {tg : TGs} {a : Addr} {xs : List V} {R : L2.St → Hp → Prop} (hs : SqT K H a xs) (hn : xs.length = n) (h : tg xs σ H R) : gTup K n tg (.ref a) σ H R := ⟨a, xs, rfl, hs, hn, h⟩
theorem st_gcons {g : TG} {tg : TGs} {vs : List V} {R : L2.St → Hp → Prop} (h : g v σ H fun σ' H' => tg vs σ' H' R) : gCons g tg (v :: vs) σ H R := ⟨v, vs, rfl, h⟩
theorem st_gnil {R : L2.St → Hp → Prop} (h : R σ H) : gNil [] σ H R := ⟨rfl, h⟩
theorem st_gsub {R : L2.St → Hp → Prop} {ts : V → V → V → Hp → (Hp → Prop) → Prop} (h : ta σ H fun o H1 => tb σ H1 fun i H2 => ts o i v H2 fun H3 => R σ H3) : gSub ta tb ts v σ H R := h
theorem st_ixL {K : PySem.W.Frag} {p : Addr} {xs : List V} {i : Int} (hs : SqL K H p xs) (e : atI xs i = some v) (h : Q v H) : rIxL K (.ref p) (.int i) H Q := ⟨p, xs, i, v, rfl, rfl, hs, e, h⟩
theorem st_ixS {z : Str} {i : Int} {c : Nat} (hl : z.length ≤ sizeLine) (e : atI z.cps.toList i = some c) (h : Q (.str ⟨#[c]⟩) H) : rIxS (.str z) (.int i) H Q := ⟨z, i, c, rfl, rfl, hl, e, h⟩
theorem st_setL {p : Addr} {xs : List V} {k : Int} {j : Nat} {R : Hp → Prop} (e : H p = some (.lst xs)) (n : ixN xs.length k = some j) (h : R (upd H p (.lst (xs.set j v)))) : rSetL (.ref p) (.int k) v H R := ⟨p, xs, k, j, rfl, rfl, e, n, h⟩
theorem st_in {K : PySem.W.Frag} {p : Addr} {xs : List V} (hs : SqL K H p xs) (f : flatV x = true) (a : xs.all flatV = true) (h : Q (.bl (inV x xs)) H) : rIn K false x (.ref p) H Q := ⟨p, xs, rfl, Or.inl hs, f, a, h⟩
theorem st_nin {K : PySem.W.Frag} {p : Addr} {xs : List V} (hs : SqL K H p xs) (f : flatV x = true) (a : xs.all flatV = true) (h : Q (.bl (!inV x xs)) H) : rIn K true x (.ref p) H Q := ⟨p, xs, rfl, Or.inl hs, f, a, h⟩
theorem st_append {l : Addr} {xs : List V} (h1 : H l = some (.lst xs)) (n : xs.length < sizeLine) (h : Q .non (upd H l (.lst (xs ++ [y])))) : rAppend (.ref l) [y] H Q := ⟨l, xs, y, rfl, rfl, h1, n, h⟩
end
section
variable {X : Cx} {pos : Pos}
theorem ix_listK (K : PySem.W.Frag) (hK : X.K = K := by rfl) : IxR X (rIxL K) := by subst hK; exact ix_list
theorem ix_tupK (K : PySem.W.Frag) (hK : X.K = K := by rfl) : IxR X (rIxT K) := by subst hK; exact ix_tup
theorem op_inK (K : PySem.W.Frag) (hK : X.K = K := by rfl) : OpR X (compareOp .In) (rIn K false) := by subst hK; exact op_in_seq
theorem op_ninK (K : PySem.W.Frag) (hK : X.K = K := by rfl) : OpR X (compareOp .NotIn) (rIn K true) := by subst hK; exact op_notIn_seq
theorem op_eqDK (K : PySem.W.Frag) (hu : X.A.units + 64 < cLine) (hK : X.K = K := by rfl) : OpR X (compareOp .Eq) (rEqD K) := by subst hK; exact op_eqD hu
theorem op_neDK (K : PySem.W.Frag) (hu : X.A.units + 64 < cLine) (hK : X.K = K := by rfl) : OpR X (compareOp .NotEq) (rNeD K) := by subst hK; exact op_neD hu
theorem op_catK (K : PySem.W.Frag) (hK : X.K = K := by rfl) : OpR X (binaryOp .Add) (rCatA K) := by subst hK; exact op_catA
theorem kBM (K : PySem.W.Frag) {e : Expr} {T : String} {r : V → List V → Hp → VK → Prop} {to : TE} {t : TA} (h : PE X e (tBM X.K T r to t)) (hK : X.K = K := by rfl) : PE X e (tBM K T r to t) := by subst hK; exact h
theorem kFld (K : PySem.W.Frag) {e : Expr} {f : Str} {to : TE} (h : PE X e (tFld X.K to f)) (hK : X.K = K := by rfl) : PE X e (tFld K to f) := by subst hK; exact h
theorem kPI (K : PySem.W.Frag) {tg l : Expr} {to : TE} (h : PI X tg l (iList X.K to)) (hK : X.K = K := by rfl) : PI X tg l (iList K to) := by subst hK; exact h
theorem kPT (K : PySem.W.Frag) {tg l : Expr} {to : TE} (h : PI X tg l (iTup X.K to)) (hK : X.K = K := by rfl) : PI X tg l (iTup K to) := by subst hK; exact h
theorem kPEn (K : PySem.W.Frag) {tg l : Expr} {to : TA} (h : PI X tg l (iEnum X.K to)) (hK : X.K = K := by rfl) : PI X tg l (iEnum K to) := by subst hK; exact h
theorem kTup (K : PySem.W.Frag) (n : Nat) {tg : Expr} {t : TGs} (h : PG X tg (gTup X.K n t)) (hK : X.K = K := by rfl) : PG X tg (gTup K n t) := by subst hK; exact h
def rLenL (K : PySem.W.Frag) : List V → Hp → VK → Prop := fun xs H Q => ∃ p ys, xs = [.ref p] ∧ (SqL K H p ys ∨ SqT K H p ys) ∧ Q (.int ys.length) H
theorem call_lenK (K : PySem.W.Frag) (hK : X.K = K := by rfl) : CallR X (.builtin "len") (rLenL K) := by subst hK; exact call_len_seq
def rListL (K : PySem.W.Frag) : List V → Hp → VK → Prop := fun xs H Q => ∃ p ys, xs = [.ref p] ∧ (SqL K H p ys ∨ SqT K H p ys) ∧ ∀ l, H l = none → Q (.ref l) (upd H l (.lst ys))
theorem call_listK (K : PySem.W.Frag) (hK : X.K = K := by rfl) : CallR X (.type "list") (rListL K) := by subst hK; exact call_list_of
def rTupL (K : PySem.W.Frag) : List V → Hp → VK → Prop := fun xs H Q => ∃ p ys, xs = [.ref p] ∧ ((SqL K H p ys ∧ ∀ l, H l = none → Q (.ref l) (upd H l (.tup ys))) ∨ (SqT K H p ys ∧ Q (.ref p) H))
theorem call_tupK (K : PySem.W.Frag) (hK : X.K = K := by rfl) : CallR X (.type "tuple") (rTupL K) := by subst hK; exact call_tuple_of
def rJoin (K : PySem.W.Frag) : V → List V → Hp → VK → Prop := fun x xs H Q => ∃ a p, ∃ ys : List Str, x = .str a ∧ xs = [.ref p] ∧ (SqL K H p (ys.map V.str) ∨ SqT K H p (ys.map V.str)) ∧ (ys.map (·.length)).sum + ys.length * a.length ≤ 16777216 ∧ Q (.str (Txt.join a ys)) H
theorem pe_joinK (K : PySem.W.Frag) {o e : Expr} {to te : TE} {apos : Pos} (ho : PE X o to) (he : PE X e te) (hs : starEach [e] X.env = [(false, eval e X.env)] := by rfl)
    (hbase : attributeBase o "join" X.env (eval o X.env) = eval o X.env := by rfl) (hline : (apos.endLine == pos.line) = true := by rfl) (hK : X.K = K := by rfl) :
    PE X (.Call (.Attribute o "join" apos) [e] [] pos) (tM1 (rJoin K) to te) := by
  subst hK
  exact pe_join ho he hs hbase hline
def rInt1 : List V → Hp → VK → Prop := fun xs H Q => (∃ i, xs = [.int i] ∧ Q (.int i) H) ∨ ∃ k, xs = [.bl k] ∧ Q (.int (if k then 1 else 0)) H
theorem call_intB : CallR X (.type "int") rInt1 := call_int1
end
section
variable {H : Hp} {Q : VK}
theorem st_join {K : PySem.W.Frag} {a : Str} {p : Addr} {ys : List Str} (hs : SqL K H p (ys.map V.str)) (n : (ys.map (·.length)).sum + ys.length * a.length ≤ 16777216) (h : Q (.str (Txt.join a ys)) H) : rJoin K (.str a) [.ref p] H Q := ⟨a, p, ys, rfl, rfl, Or.inl hs, n, h⟩
end
theorem old_upd {H : Hp} {p a : Addr} {o u : HO} (n : H p = none) (h : H a = some u) : upd H p o a = some u := by
  rw [upd_ne (ne_of_none h n)]
  exact h
theorem oth_upd {H : Hp} {p a : Addr} {o u : HO} (n : a ≠ p) (h : H a = some u) : upd H p o a = some u := by
  rw [upd_ne n]
  exact h
theorem nil_upd {H : Hp} {p a : Addr} {o : HO} (h : upd H p o a = none) : a ≠ p ∧ H a = none := by
  by_cases q : a = p
  · subst q
    rw [upd_same] at h
    exact nomatch h
  · rw [upd_ne q] at h
    exact ⟨q, h⟩
theorem sqL_of {K : PySem.W.Frag} {H : Hp} {a : Addr} {xs : List V} (h : H a = some (.lst xs)) : SqL K H a xs := Or.inl (Or.inl h)
theorem sqT_of {K : PySem.W.Frag} {H : Hp} {a : Addr} {xs : List V} (h : H a = some (.tup xs)) : SqT K H a xs := Or.inl (Or.inl h)
theorem NoT.lst {H : Hp} {p : Addr} {xs : List V} (h : NoT H) : NoT (L2.upd H p (.lst xs)) := h.upd trivial
theorem NoT.tup {H : Hp} {p : Addr} {xs : List V} (h : NoT H) : NoT (L2.upd H p (.tup xs)) := h.upd trivial
/-- all that H tells but what stands at ls is told by H' too -/
def Kp (ls : List Addr) (H H' : Hp) : Prop := ∀ b o, H b = some o → b ∉ ls → H' b = some o
theorem Kp.refl {ls : List Addr} (H : Hp) : Kp ls H H := fun _ _ h _ => h
theorem Kp.trans {ls : List Addr} {H H1 H2 : Hp} (a : Kp ls H H1) (b : Kp ls H1 H2) : Kp ls H H2 := fun c o h n => b c o (a c o h n) n
theorem Kp.new {ls : List Addr} {H H' : Hp} {p : Addr} {o : HO} (k : Kp ls H H') (n : H' p = none) : Kp ls H (upd H' p o) := fun b u h m => old_upd n (k b u h m)
theorem Kp.mut {ls : List Addr} {H H' : Hp} {p : Addr} {o : HO} (k : Kp ls H H') (n : p ∈ ls) : Kp ls H (upd H' p o) := fun b u h m => oth_upd (fun e => m (by rw [e]; exact n)) (k b u h m)
theorem Kp.own {ls : List Addr} {H H' : Hp} {p : Addr} {o : HO} (k : Kp ls H H') (n : H p = none) : Kp ls H (upd H' p o) := fun b u h m => oth_upd (ne_of_none h n) (k b u h m)
theorem Kp.same {H H' : Hp} (k : Kp [] H H') : Same H H' := fun b o h => k b o h (by simp)
theorem cdivP {i j : Int} (h0 : 0 < j) (h1 : j < 2 ^ 64) : CDivP i j := by
  refine ⟨h0, PyProof.noPylong_of_log2 ?_⟩
  have hn : j.natAbs < 2 ^ 64 := by omega
  exact Nat.lt_trans (PySem.Flt.log2_lt_of (by decide) hn) (by decide)
end TB
namespace TB
open PySem PySem.Spec PyProof.Rows L2
/-- the walk J yields xs, one behind another, as long as ok -/
structure Wk (J : It) (xs : List V) (ok : Hp → Prop) : Prop where
  go : ∀ i H, ok H → i < xs.length → J.go i H
  stop : ∀ i H, ok H → xs.length ≤ i → J.stop i H
  yld : ∀ i H x H', ok H → i < xs.length → J.yld i H x H' → H' = H ∧ xs[i]? = some x
theorem wk_list {K : PySem.W.Frag} {a : Addr} {xs : List V} : Wk (Itl K a) xs (fun H => SqL K H a xs) :=
  ⟨fun i H h l => ⟨xs, xs[i], h, List.getElem?_eq_getElem l⟩, fun i H h l => ⟨xs, h, l⟩, fun i H x H' h _ y => ⟨y.1, y.2 xs h⟩⟩
theorem wk_range {n : Nat} : Wk (Itr 0 n) ((List.range n).map fun i : Nat => V.int (i : Int)) (fun _ => True) := by
  refine ⟨fun i H _ l => ?_, fun i H _ l => ?_, fun i H x H' _ l y => ?_⟩
  · rw [List.length_map, List.length_range] at l
    exact l
  · rw [List.length_map, List.length_range] at l
    exact l
  · obtain ⟨e, z⟩ := y
    refine ⟨e, ?_⟩
    rw [List.length_map, List.length_range] at l
    rw [List.getElem?_map, List.getElem?_range l, z]
    show some (V.int (i : Int)) = some (V.int (0 + (i : Int)))
    rw [Int.zero_add]
def signV (c : Nat) : V := .str ⟨#[c]⟩
theorem wk_str {z : Str} : Wk (Its z) (z.cps.toList.map signV) (fun _ => True) := by
  refine ⟨fun i H _ l => ?_, fun i H _ l => ?_, fun i H x H' _ l y => ?_⟩
  · rw [List.length_map] at l
    exact l
  · rw [List.length_map] at l
    exact l
  · obtain ⟨e, c, hc, rfl⟩ := y
    refine ⟨e, ?_⟩
    rw [List.getElem?_map, Array.getElem?_toList, hc]
    rfl
/-- what a list comprehension over J asks -/
def LcG (J : It) (g : TG) (tt : TT) (te : TE) (vs : List Nat) (σ : L2.St) (Q : VK) (H1 : Hp) : Prop := ∀ D, H1 D = none → ∃ W : Nat → Nat → Hp → Prop, (∃ m, W 0 m (upd H1 D (.lst []))) ∧ ∀ i m H, W i m H →
  (J.stop i H ∧ Q (.ref D) H) ∨ (J.go i H ∧ ∃ Nx : Hp → Prop, (∀ H', Nx H' → ∃ m', m' < m ∧ W (i + 1) m' H') ∧ ∀ x H', J.yld i H x H' → g x (wipe σ vs) H' fun σ2 H2 => wipe σ2 vs = wipe σ vs ∧ tt σ2 H2 fun b H3 =>
    if b = true then te σ2 H3 fun y H4 => ∃ acc, H4 D = some (.lst acc) ∧ acc.length < sizeLine ∧ Nx (upd H4 D (.lst (acc ++ [y]))) else Nx H3)
section
variable {σ : L2.St} {H : Hp} {Q : VK} {wi : TI} {g : TG} {tt : TT} {te tl : TE} {ta : TA} {vs : List Nat} {tb : TS} {D : Ends} {R : It → Hp → Prop} {K : PySem.W.Frag}
theorem st_lc (h : wi σ H fun J H1 => LcG J g tt te vs σ Q H1) : tLc wi g tt te vs σ H Q := h
theorem st_rng1 (h : ta σ H fun vs H1 => ∃ j : Int, vs = [.int j] ∧ -(2 ^ 62) ≤ j ∧ j < 2 ^ 62 ∧ R (Itr 0 j.toNat) H1) : iRng1 ta σ H R := h
theorem st_is (h : tl σ H fun v H1 => ∃ x, v = .str x ∧ R (Its x) H1) : iStr tl σ H R := h
end
section
variable {J : It} {xs : List V} {ok : Hp → Prop} {g : TG} {tt : TT} {te : TE} {vs : List Nat} {σ : L2.St} {H1 : Hp} {Q : VK}
/-- a list comprehension: acc is what stands in the new list at D -/
theorem lc_walk (w : Wk J xs ok) (Pv : Addr → Nat → List V → Hp → Prop) (h0 : ∀ D, H1 D = none → Pv D 0 [] (upd H1 D (.lst []))) (hk : ∀ D i acc H, Pv D i acc H → ok H)
    (hs : ∀ D i x acc H, H1 D = none → xs[i]? = some x → Pv D i acc H → g x (wipe σ vs) H fun σ2 H2 => wipe σ2 vs = wipe σ vs ∧ tt σ2 H2 fun b H3 =>
      if b = true then te σ2 H3 fun y H4 => ∃ acc', H4 D = some (.lst acc') ∧ acc'.length < sizeLine ∧ ∃ a2, Pv D (i + 1) a2 (upd H4 D (.lst (acc' ++ [y]))) else ∃ a2, Pv D (i + 1) a2 H3)
    (hd : ∀ D acc H, H1 D = none → Pv D xs.length acc H → Q (.ref D) H) : LcG J g tt te vs σ Q H1 := by
  intro D nD
  refine ⟨fun i m H => m = xs.length - i ∧ i ≤ xs.length ∧ ∃ acc, Pv D i acc H, ⟨xs.length, by simp, Nat.zero_le _, [], h0 D nD⟩, ?_⟩
  rintro i m H ⟨rfl, hi, acc, p⟩
  by_cases lt : i < xs.length
  · refine Or.inr ⟨w.go i H (hk D i acc H p) lt, fun H' => ∃ acc, Pv D (i + 1) acc H', fun H' p' => ⟨xs.length - (i + 1), by omega, rfl, lt, p'⟩, fun x H' y => ?_⟩
    obtain ⟨rfl, e⟩ := w.yld i H x H' (hk D i acc H p) lt y
    exact hs D i x acc _ nD e p
  · obtain rfl : i = xs.length := by omega
    exact Or.inl ⟨w.stop _ H (hk D _ acc H p) (Nat.le_refl _), hd D acc H nD p⟩
end
/-- a tracked thing changed, nothing new told -/
theorem Fg.mut1 {H H' : Hp} {p : Addr} {o u : HO} (k : Kp [p] H H') (n : NoT H) (e : H p = some u) (e' : H' p = some o) (no : noT o) (lo : ∀ H, leans H p o) (nu : ∀ y, u ≠ .own y) : Fg H H' (upd H p o) := by
  have lk : ∀ (a : Addr) (v : HO), leans H a v → leans (upd H p o) a v := by
    intro a v
    induction v with
    | ins C dx fs =>
      intro l
      have l2 : H dx = some (.own a) := l
      exact oth_upd (fun z => nu a (by rw [z, e] at l2; exact Option.some.inj l2)) l2
    | frz ob v ih => exact fun l => ih l
    | _ => exact fun _ => trivial
  refine ⟨fun b v q => ?_, fun b v v' q q' => ?_, fun a v q z => ?_, fun a v q l v' q' => ?_, n.upd no⟩
  · by_cases hb : b = p
    · subst hb
      rw [upd_same] at q
      cases q
      exact e'
    · rw [upd_ne hb] at q
      exact k b v q (by simpa using hb)
  · by_cases hb : b = p
    · subst hb
      rw [upd_same, ← q']
      exact e'.symm
    · rw [upd_ne hb, ← q', k b v q (by simpa using hb)]
      exact q
  · by_cases hb : a = p
    · rw [hb, e] at z
      exact nomatch z
    · rw [upd_ne hb, z] at q
      exact nomatch q
  · by_cases hb : a = p
    · subst hb
      rw [upd_same] at q'
      cases q'
      exact lo _
    · rw [upd_ne hb, q] at q'
      cases q'
      exact lk a v l
abbrev tl (z : Str) : List Nat := z.cps.toList
theorem erase_perm {α : Type} : ∀ {l : List α} {j : Nat} (h : j < l.length), ([l[j]] ++ l.eraseIdx j).Perm l
  | a :: r, 0, _ => List.Perm.refl _
  | a :: r, j + 1, h => by
    have ih := erase_perm (l := r) (j := j) (Nat.lt_of_succ_lt_succ h)
    have hj : j < r.length := Nat.lt_of_succ_lt_succ h
    show (r[j]'hj :: (a :: r.eraseIdx j)).Perm (a :: r)
    exact (List.Perm.swap a (r[j]'hj) _).trans (List.Perm.cons a ih)
theorem erase_map {α β : Type} (f : α → β) : ∀ (l : List α) (j : Nat), (l.map f).eraseIdx j = (l.eraseIdx j).map f
  | [], _ => rfl
  | _ :: _, 0 => rfl
  | a :: r, j + 1 => by
    show f a :: (r.map f).eraseIdx j = f a :: (r.eraseIdx j).map f
    rw [erase_map f r j]
/-- one to eight small letters -/
def Nm (z : Str) : Prop := 1 ≤ (tl z).length ∧ (tl z).length ≤ 8 ∧ ∀ c ∈ tl z, 97 ≤ c ∧ c ≤ 122
def nmB (z : Str) : Bool := decide (1 ≤ (tl z).length) && (decide ((tl z).length ≤ 8) && (tl z).all fun c => decide (97 ≤ c) && decide (c ≤ 122))
theorem nm_of {z : Str} (h : nmB z = true) : Nm z := by
  unfold nmB at h
  simp only [Bool.and_eq_true, decide_eq_true_eq, List.all_eq_true] at h
  exact ⟨h.1, h.2.1, h.2.2⟩
theorem beq_str (a b : Str) : (a == b) = decide (a = b) := by
  cases h : (a == b) with
  | true => exact (decide_eq_true (eq_of_beq h)).symm
  | false => exact (decide_eq_false (fun e => by rw [e] at h; exact Bool.false_ne_true (h.symm.trans (beq_self_eq_true b)))).symm
theorem inV_strs (z : Str) (ws : List Str) : inV (.str z) (ws.map V.str) = decide (z ∈ ws) := by
  unfold inV
  induction ws with
  | nil => simp
  | cons a r ih =>
    rw [List.map_cons, List.any_cons, ih]
    show ((a == z) || decide (z ∈ r)) = decide (z ∈ a :: r)
    rw [beq_str]
    by_cases e : a = z
    · subst e
      simp
    · have e2 : ¬ z = a := fun q => e q.symm
      simp [e, e2]
theorem flat_strs (ws : List Str) : (ws.map V.str).all flatV = true := by
  rw [List.all_eq_true]
  intro v hv
  obtain ⟨z, _, rfl⟩ := List.mem_map.mp hv
  rfl
/-- an item of a short list at a drawn place -/
theorem at_some {xs : List V} {d : Int} (h0 : 0 ≤ d) (h1 : d < (xs.length : Int)) : ∃ v, v ∈ xs ∧ atI xs d = some v := by
  obtain ⟨j, rfl⟩ : ∃ j : Nat, d = (j : Int) := ⟨d.toNat, by omega⟩
  have hj : j < xs.length := by omega
  exact ⟨xs[j], List.getElem_mem hj, atI_nat (List.getElem?_eq_getElem hj)⟩
theorem at_some' {α : Type} {xs : List α} {d : Int} (h0 : 0 ≤ d) (h1 : d < (xs.length : Int)) : ∃ (j : Nat) (hj : j < xs.length), d = (j : Int) ∧ atI xs d = some xs[j] := by
  obtain ⟨j, rfl⟩ : ∃ j : Nat, d = (j : Int) := ⟨d.toNat, by omega⟩
  have hj : j < xs.length := by omega
  exact ⟨j, hj, rfl, atI_nat (List.getElem?_eq_getElem hj)⟩
theorem joinL_signs : ∀ cs : List Nat, TL.joinL [] (cs.map fun c => [c]) = cs
  | [] => rfl
  | [c] => rfl
  | c :: d :: r => by
    have ih := joinL_signs (d :: r)
    show [c] ++ [] ++ TL.joinL [] ((d :: r).map fun c => [c]) = c :: d :: r
    rw [ih]
    rfl
theorem join_signs (cs : List Nat) : Txt.join "" (cs.map fun c => (⟨#[c]⟩ : Str)) = ⟨cs.toArray⟩ := by
  have e := SX.join_S [] (cs.map fun c => [c])
  rw [joinL_signs, List.map_map] at e
  exact e
theorem signs_fit {cs : List Nat} (h : cs.length ≤ 1000) : ((cs.map fun c => (⟨#[c]⟩ : Str)).map (·.length)).sum + (cs.map fun c => (⟨#[c]⟩ : Str)).length * ("" : Str).length ≤ 16777216 := by
  have e : ∀ l : List Nat, ((l.map fun c => (⟨#[c]⟩ : Str)).map (·.length)).sum = l.length := by
    intro l
    induction l with
    | nil => rfl
    | cons a r ih =>
      rw [List.map_cons, List.map_cons, List.sum_cons, ih, List.length_cons]
      show 1 + r.length = r.length + 1
      omega
  have z : ("" : Str).length = 0 := rfl
  rw [e, z]
  omega
theorem nodup_le {α : Type} [DecidableEq α] : ∀ {l m : List α}, l.Nodup → (∀ x ∈ l, x ∈ m) → l.length ≤ m.length
  | [], _, _, _ => Nat.zero_le _
  | x :: l, m, h, s => by
    obtain ⟨h1, h2⟩ := List.nodup_cons.mp h
    have hx : x ∈ m := s x (List.mem_cons_self ..)
    have ih := nodup_le (l := l) (m := m.erase x) h2 fun y hy => (List.mem_erase_of_ne (fun e => h1 (by rw [← e]; exact hy))).mpr (s y (List.mem_cons_of_mem _ hy))
    rw [List.length_erase_of_mem hx] at ih
    have : 0 < m.length := List.length_pos_of_mem hx
    rw [List.length_cons]
    omega
def abc : List Nat := tl "abcdefghijklmnopqrstuvwxyz"
/-- fewer than twenty-six names leave a letter -/
theorem free_letter {ws : List Str} (h : ws.length < 26) : ∃ c r, abc.filter (fun c => !decide ((⟨#[c]⟩ : Str) ∈ ws)) = c :: r ∧ c ∈ abc ∧ (⟨#[c]⟩ : Str) ∉ ws := by
  cases e : abc.filter (fun c => !decide ((⟨#[c]⟩ : Str) ∈ ws)) with
  | cons c r =>
    have hc : c ∈ abc.filter (fun c => !decide ((⟨#[c]⟩ : Str) ∈ ws)) := by
      rw [e]
      exact List.mem_cons_self ..
    obtain ⟨h1, h2⟩ := List.mem_filter.mp hc
    refine ⟨c, r, rfl, h1, ?_⟩
    simpa using h2
  | nil =>
    have all : ∀ x ∈ abc.map (fun c => (⟨#[c]⟩ : Str)), x ∈ ws := by
      intro x hx
      obtain ⟨c, hc, rfl⟩ := List.mem_map.mp hx
      have := List.filter_eq_nil_iff.mp e c hc
      simpa using this
    have nd : (abc.map (fun c => (⟨#[c]⟩ : Str))).Nodup := by decide +kernel
    have := nodup_le nd all
    have l26 : (abc.map (fun c => (⟨#[c]⟩ : Str))).length = 26 := by decide +kernel
    omega
theorem abc_nm {c : Nat} (h : c ∈ abc) : Nm ⟨#[c]⟩ := by
  have all : ∀ c ∈ abc, 97 ≤ c ∧ c ≤ 122 := by decide +kernel
  refine ⟨by show 1 ≤ 1; decide, by show 1 ≤ 8; decide, fun d hd => ?_⟩
  have e : d = c := by simpa [tl] using hd
  subst e
  exact all d h
end TB
namespace TB
open PySem PySem.Spec PyProof.Rows L2
end TB
namespace TB
open PySem PySem.Spec PyProof.Rows L2
def dStrs (ws : List Str) : PyData := .list (ws.map .str)
def dInts (ns : List Int) : PyData := .list (ns.map .int)
section
variable {K : PySem.W.Frag} {H H' : Hp}
/-- a list of texts stands at v, to be changed -/
def LL (H : Hp) (v : V) (ws : List Str) : Prop := ∃ a, v = .ref a ∧ H a = some (.lst (ws.map V.str))
theorem LL.kp {v : V} {ws : List Str} (h : LL H v ws) (k : Kp [] H H') : LL H' v ws := by
  obtain ⟨a, e, h⟩ := h
  exact ⟨a, e, k.same _ _ h⟩
theorem LL.all (k : Kp [] H H') : ∀ {vs : List V} {wss : List (List Str)}, Paired (LL H) vs wss → Paired (LL H') vs wss
  | _, _, .nil => .nil
  | _, _, .cons h t => .cons (h.kp k) (LL.all k t)
theorem LL.ne {D : Addr} (nD : H D = none) : ∀ {vs : List V} {wss : List (List Str)}, Paired (LL H) vs wss → ∀ u ∈ vs, u ≠ .ref D
  | _, _, .nil, _, hu, _ => by simp at hu
  | _, _, .cons h t, u, hu, e => by
    rcases List.mem_cons.mp hu with q | q
    · obtain ⟨a, rfl, h⟩ := h
      rw [q] at e
      cases e
      rw [nD] at h
      exact nomatch h
    · exact LL.ne nD t u q e
end
theorem showAll_map {α : Type} {f : α → PyData} : ∀ {l : List α}, (∀ x ∈ l, (f x).showable = true) → PyData.showableAll (l.map f) = true
  | [], _ => by simp only [List.map_nil, PyData.showableAll]
  | a :: r, h => by
    simp only [List.map_cons, PyData.showableAll]
    rw [h a (List.mem_cons_self ..), showAll_map fun x hx => h x (List.mem_cons_of_mem _ hx)]
    rfl
theorem depthAll_map {α : Type} {f : α → PyData} {n : Nat} : ∀ {l : List α}, (∀ x ∈ l, (f x).depth ≤ n) → PyData.depthAll (l.map f) ≤ n
  | [], _ => by simp only [List.map_nil, PyData.depthAll]; exact Nat.zero_le _
  | a :: r, h => by
    simp only [List.map_cons, PyData.depthAll]
    exact Nat.max_le.mpr ⟨h a (List.mem_cons_self ..), depthAll_map fun x hx => h x (List.mem_cons_of_mem _ hx)⟩
theorem shownAll_map {α : Type} {f : α → PyData} : ∀ l : List α, PyData.shownAll (l.map f) = l.map fun x => (f x).shown
  | [] => by simp only [List.map_nil, PyData.shownAll]
  | a :: r => by simp only [List.map_cons, PyData.shownAll, shownAll_map r]
theorem sum_le {α : Type} {g : α → Nat} {B : Nat} : ∀ {l : List α}, (∀ x ∈ l, g x ≤ B) → (l.map g).sum ≤ l.length * B
  | [], _ => by simp
  | a :: r, h => by
    rw [List.map_cons, List.sum_cons, List.length_cons, Nat.succ_mul]
    have h1 := h a (List.mem_cons_self ..)
    have h2 := sum_le (l := r) fun x hx => h x (List.mem_cons_of_mem _ hx)
    omega
theorem shown_list_le {α : Type} {f : α → PyData} {B : Nat} {l : List α} (h : ∀ x ∈ l, (f x).shown.length ≤ B) : (PyData.list (l.map f)).shown.length ≤ l.length * B + 2 * l.length + 3 := by
  have e : (PyData.list (l.map f)).shown = listText (l.map fun x => (f x).shown) := by
    simp only [PyData.shown]
    rw [shownAll_map]
  rw [e]
  have h1 := listText_len_le (l.map fun x => (f x).shown)
  rw [List.map_map, List.length_map] at h1
  have h2 : (l.map ((fun x : Str => x.length) ∘ fun x => (f x).shown)).sum ≤ l.length * B := sum_le fun x hx => h x hx
  omega
theorem shown_nm {z : Str} (h : Nm z) : (PyData.str z).shown.length ≤ 82 := by
  simp only [PyData.shown]
  have e := StrLaws.reprText_len z fun c hc => by
    have := (h.2.2 c hc).2
    exact Nat.lt_of_le_of_lt this (by decide)
  have h8 : z.length ≤ 8 := by
    have := h.2.1
    rw [Array.length_toList] at this
    exact this
  omega
theorem strs_depth (ws : List Str) : (dStrs ws).depth ≤ 1 := by
  simp only [dStrs, PyData.depth]
  have := depthAll_map (f := PyData.str) (n := 0) (l := ws) fun x _ => by simp only [PyData.depth]; exact Nat.le_refl _
  omega
end TB
namespace TB
open PySem PySem.Spec PyProof.Rows L2 LamX NdefX
end TB
namespace TB
open PySem PySem.Spec PyProof.Rows L2 LamX NdefX SrtO Srt
end TB
namespace TB
open PySem PySem.Spec PyProof.Rows L2 LamX NdefX SrtO Srt
/-- from H to H': but for the table at P all that was is there, the table is one still -/
structure Tg (P : Addr) (q : Str) (H H' : Hp) : Prop where
  kp : Kp [P] H H'
  tab : TabS H' P q
  nt : NoT H → NoT H'
section
variable {X : Cx} {x : Str} {p pos kpos lpos : Pos} {e : Expr} {t : TA} {N fr : List Str} {x0 : Str} {js : List Nat} {k : Nat} {c P : Addr} {params : Arguments} {body : Expr} {scope : Scope} {tb : TE}
theorem kp_extN {H H' : Hp} {q : Str} (h : Kp [P] H H') (t : TabS H P q) : ExtN H H' := by
  intro b o e n
  refine h b o e (fun m => ?_)
  rw [List.mem_singleton] at m
  obtain ⟨ps, hP, _⟩ := t
  rw [m, hP] at e
  exact n ps (Option.some.inj e).symm
end
end TB
namespace TB
open PySem PySem.Spec PyProof.Rows L2 LamX
end TB
namespace TB
open PySem PySem.Spec PyProof.Rows L2 LamX
abbrev Pr := Str × Str
def Prs (H : Hp) : List V → List Pr → Prop := Paired fun (x : V) (p : Pr) => ∃ t, x = .ref t ∧ H t = some (.tup [.str p.1, .str p.2])
theorem Prs.keep {H H' : Hp} {rs : List V} {ps : List Pr} (h : Prs H rs ps) (k : ∀ b xs, H b = some (.tup xs) → H' b = some (.tup xs)) : Prs H' rs ps := Paired.mapP h fun x p ⟨t, e, z⟩ => ⟨t, e, k _ _ z⟩
theorem Prs.app {H : Hp} : ∀ {rs rs' : List V} {ps ps' : List Pr}, Prs H rs ps → Prs H rs' ps' → Prs H (rs ++ rs') (ps ++ ps')
  | _, _, _, _, .nil, h => h
  | _, _, _, _, .cons a r, h => .cons a (Prs.app r h)
theorem Prs.len {H : Hp} {rs : List V} {ps : List Pr} (h : Prs H rs ps) : rs.length = ps.length := Paired.length h
/-- the pair that x is in H -/
def decP (H : Hp) (x : V) : Pr := match x with
  | .ref t => match H t with
    | some (.tup [.str a, .str b]) => (a, b)
    | _ => (⟨#[]⟩, ⟨#[]⟩)
  | _ => (⟨#[]⟩, ⟨#[]⟩)
theorem decP_eq {H : Hp} {t : Addr} {p : Pr} (h : H t = some (.tup [.str p.1, .str p.2])) : decP H (.ref t) = p := by
  show (match H t with
    | some (.tup [.str a, .str b]) => (a, b)
    | _ => ((⟨#[]⟩, ⟨#[]⟩) : Pr)) = p
  rw [h]
theorem Prs.mem {H : Hp} : ∀ {rs : List V} {ps : List Pr}, Prs H rs ps → ∀ x ∈ rs, ∃ t, x = .ref t ∧ decP H x ∈ ps ∧ H t = some (.tup [.str (decP H x).1, .str (decP H x).2])
  | _, _, .nil, x, hx => nomatch hx
  | _, _, .cons ⟨t, e, z⟩ r, x, hx => by
    rcases List.mem_cons.mp hx with q | q
    · refine ⟨t, q.trans e, ?_⟩
      rw [q, e, decP_eq z]
      exact ⟨List.mem_cons_self, z⟩
    · obtain ⟨t2, e2, m, z2⟩ := Prs.mem r x q
      exact ⟨t2, e2, List.mem_cons_of_mem _ m, z2⟩
theorem strOk_nm {z : Str} (h : Nm z) : PyData.strOk z = true := by
  unfold PyData.strOk
  rw [Array.all_eq_true_iff_forall_mem]
  intro c hc
  have h1 := h.2.2 c (Array.mem_toList_iff.mpr hc)
  exact decide_eq_true (by omega)
section
variable {X : Cx}
theorem kSFld (K : PySem.W.Frag) {st : Stmt} {ta tv : TE} {f : Str} (h : PS X st (sFld X.K ta tv f)) (hK : X.K = K := by rfl) : PS X st (sFld K ta tv f) := by subst hK; exact h
/-- isinstance(x, str) of a text -/
def rIsStr : List V → Hp → VK → Prop := fun xs H Q => ∃ z, xs = [.str z, .ty "str"] ∧ Q (.bl true) H
theorem call_isStr : CallR X (.builtin "isinstance") rIsStr := by
  intro pins s σ H vs us Q I r h
  obtain ⟨z, rfl, q⟩ := h
  exact call_isi pins s σ H _ us Q I r ⟨.str z, .ty "str", .type "str", .type "str", true, rfl, .ty "str", .base (.str z), rfl, q⟩
end
section
variable {σ : L2.St} {Q : VK} {tt : TT} {te : TE} {g : TG} {xs : List V} {vs : List Nat} {H1 : Hp} {J : It} {ok : Hp → Prop}
theorem take_next {α : Type} {l : List α} {i : Nat} {x : α} (h : l[i]? = some x) : l.take (i + 1) = l.take i ++ [x] := by
  rw [List.take_add_one, h]
  rfl
end
end TB
namespace TB
open PySem PySem.Spec PyProof.Rows L2 LamX
/-- the tuple at a, of these texts, made here -/
def LkAt (H : Hp) (a : Addr) (ls : List Str) : Prop := ∃ o : Obj, o.dict = none ∧ H a = some (.frz o (.tup (ls.map V.str)))
theorem LkAt.keep {H H' : Hp} {a : Addr} {ls : List Str} (h : LkAt H a ls) (k : ∀ o u, H a = some (.frz o u) → H' a = some (.frz o u)) : LkAt H' a ls := by
  obtain ⟨o, d, e⟩ := h
  exact ⟨o, d, k _ _ e⟩
end TB
namespace TB
open PySem PySem.Spec PyProof.Rows L2 LamX
/-- by pairs one comes from a to b -/
inductive Rch (ps : List Pr) : Str → Str → Prop
  | one {a b : Str} : (a, b) ∈ ps → Rch ps a b
  | step {a b c : Str} : Rch ps a b → (b, c) ∈ ps → Rch ps a c
theorem Rch.trans {ps : List Pr} {a b c : Str} (h : Rch ps a b) (k : Rch ps b c) : Rch ps a c := by
  induction k with
  | one m => exact .step h m
  | step _ m ih => exact .step ih m
theorem Rch.mono {ps qs : List Pr} (s : ∀ p ∈ ps, p ∈ qs) {a b : Str} (h : Rch ps a b) : Rch qs a b := by
  induction h with
  | one m => exact .one (s _ m)
  | step _ m ih => exact .step ih (s _ m)
def afterP (ps : List Pr) (z : Str) : List Str := ps.filterMap fun p => if p.1 = z then some p.2 else none
theorem mem_afterP {ps : List Pr} {z c : Str} : c ∈ afterP ps z ↔ (z, c) ∈ ps := by
  unfold afterP
  rw [List.mem_filterMap]
  constructor
  · rintro ⟨p, hp, e⟩
    by_cases q : p.1 = z
    · rw [if_pos q] at e
      have e2 : p.2 = c := Option.some.inj e
      rw [← q, ← e2]
      exact hp
    · rw [if_neg q] at e
      exact nomatch e
  · intro h
    exact ⟨(z, c), h, if_pos rfl⟩
theorem nodup_afterP : ∀ {ps : List Pr} {z : Str}, ps.Nodup → (afterP ps z).Nodup
  | [], _, _ => List.nodup_nil
  | p :: r, z, h => by
    have h2 := List.nodup_cons.mp h
    have ih := nodup_afterP (z := z) h2.2
    show ((p :: r).filterMap fun p => if p.1 = z then some p.2 else none).Nodup
    by_cases q : p.1 = z
    · rw [List.filterMap_cons, if_pos q]
      refine List.nodup_cons.mpr ⟨fun m => ?_, ih⟩
      have m2 : (z, p.2) ∈ r := mem_afterP.mp m
      rw [← q] at m2
      exact h2.1 m2
    · rw [List.filterMap_cons, if_neg q]
      exact ih
/-- the place of z in ls -/
def ixS (ls : List Str) (z : Str) : Nat := ls.findIdx (fun y => decide (y = z))
theorem ixS_at {ls : List Str} {z : Str} (h : z ∈ ls) : ls[ixS ls z]? = some z ∧ ∀ m, m < ixS ls z → ls[m]? ≠ some z := by
  have h1 : ixS ls z < ls.length := List.findIdx_lt_length_of_exists ⟨z, h, decide_eq_true rfl⟩
  refine ⟨?_, fun m hm e => ?_⟩
  · have h2 := List.findIdx_getElem (p := fun y => decide (y = z)) (w := h1)
    have h3 := of_decide_eq_true h2
    rw [List.getElem?_eq_getElem h1]
    exact congrArg some h3
  · have h2 := List.not_of_lt_findIdx (p := fun y => decide (y = z)) (xs := ls) hm
    obtain ⟨hl, e2⟩ := List.getElem?_eq_some_iff.mp e
    rw [e2] at h2
    exact absurd rfl (of_decide_eq_false h2)
def keyP (ls : List Str) (p : Pr) : Int × Int := ((ixS ls p.1 : Int), (ixS ls p.2 : Int))
/-- in the order of the locks' places -/
def SortP (ls : List Str) (ps : List Pr) : Prop := ps.Pairwise fun p q => SrtO.lexB (keyP ls q) (keyP ls p) = false
structure OrdOk (ls : List Str) (ps : List Pr) : Prop where
  nd : ls.Nodup
  nm : ∀ z ∈ ls, Nm z
  len : ls.length ≤ 30
  mem : ∀ p ∈ ps, p.1 ∈ ls ∧ p.2 ∈ ls
  pnd : ps.Nodup
  srt : SortP ls ps
theorem OrdOk.nil {ls : List Str} (nd : ls.Nodup) (nm : ∀ z ∈ ls, Nm z) (len : ls.length ≤ 30) : OrdOk ls [] := ⟨nd, nm, len, (fun _ z => nomatch z), List.nodup_nil, List.Pairwise.nil⟩
def OrdAt (C : Addr) (H : Hp) (x : Addr) (ls : List Str) (ps : List Pr) : Prop := ∃ (dx tl tp : Addr) (rs : List V), H x = some (.ins C dx [("own_locks", .ref tl), ("own_pairs", .ref tp)]) ∧ LkAt H tl ls ∧ H tp = some (.tup rs) ∧ Prs H rs ps
theorem OrdAt.kp {C : Addr} {lo : List Addr} {H H' : Hp} {x : Addr} {ls : List Str} {ps : List Pr} (h : OrdAt C H x ls ps) (k : Kp lo H H') (n : ∀ a ∈ lo, ∀ o, H a = some o → (∀ xs, o ≠ .tup xs) ∧ (∀ ob u, o ≠ .frz ob u) ∧ ∀ C dx fs, o ≠ .ins C dx fs) : OrdAt C H' x ls ps := by
  obtain ⟨dx, tl, tp, rs, h1, h2, h3, h4⟩ := h
  have kt : ∀ b xs, H b = some (.tup xs) → H' b = some (.tup xs) := fun b xs e => k b _ e (fun m => (n b m _ e).1 xs rfl)
  exact ⟨dx, tl, tp, rs, k _ _ h1 (fun m => (n x m _ h1).2.2 _ _ _ rfl), h2.keep (fun ob u e => k _ _ e (fun m => (n tl m _ e).2.1 ob u rfl)), kt _ _ h3, h4.keep kt⟩
theorem OrdAt.same {C : Addr} {H H' : Hp} {x : Addr} {ls : List Str} {ps : List Pr} (h : OrdAt C H x ls ps) (k : ∀ b o, H b = some o → H' b = some o) : OrdAt C H' x ls ps := h.kp (lo := []) (fun b o e _ => k b o e) (fun _ z => nomatch z)
theorem OrdAt.new {C : Addr} {H : Hp} {x p : Addr} {o : HO} {ls : List Str} {ps : List Pr} (h : OrdAt C H x ls ps) (n : H p = none) : OrdAt C (upd H p o) x ls ps := h.same fun _ _ e => old_upd n e
theorem OrdAt.lst {C : Addr} {H : Hp} {x p : Addr} {o : HO} {ys : List V} {ls : List Str} {ps : List Pr} (h : OrdAt C H x ls ps) (n : H p = some (.lst ys)) : OrdAt C (upd H p o) x ls ps :=
  h.kp (lo := [p]) (fun b u e m => oth_upd (fun z => m (List.mem_singleton.mpr z)) e) (fun a m u e => by
    rw [List.mem_singleton.mp m, n] at e
    cases e
    exact ⟨(fun _ z => nomatch z), (fun _ _ z => nomatch z), (fun _ _ _ z => nomatch z)⟩)
theorem TabS.new {T p : Addr} {q : Str} {H : Hp} {o : HO} (t : TabS H T q) (n : H p = none) : TabS (upd H p o) T q := t.ext fun _ _ e => old_upd n e
theorem TabS.mut {T p : Addr} {q : Str} {H : Hp} {o : HO} {ys : List V} (t : TabS H T q) (n : H p = some (.lst ys)) : TabS (upd H p o) T q := by
  obtain ⟨tb, h1, h2, h3⟩ := t
  refine ⟨tb, oth_upd (ne_of h1 n (fun z => nomatch z)) h1, h2, fun pos cv hc => ?_⟩
  obtain ⟨c, e, h⟩ := h3 pos cv hc
  exact ⟨c, e, oth_upd (ne_of h n (fun z => nomatch z)) h⟩
theorem Tg.refl {T : Addr} {q : Str} {H : Hp} (t : TabS H T q) : Tg T q H H := ⟨Kp.refl H, t, id⟩
theorem Tg.trans {T : Addr} {q : Str} {H H1 H2 : Hp} (a : Tg T q H H1) (b : Tg T q H1 H2) : Tg T q H H2 := ⟨a.kp.trans b.kp, b.tab, fun n => b.nt (a.nt n)⟩
theorem Tg.new {T p : Addr} {q : Str} {H H' : Hp} {o : HO} (a : Tg T q H H') (n : H' p = none) (no : noT o) : Tg T q H (upd H' p o) := ⟨a.kp.new n, TabS.new a.tab n, fun z => (a.nt z).upd no⟩
theorem Tg.at {T : Addr} {q : Str} {H H' : Hp} (a : Tg T q H H') (t : TabS H T q) {b : Addr} {o : HO} (e : H b = some o) (n : ∀ ps, o ≠ .tbl ps) : H' b = some o := kp_extN a.kp t b o e n
theorem Tg.none {T : Addr} {q : Str} {H H' : Hp} (a : Tg T q H H') (t : TabS H T q) {b : Addr} (e : H' b = none) : H b = none := by
  cases q2 : H b with
  | none => rfl
  | some o =>
    by_cases z : b = T
    · obtain ⟨tb, e2, _⟩ := a.tab
      rw [z, e2] at e
      exact nomatch e
    · rw [a.kp b o q2 (fun m => z (List.mem_singleton.mp m))] at e
      exact nomatch e
end TB
namespace TB
open PySem PySem.Spec PyProof.Rows L2 LamX
structure BltA (mg : Str → Option Value) : Prop where
  b_len : mg "len" = none
  b_max : mg "max" = none
  b_min : mg "min" = none
  b_abs : mg "abs" = none
  b_divmod : mg "divmod" = none
  b_range : mg "range" = none
  b_enumerate : mg "enumerate" = none
  b_int : mg "int" = none
  b_list : mg "list" = none
  b_repr : mg "repr" = none
  b_isinstance : mg "isinstance" = none
  b_str : mg "str" = none
  b_tuple : mg "tuple" = none
  b_sorted : mg "sorted" = none
  b_all : mg "all" = none
  b_any : mg "any" = none
  b_zip : mg "zip" = none
  b_dict : mg "dict" = none
  b_sum : mg "sum" = none
  b_bool : mg "bool" = none
abbrev FnP (K : PySem.W.Frag) (x : Str) (st : Stmt) (f : Addr) (fd : FuncData) : Prop := FunD K x x (defArgs st) (defBody st) (defScope st) [] [] f fd
abbrev FnM (K : PySem.W.Frag) (x qual : Str) (st : Stmt) (dvs : List V) (f : Addr) (fd : FuncData) : Prop := FunD K x qual (defArgs st) (defBody st) (defScope st) dvs [] f fd
theorem hu65 {k : Nat} {A : Around} (h : Room k A) : A.units + 65 < cLine := by
  have := h.un
  omega
section
variable {σ : L2.St} {H : Hp} {D : Ends} {Q : VK} {ta tv : TE} {tl : TA} {K : PySem.W.Frag} {C x dx : Addr} {fs : List (Str × V)} {f m : Str} {v : V} {sp : Sp} {dvs : List V} {E : XK}
theorem st_sfld (h : tv σ H fun y H1 => ta σ H1 fun x H2 => ∃ a C dx fs, x = .ref a ∧ H2 a = some (.ins C dx fs) ∧ Cls K C ∧ NoAttr K C f ∧ fs.length < 1000 ∧ D.nx σ (upd H2 a (.ins C dx (putF f y fs)))) : sFld K ta tv f D σ H := h
end
end TB
namespace TB
open PySem PySem.Spec PyProof.Rows L2 LamX
structure BInv (ls : List Str) (ps : List Pr) (a : Str) (fs lf : List Str) : Prop where
  nd : fs.Nodup
  sub : ∀ z ∈ fs, Rch ps a z
  ins : ∀ z ∈ fs, z ∈ ls
  lft : ∀ z ∈ lf, z = a ∨ z ∈ fs
  cl : ∀ z, z = a ∨ z ∈ fs → z ∈ lf ∨ ∀ c, (z, c) ∈ ps → c ∈ fs
def moreP (ps : List Pr) (fs : List Str) (l : Str) : List Str := (afterP ps l).filter fun z => !decide (z ∈ fs)
theorem mem_moreP {ps : List Pr} {fs : List Str} {l z : Str} : z ∈ moreP ps fs l ↔ (l, z) ∈ ps ∧ z ∉ fs := by
  unfold moreP
  rw [List.mem_filter, mem_afterP]
  simp
theorem BInv.step {ls : List Str} {ps : List Pr} {a l : Str} {fs lf : List Str} (ok : OrdOk ls ps) (b : BInv ls ps a fs (lf ++ [l])) : BInv ls ps a (fs ++ moreP ps fs l) (lf ++ moreP ps fs l) := by
  have hl : l = a ∨ l ∈ fs := b.lft l (List.mem_append_right _ (List.mem_singleton.mpr rfl))
  have rl : ∀ z, (l, z) ∈ ps → Rch ps a z := by
    intro z hz
    rcases hl with e | m
    · rw [e] at hz
      exact .one hz
    · exact .step (b.sub l m) hz
  refine ⟨?_, ?_, ?_, ?_, ?_⟩
  · refine List.nodup_append.mpr ⟨b.nd, (nodup_afterP ok.pnd).filter _, ?_⟩
    intro u hu v hv e
    exact (mem_moreP.mp hv).2 (e ▸ hu)
  · intro z hz
    rcases List.mem_append.mp hz with m | m
    · exact b.sub z m
    · exact rl z (mem_moreP.mp m).1
  · intro z hz
    rcases List.mem_append.mp hz with m | m
    · exact b.ins z m
    · exact (ok.mem _ (mem_moreP.mp m).1).2
  · intro z hz
    rcases List.mem_append.mp hz with m | m
    · rcases b.lft z (List.mem_append_left _ m) with e | e
      · exact Or.inl e
      · exact Or.inr (List.mem_append_left _ e)
    · exact Or.inr (List.mem_append_right _ m)
  · intro z hz
    by_cases hzl : z = l
    · refine Or.inr (fun c hc => ?_)
      rw [hzl] at hc
      by_cases m : c ∈ fs
      · exact List.mem_append_left _ m
      · exact List.mem_append_right _ (mem_moreP.mpr ⟨hc, m⟩)
    · by_cases m : z = a ∨ z ∈ fs
      · rcases b.cl z m with e | e
        · rcases List.mem_append.mp e with e2 | e2
          · exact Or.inl (List.mem_append_left _ e2)
          · exact absurd (List.mem_singleton.mp e2) hzl
        · exact Or.inr (fun c hc => List.mem_append_left _ (e c hc))
      · refine Or.inl (List.mem_append_right _ ?_)
        rcases hz with e | e
        · exact absurd (Or.inl e) m
        · rcases List.mem_append.mp e with e2 | e2
          · exact absurd (Or.inr e2) m
          · exact e2
theorem BInv.done {ls : List Str} {ps : List Pr} {a : Str} {fs : List Str} (b : BInv ls ps a fs []) (z : Str) : z ∈ fs ↔ Rch ps a z := by
  refine ⟨b.sub z, fun h => ?_⟩
  induction h with
  | one m => exact (b.cl _ (Or.inl rfl)).elim (fun e => nomatch e) (fun e => e _ m)
  | step _ m ih => exact (b.cl _ (Or.inr ih)).elim (fun e => nomatch e) (fun e => e _ m)
end TB
namespace TB
open PySem PySem.Spec PyProof.Rows L2 LamX NdefX
/-- the new list of pairs -/
theorem OrdOk.add {ls : List Str} {ps qs : List Pr} {a b : Str} (h : OrdOk ls ps) (ha : a ∈ ls) (hb : b ∈ ls) (hn : (a, b) ∉ ps) (pm : qs.Perm (ps ++ [(a, b)])) (sr : SortP ls qs) : OrdOk ls qs ∧ ∀ z, z ∈ qs ↔ z ∈ ps ∨ z = (a, b) := by
  have mm : ∀ z, z ∈ qs ↔ z ∈ ps ∨ z = (a, b) := by
    intro z
    rw [pm.mem_iff, List.mem_append, List.mem_singleton]
  refine ⟨⟨h.nd, h.nm, h.len, fun p hp => ?_, ?_, sr⟩, mm⟩
  · rcases (mm p).mp hp with e | e
    · exact h.mem p e
    · rw [e]
      exact ⟨ha, hb⟩
  · refine pm.nodup_iff.mpr (List.nodup_append.mpr ⟨h.pnd, by simp, fun u hu v hv e => hn ?_⟩)
    rw [List.mem_singleton.mp hv] at e
    rw [← e]
    exact hu
end TB
namespace TB
open PySem PySem.Spec PyProof.Rows L2 LamX NdefX
end TB
namespace TB
open PySem PySem.Spec PyProof.Rows L2 LamX NdefX
section
variable {X : Cx} {pos : Pos}
theorem cr_allK (K : PySem.W.Frag) (hc : X.calm = true := by rfl) (hK : X.K = K := by rfl) : CallR X (.builtin "all") (rAll K) := by subst hK; exact cr_all hc
end
end TB
namespace TB
open PySem PySem.Spec PyProof.Rows L2 LamX NdefX
theorem Tg.own {T p : Addr} {q : Str} {H H' : Hp} {ys zs : List V} (a : Tg T q H H') (n : H p = Option.none) (l : H' p = some (.lst ys)) : Tg T q H (upd H' p (.lst zs)) := ⟨a.kp.own n, TB.TabS.mut a.tab l, fun z => (a.nt z).lst⟩
theorem Tg.newL {T p : Addr} {q : Str} {H H' : Hp} {xs : List V} (a : Tg T q H H') (n : H' p = Option.none) : Tg T q H (upd H' p (.lst xs)) := a.new n trivial
theorem Tg.of {T : Addr} {q : Str} {H H' : Hp} (s : Same H H') (t : TabS H T q) (n : NoT H') : Tg T q H H' := ⟨fun b o e _ => s b o e, t.ext s, fun _ => n⟩
end TB
namespace TB
open PySem PySem.Spec PyProof.Rows L2 LamX NdefX
section
variable {K : PySem.W.Frag} {a : Addr} {xs : List V} {g g1 : TG} {tt tt1 : TT} {wi1 : TI} {te : TE} {vs vs1 : List Nat} {σ : L2.St} {H1 : Hp} {Q : VK}
def PileR (H : Hp) : List V → List Str → Prop := Paired fun (x : V) (z : Str) => ∃ (u : Addr) (v : V), x = .ref u ∧ H u = some (.tup [.str z, v])
theorem PileR.len {H : Hp} {rs : List V} {zs : List Str} (h : PileR H rs zs) : rs.length = zs.length := Paired.length h
theorem PileR.keep {H H' : Hp} {rs : List V} {zs : List Str} (h : PileR H rs zs) (k : ∀ b xs, H b = some (.tup xs) → H' b = some (.tup xs)) : PileR H' rs zs := Paired.mapP h fun x p ⟨t, v, e, z⟩ => ⟨t, v, e, k _ _ z⟩
theorem PileR.take {H : Hp} : ∀ {rs : List V} {zs : List Str} (n : Nat), PileR H rs zs → PileR H (rs.take n) (zs.take n)
  | _, _, 0, _ => .nil
  | _, _, n + 1, .nil => .nil
  | _, _, n + 1, .cons a r => .cons a (PileR.take n r)
/-- the lock of x -/
def lockOf (H : Hp) (x : V) : V := match x with
  | .ref t => match H t with
    | some (.tup [z, _]) => z
    | _ => .non
  | _ => .non
theorem lockOf_eq {H : Hp} {t : Addr} {z v : V} (h : H t = some (.tup [z, v])) : lockOf H (.ref t) = z := by
  show (match H t with
    | some (.tup [z, _]) => z
    | _ => V.non) = z
  rw [h]
theorem PileR.locks {H : Hp} : ∀ {rs : List V} {zs : List Str}, PileR H rs zs → rs.map (lockOf H) = zs.map V.str
  | _, _, .nil => rfl
  | _, _, .cons ⟨t, v, e, z⟩ r => by rw [List.map_cons, List.map_cons, PileR.locks r, e, lockOf_eq z]
theorem PileR.mem {H : Hp} : ∀ {rs : List V} {zs : List Str}, PileR H rs zs → ∀ x ∈ rs, ∃ (t : Addr) (z : Str) (v : V), x = .ref t ∧ H t = some (.tup [.str z, v])
  | _, _, .nil, x, hx => nomatch hx
  | _, _, .cons ⟨t, v, e, z⟩ r, x, hx => by
    rcases List.mem_cons.mp hx with q | q
    · exact ⟨t, _, v, q.trans e, z⟩
    · exact PileR.mem r x q
end
end TB
namespace TB
open PySem PySem.Spec PyProof.Rows L2 LamX NdefX
/-- C(k = v, ..), the names ks -/
structure MakK (P : Program) (w : World) (K : PySem.W.Frag) (mg : Str → Option Value) (base : Heap) (k : Nat) (x : Str) (C : Addr) (sp : Sp) (ks : List Str) (gV : List V → List V → List V) : Prop where
  kex : ∃ (f : Addr) (fd : FuncData) (ps : List Str) (g : List Value → List Value → List Value), Mk K C f ∧ FnOk P w K mg base C8.CX0 k f fd ps sp ∧ mg x = some (.ref C) ∧ KBn K fd ps 1 ks g gV
theorem pe_mkK {X : Cx} {k j : Nat} {x : Str} {C : Addr} {sp : Sp} {ks : List Str} {gV : List V → List V → List V} {kws : List Keyword} {tk : TA} {p pos : Pos} (c : MakK X.prog X.w X.K X.mg X.base k x C sp ks gV) (hr : Room j X.A) (hk : k + 1 ≤ j) (hg : Gl X x) (hkw : PK X kws tk)
    (hall : (backToKw pos (keywordEach kws X.env)).all (·.1.isSome) = true := by rfl) (hks : (backToKw pos (keywordEach kws X.env)).filterMap (·.1) = ks := by rfl) (hdb : (x == ("__debug__" : Str)) = false := by decide)
    (hpl : ((backTo pos (starEach [] X.env)).any (·.1) || (backToKw pos (keywordEach kws X.env)).any (·.1.isNone)) = false := by rfl) : PE X (.Call (.Name x p) [] kws pos) (tMakeK C 0 ks.length sp gV C8.E0 tNil tk) := by
  obtain ⟨f, fd, ps, g, M, F, hm, hb⟩ := c.kex
  exact pe_makeK0 M F (hr.mono hk) hg hm hb pass0 hkw hall hks hdb hpl
structure LifC (K : PySem.W.Frag) (C : Addr) : Prop where
  cls : Cls K C
  n1 : NoAttr K C "place"
  n2 : NoAttr K C "hand"
  n3 : NoAttr K C "drafts"
  n4 : NoAttr K C "called"
def spLifeI (C : Addr) : Sp := fun vs H Q _ => ∃ (x dx : Addr) (v1 v2 v3 v4 : V), vs = [.ref x, v1, v2, v3, v4] ∧ H x = some (.ins C dx []) ∧ Q .non (upd H x (.ins C dx [("place", v1), ("hand", v2), ("drafts", v3), ("called", v4)]))
end TB
namespace TB
open PySem PySem.Spec PyProof.Rows L2 LamX NdefX
end TB
namespace TB
open PySem PySem.Spec PyProof.Rows L2 LamX NdefX
/-- the keyword default x of the def at f, if it is an object -/
def kwAt (f : Str × Option Str) (x : Str) (K : PySem.W.Frag) : Addr := match K.lookup (He.fAd K f) with
  | some ⟨_, _, .func fd, _⟩ => (match fd.kwdefaults with
    | .ref D => (match PySem.W.nsIn K D x with
      | some (some (.ref a)) => a
      | _ => 0)
    | _ => 0)
  | _ => 0
/-- a tuple of none -/
def nilB (a : PySem.W.Frag → Addr) (K : PySem.W.Frag) : Bool := match K.lookup (a K) with
  | some ⟨.type c, _, .seq its _, _⟩ => decide (c = "tuple") && decide (its.toList = [])
  | _ => false
theorem nilB_ok {a : PySem.W.Frag → Addr} {K : PySem.W.Frag} (h : nilB a K = true) (H : Hp) : SqT K H (a K) [] := by
  unfold nilB at h
  cases q : K.lookup (a K) with
  | none =>
    rw [q] at h
    exact nomatch h
  | some o =>
    obtain ⟨oc, od, dt, osl⟩ := o
    rw [q] at h
    cases oc with
    | type c =>
      cases dt with
      | seq its n =>
        have h2 : (decide (c = "tuple") && decide (its.toList = [])) = true := h
        rw [Bool.and_eq_true, decide_eq_true_iff, decide_eq_true_iff] at h2
        refine Or.inr ⟨_, its, n, q, congrArg Value.type h2.1, rfl, ?_, ?_⟩
        · rw [← Array.length_toList, h2.2]
          exact Nat.zero_le _
        · rw [h2.2]
          exact .nil
      | _ => exact nomatch h
    | _ => exact nomatch (show (_ : Bool) = true from h)
end TB
namespace TB
open PySem PySem.Spec PyProof.Rows L2 LamX NdefX
end TB
namespace TB
open PySem PySem.Spec PyProof.Rows L2 LamX NdefX
end TB
namespace TB
open PySem PySem.Spec PyProof.Rows L2 LamX NdefX
theorem sh_ints (ns : List Int) : SeqAt.shaped (dInts ns) = true := by
  have h1 : ∀ ns : List Int, PyData.canLayAll0 (ns.map PyData.int) = true := by
    intro ns
    induction ns with
    | nil => simp [PyData.canLayAll0]
    | cons z r ih => simp [PyData.canLayAll0, PyData.canLay0, ih]
  have h2 : ∀ ns : List Int, PyData.depthAll (ns.map PyData.int) ≤ 1 := by
    intro ns
    induction ns with
    | nil => simp [PyData.depthAll]
    | cons z r ih =>
      simp only [List.map_cons, PyData.depthAll, PyData.depth]
      omega
  have h3 := h2 ns
  show (PyData.canLay0 (.list (ns.map PyData.int)) && decide (PyData.depth (.list (ns.map PyData.int)) ≤ 64)) = true
  rw [Bool.and_eq_true]
  refine ⟨by simp only [PyData.canLay0]; exact h1 ns, decide_eq_true ?_⟩
  simp only [PyData.depth]
  omega
end TB
namespace TB
open PySem PySem.Spec PyProof.Rows L2 LamX NdefX
end TB
namespace TB
open PySem PySem.Spec PyProof.Rows L2 LamX NdefX
/-- the search by a list of pairs, within one turn: the pairs seen so far are qs -/
structure JInv (ls : List Str) (ps qs : List Pr) (a l : Str) (fs lf : List Str) : Prop where
  nd : fs.Nodup
  sub : ∀ z ∈ fs, Rch ps a z
  ins : ∀ z ∈ fs, z ∈ ls
  lft : ∀ z ∈ lf, z = a ∨ z ∈ fs
  me : l = a ∨ l ∈ fs
  cl : ∀ z, z = a ∨ z ∈ fs → z ≠ l → z ∈ lf ∨ ∀ c, (z, c) ∈ ps → c ∈ fs
  own : ∀ c, (l, c) ∈ qs → c ∈ fs
theorem JInv.start {ls : List Str} {ps : List Pr} {a l : Str} {fs lf : List Str} (b : BInv ls ps a fs (lf ++ [l])) : JInv ls ps [] a l fs lf := by
  refine ⟨b.nd, b.sub, b.ins, fun z hz => b.lft z (List.mem_append_left _ hz), b.lft l (List.mem_append_right _ (List.mem_singleton.mpr rfl)), fun z hz hn => ?_, (fun _ z => nomatch z)⟩
  rcases b.cl z hz with e | e
  · rcases List.mem_append.mp e with e2 | e2
    · exact Or.inl e2
    · exact absurd (List.mem_singleton.mp e2) hn
  · exact Or.inr e
theorem JInv.skip {ls : List Str} {ps qs : List Pr} {a l : Str} {fs lf : List Str} (b : JInv ls ps qs a l fs lf) {p : Pr} (h : p.1 = l → p.2 ∈ fs) : JInv ls ps (qs ++ [p]) a l fs lf := by
  refine ⟨b.nd, b.sub, b.ins, b.lft, b.me, b.cl, fun c hc => ?_⟩
  rcases List.mem_append.mp hc with e | e
  · exact b.own c e
  · have e2 := List.mem_singleton.mp e
    have e3 := h (by rw [← e2])
    rw [← e2] at e3
    exact e3
theorem JInv.done {ls : List Str} {ps : List Pr} {a l : Str} {fs lf : List Str} (b : JInv ls ps ps a l fs lf) : BInv ls ps a fs lf := by
  refine ⟨b.nd, b.sub, b.ins, b.lft, fun z hz => ?_⟩
  by_cases c : z = l
  · rw [c]
    exact Or.inr b.own
  · exact b.cl z hz c
end TB
namespace TB
open PySem PySem.Spec PyProof.Rows L2 LamX NdefX
theorem Prs.get {H : Hp} : ∀ {rs : List V} {ps : List Pr} {j : Nat} {x : V}, Prs H rs ps → rs[j]? = some x → ∃ (t : Addr) (p : Pr), x = .ref t ∧ ps[j]? = some p ∧ H t = some (.tup [.str p.1, .str p.2])
  | _, _, j, x, .nil, h => nomatch (show (none : Option V) = some x from h)
  | _, _, 0, x, .cons (b := p) ⟨t, e, z⟩ r, h => ⟨t, p, (Option.some.inj h).symm.trans e, rfl, z⟩
  | _, _, j + 1, x, .cons a r, h => Prs.get (j := j) r h
end TB
namespace TB
open PySem PySem.Spec PyProof.Rows L2 LamX NdefX
end TB
namespace TB
open PySem PySem.Spec PyProof.Rows L2 LamX NdefX
theorem shown_tuple_le {B : Nat} {ds : List PyData} (h : ∀ d ∈ ds, d.shown.length ≤ B) : (PyData.tuple ds).shown.length ≤ ds.length * B + 2 * ds.length + 3 := by
  have e : (PyData.tuple ds).shown = tupleText (ds.map fun d => d.shown) := by
    simp only [PyData.shown]
    rw [show ds = ds.map id from (List.map_id ds).symm, shownAll_map]
    simp
  rw [e]
  have h1 := tupleText_len_le (ds.map fun d => d.shown)
  rw [List.map_map, List.length_map] at h1
  have h2 : (ds.map ((fun x : Str => x.length) ∘ fun d => d.shown)).sum ≤ ds.length * B := sum_le fun x hx => h x hx
  omega
end TB
namespace TB
open PySem PySem.Spec PyProof.Rows L2 LamX NdefX
end TB
namespace L3
open PySem PySem.Spec PyProof.Rows L2 TB LamX
/-- a thing that is told by a relation of its own, which growing heaps keep -/
structure Opq where
  R : Hp → V → Prop
  mono : ∀ {F F' : Hp} {v : V}, Same F F' → R F v → R F' v
/-- plain data -/
inductive D where
  | non | bl (b : Bool) | int (i : Int) | str (z : Str) | ty (n : String)
  | lst (ds : List D) | tup (ds : List D) | ins (C : Addr) (ns : List Str) (ds : List D) | dic (ks : List Key) (ds : List D) | op (p : Opq)
section
variable (K : PySem.W.Frag) (F : Hp)
mutual
/-- v is this data in F -/
def Rp : D → V → Prop
  | .non, v => v = .non
  | .bl b, v => v = .bl b
  | .int i, v => v = .int i
  | .str z, v => v = .str z
  | .ty n, v => v = .ty n
  | .lst ds, v => ∃ a vs, v = .ref a ∧ F a = some (.lst vs) ∧ RpL ds vs
  | .tup ds, v => ∃ a vs, v = .ref a ∧ SqT K F a vs ∧ RpL ds vs
  | .ins C ns ds, v => ∃ a dx vs, v = .ref a ∧ F a = some (.ins C dx (ns.zip vs)) ∧ F dx = some (.own a) ∧ RpL ds vs
  | .dic ks ds, v => ∃ a vs, v = .ref a ∧ F a = some (.dK (ks.zip vs)) ∧ RpL ds vs
  | .op p, v => p.R F v
def RpL : List D → List V → Prop
  | [], vs => vs = []
  | d :: ds, vs => ∃ v r, vs = v :: r ∧ Rp d v ∧ RpL ds r
end
end
theorem Same.refl (F : Hp) : Same F F := fun _ _ h => h
theorem tr {F F1 F2 : Hp} (a : Same F F1) (b : Same F1 F2) : Same F F2 := fun _ _ h => b _ _ (a _ _ h)
section
variable {K : PySem.W.Frag} {F F' : Hp}
theorem sqL_mono {a : Addr} {vs : List V} (s : Same F F') (h : SqL K F a vs) : SqL K F' a vs := by
  rcases h with (h | ⟨o, h⟩) | h
  · exact Or.inl (Or.inl (s _ _ h))
  · exact Or.inl (Or.inr ⟨o, s _ _ h⟩)
  · exact Or.inr h
theorem sqT_mono {a : Addr} {vs : List V} (s : Same F F') (h : SqT K F a vs) : SqT K F' a vs := by
  rcases h with (h | ⟨o, h⟩) | h
  · exact Or.inl (Or.inl (s _ _ h))
  · exact Or.inl (Or.inr ⟨o, s _ _ h⟩)
  · exact Or.inr h
mutual
theorem Rp.mono (s : Same F F') : ∀ {d : D} {v : V}, Rp K F d v → Rp K F' d v
  | .non, v, h => h
  | .bl _, v, h => h
  | .int _, v, h => h
  | .str _, v, h => h
  | .ty _, v, h => h
  | .lst ds, v, h => by
    obtain ⟨a, vs, e, q, r⟩ := h
    exact ⟨a, vs, e, s _ _ q, RpL.mono s r⟩
  | .tup ds, v, h => by
    obtain ⟨a, vs, e, q, r⟩ := h
    exact ⟨a, vs, e, sqT_mono s q, RpL.mono s r⟩
  | .ins C ns ds, v, h => by
    obtain ⟨a, dx, vs, e, q, q2, r⟩ := h
    exact ⟨a, dx, vs, e, s _ _ q, s _ _ q2, RpL.mono s r⟩
  | .dic ks ds, v, h => by
    obtain ⟨a, vs, e, q, r⟩ := h
    exact ⟨a, vs, e, s _ _ q, RpL.mono s r⟩
  | .op p, v, h => p.mono s h
theorem RpL.mono (s : Same F F') : ∀ {ds : List D} {vs : List V}, RpL K F ds vs → RpL K F' ds vs
  | [], vs, h => h
  | d :: ds, vs, h => by
    obtain ⟨v, r, e, q, t⟩ := h
    exact ⟨v, r, e, Rp.mono s q, RpL.mono s t⟩
end
theorem RpL.len : ∀ {ds : List D} {vs : List V}, RpL K F ds vs → vs.length = ds.length
  | [], vs, h => by
    have e : vs = [] := h
    rw [e]
    rfl
  | d :: ds, vs, h => by
    obtain ⟨v, r, rfl, q, t⟩ := h
    rw [List.length_cons, List.length_cons, RpL.len t]
theorem RpL.nil : RpL K F [] [] := rfl
theorem RpL.cons {d : D} {ds : List D} {v : V} {vs : List V} (h : Rp K F d v) (t : RpL K F ds vs) : RpL K F (d :: ds) (v :: vs) := ⟨v, vs, rfl, h, t⟩
theorem RpL.app : ∀ {ds es : List D} {vs ws : List V}, RpL K F ds vs → RpL K F es ws → RpL K F (ds ++ es) (vs ++ ws)
  | [], es, vs, ws, h, k => by
    have e : vs = [] := h
    rw [e]
    exact k
  | d :: ds, es, vs, ws, h, k => by
    obtain ⟨v, r, rfl, q, t⟩ := h
    exact ⟨v, r ++ ws, rfl, q, RpL.app t k⟩
theorem RpL.get : ∀ {ds : List D} {vs : List V} {i : Nat} {v : V}, RpL K F ds vs → vs[i]? = some v → ∃ d, ds[i]? = some d ∧ Rp K F d v
  | [], vs, i, v, h, e => by
    have z : vs = [] := h
    rw [z] at e
    simp at e
  | d :: ds, vs, 0, v, h, e => by
    obtain ⟨w, r, rfl, q, t⟩ := h
    obtain rfl : w = v := by simpa using e
    exact ⟨d, rfl, q⟩
  | d :: ds, vs, i + 1, v, h, e => by
    obtain ⟨w, r, rfl, q, t⟩ := h
    exact RpL.get (i := i) t (by simpa using e)
theorem RpL.get' : ∀ {ds : List D} {vs : List V} {i : Nat} {d : D}, RpL K F ds vs → ds[i]? = some d → ∃ v, vs[i]? = some v ∧ Rp K F d v
  | [], vs, i, d, h, e => by simp at e
  | d :: ds, vs, 0, d', h, e => by
    obtain ⟨w, r, rfl, q, t⟩ := h
    obtain rfl : d = d' := by simpa using e
    exact ⟨w, rfl, q⟩
  | d :: ds, vs, i + 1, d', h, e => by
    obtain ⟨w, r, rfl, q, t⟩ := h
    exact RpL.get' (i := i) t (by simpa using e)
theorem RpL.take : ∀ {ds : List D} {vs : List V} (n : Nat), RpL K F ds vs → RpL K F (ds.take n) (vs.take n)
  | _, _, 0, _ => rfl
  | [], vs, n + 1, h => by
    have z : vs = [] := h
    rw [z]
    rfl
  | d :: ds, vs, n + 1, h => by
    obtain ⟨w, r, rfl, q, t⟩ := h
    exact ⟨w, r.take n, rfl, q, RpL.take n t⟩
theorem RpL.drop : ∀ {ds : List D} {vs : List V} (n : Nat), RpL K F ds vs → RpL K F (ds.drop n) (vs.drop n)
  | _, _, 0, h => h
  | [], vs, n + 1, h => by
    have z : vs = [] := h
    rw [z]
    rfl
  | d :: ds, vs, n + 1, h => by
    obtain ⟨w, r, rfl, q, t⟩ := h
    exact RpL.drop n t
theorem RpL.set : ∀ {ds : List D} {vs : List V} {d : D} {v : V} (n : Nat), RpL K F ds vs → Rp K F d v → RpL K F (ds.set n d) (vs.set n v)
  | [], vs, d, v, n, h, k => by
    have z : vs = [] := h
    rw [z]
    rfl
  | d :: ds, vs, d', v, 0, h, k => by
    obtain ⟨w, r, rfl, q, t⟩ := h
    exact ⟨v, r, rfl, k, t⟩
  | d :: ds, vs, d', v, n + 1, h, k => by
    obtain ⟨w, r, rfl, q, t⟩ := h
    exact ⟨w, r.set n v, rfl, q, RpL.set n t k⟩
theorem RpL.erase : ∀ {ds : List D} {vs : List V} (n : Nat), RpL K F ds vs → RpL K F (ds.eraseIdx n) (vs.eraseIdx n)
  | [], vs, n, h => by
    have z : vs = [] := h
    rw [z]
    rfl
  | d :: ds, vs, 0, h => by
    obtain ⟨w, r, rfl, q, t⟩ := h
    exact t
  | d :: ds, vs, n + 1, h => by
    obtain ⟨w, r, rfl, q, t⟩ := h
    exact ⟨w, r.eraseIdx n, rfl, q, RpL.erase n t⟩
theorem RpL.map {α : Type} {f : α → D} {g : α → V} (h : ∀ x, Rp K F (f x) (g x)) : ∀ l : List α, RpL K F (l.map f) (l.map g)
  | [] => rfl
  | x :: l => ⟨g x, l.map g, rfl, h x, RpL.map h l⟩
/-- flat items are the same everywhere -/
theorem RpL.maps {α : Type} {f : α → D} {g : α → V} (h : ∀ F x v, Rp K F (f x) v → v = g x) : ∀ {l : List α} {vs : List V}, RpL K F (l.map f) vs → vs = l.map g
  | [], vs, e => e
  | x :: l, vs, e => by
    obtain ⟨v, r, rfl, q, t⟩ := e
    rw [h F x v q, RpL.maps h t]
    rfl
theorem RpL.strs {l : List Str} {vs : List V} (h : RpL K F (l.map D.str) vs) : vs = l.map V.str := RpL.maps (f := D.str) (g := V.str) (fun _ _ _ e => e) h
theorem RpL.bls {l : List Bool} {vs : List V} (h : RpL K F (l.map D.bl) vs) : vs = l.map V.bl := RpL.maps (f := D.bl) (g := V.bl) (fun _ _ _ e => e) h
end
/-- no heap is asked about d -/
def D.flat : D → Bool
  | .non => true
  | .bl _ => true
  | .int _ => true
  | .str _ => true
  | .ty _ => true
  | _ => false
theorem Rp.flat {K : PySem.W.Frag} {F G : Hp} {d : D} {v : V} (f : d.flat = true) (h : Rp K F d v) : Rp K G d v := by
  cases d <;> first | exact h | exact nomatch f
theorem RpL.flat {K : PySem.W.Frag} {F G : Hp} : ∀ {ds : List D} {vs : List V}, (∀ d ∈ ds, d.flat = true) → RpL K F ds vs → RpL K G ds vs
  | [], vs, _, h => h
  | d :: ds, vs, f, h => by
    obtain ⟨v, r, rfl, q, t⟩ := h
    exact ⟨v, r, rfl, Rp.flat (f d List.mem_cons_self) q, RpL.flat (fun e he => f e (List.mem_cons_of_mem _ he)) t⟩
/-- what is known of a slot: nothing; data that stays; an own list that may be changed (fr: made in this call) -/
inductive PV where
  | un | val (d : D) | own (fr : Bool) (ds : List D)
abbrev PSt := List PV
/-- where one stands: fixed for a call; N: new since the call; F0, H0: what stood as it began (or another moment), B0: what may be changed of that -/
structure Sx where
  K : PySem.W.Frag
  tb : List (Addr × Str)
structure Ct where
  X : Sx
  N : Addr → Prop
  I0 : List Addr
  F0 : Hp
  H0 : Hp
  B0 : List Addr
abbrev Ct.K (c : Ct) : PySem.W.Frag := c.X.K
abbrev Ct.tb (c : Ct) : List (Addr × Str) := c.X.tb
/-- a thing that never changes -/
def Imm : HO → Prop
  | .tup _ => True
  | .frz _ _ => True
  | _ => False
/-- a list made in this call, or one handed in to be changed -/
def FrOk (c : Ct) (fr : Bool) (p : Addr) : Prop := (fr = true → c.N p) ∧ (fr = false → p ∈ c.I0)
/-- no table -/
def NoTb (c : Ct) (b : Addr) : Prop := ∀ x ∈ c.tb, b ≠ x.1
def Slot (c : Ct) (F H : Hp) (ov : Option (Option V)) : PV → Prop
  | .un => True
  | .val d => ∃ v, ov = some (some v) ∧ Rp c.K F d v
  | .own fr ds => ∃ p vs, ov = some (some (.ref p)) ∧ F p = none ∧ H p = some (.lst vs) ∧ RpL c.K F ds vs ∧ FrOk c fr p ∧ (p ∈ c.B0 ∨ c.H0 p = none)
structure Rel (c : Ct) (F H : Hp) (σ : L2.St) (ρ : PSt) : Prop where
  len : σ.length = ρ.length
  sub : Same F H
  slot : ∀ (i : Nat) (pv : PV), ρ[i]? = some pv → Slot c F H σ[i]? pv
  sep : ∀ (i j : Nat) (f1 : Bool) (o1 : List D) (f2 : Bool) (o2 : List D) (p : Addr), ρ[i]? = some (.own f1 o1) → ρ[j]? = some (.own f2 o2) → σ[i]? = some (some (.ref p)) → σ[j]? = some (some (.ref p)) → i = j
  nt : NoT H
  tab : ∀ x ∈ c.tb, TabS H x.1 x.2
  tabF : ∀ x ∈ c.tb, F x.1 = none
  fr : Same c.F0 F
  kp : ∀ b o, c.H0 b = some o → b ∉ c.B0 → NoTb c b → H b = some o
  dom : ∀ b, H b = none → c.H0 b = none
  nw : ∀ b o, F b = some o → c.F0 b = some o ∨ c.H0 b = none ∨ (b ∈ c.B0 ∧ c.N b) ∨ Imm o
  new : ∀ p, H p = none → c.N p
section
variable {c : Ct} {F H F' H' : Hp} {σ : L2.St} {ρ : PSt}
theorem Slot.mono {ov : Option (Option V)} (s : Same F F') : ∀ {pv : PV}, (∀ fr ds p, pv = .own fr ds → ov = some (some (.ref p)) → F' p = none ∧ ∀ vs, H p = some (.lst vs) → H' p = some (.lst vs)) → Slot c F H ov pv → Slot c F' H' ov pv
  | .un, _, h => trivial
  | .val d, _, h => by
    obtain ⟨v, e, r⟩ := h
    exact ⟨v, e, r.mono s⟩
  | .own fr ds, k, h => by
    obtain ⟨p, vs, e, f, l, r, n, m⟩ := h
    obtain ⟨k1, k2⟩ := k fr ds p rfl e
    exact ⟨p, vs, e, k1, k2 vs l, r.mono s, n, m⟩
theorem Rel.ownAt (R : Rel c F H σ ρ) {i : Nat} {f : Bool} {ds : List D} {p : Addr} (h : ρ[i]? = some (.own f ds)) (e : σ[i]? = some (some (.ref p))) : F p = none ∧ ∃ vs, H p = some (.lst vs) := by
  obtain ⟨q, vs, e2, f, l, _⟩ := R.slot i _ h
  rw [e] at e2
  obtain rfl : p = q := by injection e2 with e2; injection e2 with e2; injection e2
  exact ⟨f, vs, l⟩
theorem Rel.fnone (R : Rel c F H σ ρ) {p : Addr} (h : H p = none) : F p = none := by
  cases e : F p with
  | none => rfl
  | some o => rw [R.sub _ _ e] at h; exact nomatch h
theorem Rel.notab (R : Rel c F H σ ρ) {p : Addr} {o : HO} (h : H p = some o) (n : ∀ ps, o ≠ .tbl ps) : NoTb c p := by
  intro x hx e
  obtain ⟨tb, e2, _⟩ := R.tab x hx
  rw [← e, h] at e2
  exact n _ (Option.some.inj e2)
/-- a new thing that stays -/
theorem Rel.alloc (R : Rel c F H σ ρ) {p : Addr} {o : HO} (np : H p = none) (no : noT o) : Rel c (upd F p o) (upd H p o) σ ρ := by
  have nF := R.fnone np
  have sF : Same F (upd F p o) := fun _ _ e => old_upd nF e
  have sH : Same H (upd H p o) := fun _ _ e => old_upd np e
  refine ⟨R.len, fun b u e => ?_, fun i pv h => (R.slot i pv h).mono sF fun fr ds q e1 e2 => ?_, R.sep, R.nt.upd no, fun x hx => (R.tab x hx).ext sH, fun x hx => ?_, fun _ _ e => sF _ _ (R.fr _ _ e), fun b u e n m => sH _ _ (R.kp b u e n m), fun b e => R.dom b (nil_upd e).2, fun b u e => ?_, fun q e => R.new q (nil_upd e).2⟩
  · by_cases q : b = p
    · subst q
      rw [upd_same] at e ⊢
      exact e
    · rw [upd_ne q] at e ⊢
      exact R.sub _ _ e
  · subst e1
    obtain ⟨f, vs, l⟩ := R.ownAt h e2
    have ne : q ≠ p := ne_of_none l np
    exact ⟨by rw [upd_ne ne]; exact f, fun ws lw => old_upd np lw⟩
  · obtain ⟨tb, e2, _⟩ := R.tab x hx
    rw [upd_ne (ne_of_none e2 np)]
    exact R.tabF x hx
  · by_cases q : b = p
    · subst q
      exact Or.inr (Or.inl (R.dom _ np))
    · rw [upd_ne q] at e
      exact R.nw b u e
/-- a new list that nobody has yet -/
theorem Rel.allocH (R : Rel c F H σ ρ) {p : Addr} {o : HO} (np : H p = none) (no : noT o) : Rel c F (upd H p o) σ ρ := by
  have sH : Same H (upd H p o) := fun _ _ e => old_upd np e
  refine ⟨R.len, fun b u e => sH _ _ (R.sub _ _ e), fun i pv h => (R.slot i pv h).mono (Same.refl F) fun fr ds q e1 e2 => ?_, R.sep, R.nt.upd no, fun x hx => (R.tab x hx).ext sH, R.tabF, R.fr, fun b u e n m => sH _ _ (R.kp b u e n m), fun b e => R.dom b (nil_upd e).2, R.nw, fun q e => R.new q (nil_upd e).2⟩
  subst e1
  exact ⟨(R.ownAt h e2).1, fun ws lw => old_upd np lw⟩
/-- nobody's list changed -/
theorem Rel.mutH (R : Rel c F H σ ρ) {p : Addr} {xs ys : List V} (hp : H p = some (.lst xs)) (hF : F p = none) (hb : p ∈ c.B0 ∨ c.H0 p = none) (hn : ∀ (i : Nat) (f : Bool) (ds : List D), ρ[i]? = some (.own f ds) → σ[i]? ≠ some (some (.ref p))) : Rel c F (upd H p (.lst ys)) σ ρ := by
  have nF : ∀ b o, F b = some o → b ≠ p := fun b o e z => by rw [z, hF] at e; exact nomatch e
  refine ⟨R.len, fun b u e => oth_upd (nF b u e) (R.sub _ _ e), fun i pv h => (R.slot i pv h).mono (Same.refl F) fun fr ds q e1 e2 => ?_, R.sep, R.nt.lst, fun x hx => TB.TabS.mut (R.tab x hx) hp, R.tabF, R.fr, fun b u e n m => ?_, fun b e => R.dom b (nil_upd e).2, R.nw, fun q e => R.new q (nil_upd e).2⟩
  · subst e1
    have ne : q ≠ p := fun z => hn i fr ds h (by rw [← z]; exact e2)
    exact ⟨(R.ownAt h e2).1, fun ws lw => oth_upd ne lw⟩
  · refine oth_upd (fun z => ?_) (R.kp b u e n m)
    rw [z] at e n
    rcases hb with hb | hb
    · exact n hb
    · rw [hb] at e
      exact nomatch e
/-- a slot that is set to data -/
theorem Rel.setVal (R : Rel c F H σ ρ) {i : Nat} {d : D} {v : V} (h : Rp c.K F d v) : Rel c F H (σ.set i (some v)) (ρ.set i (.val d)) := by
  refine ⟨by rw [List.length_set, List.length_set]; exact R.len, R.sub, fun j pv hj => ?_, fun j k f1 o1 f2 o2 p h1 h2 e1 e2 => ?_, R.nt, R.tab, R.tabF, R.fr, R.kp, R.dom, R.nw, R.new⟩
  · by_cases q : i = j
    · subst q
      have hl : i < ρ.length := by
        have := (List.getElem?_eq_some_iff.mp hj).1
        rw [List.length_set] at this
        exact this
      rw [List.getElem?_set_self hl] at hj
      obtain rfl := Option.some.inj hj
      exact ⟨v, by rw [List.getElem?_set_self (by rw [R.len]; exact hl)], h⟩
    · rw [List.getElem?_set_ne q] at hj ⊢
      exact R.slot j pv hj
  · by_cases q1 : i = j
    · subst q1
      have hl := (List.getElem?_eq_some_iff.mp h1).1
      rw [List.length_set] at hl
      rw [List.getElem?_set_self hl] at h1
      exact nomatch h1
    · by_cases q2 : i = k
      · subst q2
        have hl := (List.getElem?_eq_some_iff.mp h2).1
        rw [List.length_set] at hl
        rw [List.getElem?_set_self hl] at h2
        exact nomatch h2
      · rw [List.getElem?_set_ne q1] at h1 e1
        rw [List.getElem?_set_ne q2] at h2 e2
        exact R.sep j k f1 o1 f2 o2 p h1 h2 e1 e2
/-- a slot of which no more is known -/
theorem Rel.forget (R : Rel c F H σ ρ) (i : Nat) : Rel c F H σ (ρ.set i .un) := by
  refine ⟨by rw [List.length_set]; exact R.len, R.sub, fun j pv hj => ?_, fun j k f1 o1 f2 o2 p h1 h2 e1 e2 => ?_, R.nt, R.tab, R.tabF, R.fr, R.kp, R.dom, R.nw, R.new⟩
  · by_cases q : i = j
    · subst q
      have hl := (List.getElem?_eq_some_iff.mp hj).1
      rw [List.length_set] at hl
      rw [List.getElem?_set_self hl] at hj
      obtain rfl := Option.some.inj hj
      exact trivial
    · rw [List.getElem?_set_ne q] at hj
      exact R.slot j pv hj
  · have g : ∀ (j : Nat) (f : Bool) (o : List D), (ρ.set i PV.un)[j]? = some (PV.own f o) → ρ[j]? = some (PV.own f o) := by
      intro j f o hj
      by_cases q : i = j
      · subst q
        have hl := (List.getElem?_eq_some_iff.mp hj).1
        rw [List.length_set] at hl
        rw [List.getElem?_set_self hl] at hj
        exact nomatch hj
      · rw [List.getElem?_set_ne q] at hj
        exact hj
    exact R.sep j k f1 o1 f2 o2 p (g _ _ _ h1) (g _ _ _ h2) e1 e2
/-- a slot that is set to nobody's new list -/
theorem Rel.setOwn (R : Rel c F H σ ρ) {i : Nat} {p : Addr} {vs : List V} {ds : List D} (hp : H p = some (.lst vs)) (hF : F p = none) (hr : RpL c.K F ds vs) (hN : c.N p) (hb : p ∈ c.B0 ∨ c.H0 p = none) (hn : ∀ (i : Nat) (f : Bool) (ds : List D), ρ[i]? = some (.own f ds) → σ[i]? ≠ some (some (.ref p))) :
    Rel c F H (σ.set i (some (.ref p))) (ρ.set i (.own true ds)) := by
  refine ⟨by rw [List.length_set, List.length_set]; exact R.len, R.sub, fun j pv hj => ?_, fun j k f1 o1 f2 o2 q h1 h2 e1 e2 => ?_, R.nt, R.tab, R.tabF, R.fr, R.kp, R.dom, R.nw, R.new⟩
  · by_cases q : i = j
    · subst q
      have hl := (List.getElem?_eq_some_iff.mp hj).1
      rw [List.length_set] at hl
      rw [List.getElem?_set_self hl] at hj
      obtain rfl := Option.some.inj hj
      exact ⟨p, vs, by rw [List.getElem?_set_self (by rw [R.len]; exact hl)], hF, hp, hr, ⟨fun _ => hN, fun z => nomatch z⟩, hb⟩
    · rw [List.getElem?_set_ne q] at hj ⊢
      exact R.slot j pv hj
  · have hl1 := (List.getElem?_eq_some_iff.mp e1).1
    have hl2 := (List.getElem?_eq_some_iff.mp e2).1
    rw [List.length_set] at hl1 hl2
    by_cases q1 : i = j
    · subst q1
      by_cases q2 : i = k
      · exact q2
      · rw [List.getElem?_set_self hl1] at e1
        rw [List.getElem?_set_ne q2] at h2 e2
        obtain rfl : p = q := by injection e1 with e1; injection e1 with e1; injection e1
        exact absurd e2 (hn k f2 o2 h2)
    · rw [List.getElem?_set_ne q1] at h1 e1
      by_cases q2 : i = k
      · subst q2
        rw [List.getElem?_set_self hl2] at e2
        obtain rfl : p = q := by injection e2 with e2; injection e2 with e2; injection e2
        exact absurd e1 (hn j f1 o1 h1)
      · rw [List.getElem?_set_ne q2] at h2 e2
        exact R.sep j k f1 o1 f2 o2 q h1 h2 e1 e2
theorem Rel.noOwn (R : Rel c F H σ ρ) {p : Addr} (h : H p = none) : ∀ (i : Nat) (f : Bool) (ds : List D), ρ[i]? = some (.own f ds) → σ[i]? ≠ some (some (.ref p)) := by
  intro i f ds hi e
  obtain ⟨_, vs, l⟩ := R.ownAt hi e
  rw [h] at l
  exact nomatch l
/-- nobody's list is kept as it stands -/
theorem Rel.keepL (R : Rel c F H σ ρ) {p : Addr} {vs : List V} (hp : H p = some (.lst vs)) (hF : F p = none) (hn : ∀ (i : Nat) (f : Bool) (ds : List D), ρ[i]? = some (.own f ds) → σ[i]? ≠ some (some (.ref p))) (hb : c.H0 p = none ∨ (p ∈ c.B0 ∧ c.N p)) : Rel c (upd F p (.lst vs)) H σ ρ := by
  have sF : Same F (upd F p (.lst vs)) := fun _ _ e => old_upd hF e
  refine ⟨R.len, fun b u e => ?_, fun i pv h => (R.slot i pv h).mono sF fun fr ds q e1 e2 => ?_, R.sep, R.nt, R.tab, fun x hx => ?_, fun _ _ e => sF _ _ (R.fr _ _ e), R.kp, R.dom, fun b u e => ?_, R.new⟩
  · by_cases q : b = p
    · subst q
      rw [upd_same] at e
      rw [hp]
      exact e
    · rw [upd_ne q] at e
      exact R.sub _ _ e
  · subst e1
    have ne : q ≠ p := fun z => hn i fr ds h (by rw [← z]; exact e2)
    exact ⟨by rw [upd_ne ne]; exact (R.ownAt h e2).1, fun _ l => l⟩
  · obtain ⟨tb, e2, _⟩ := R.tab x hx
    rw [upd_ne (ne_of e2 hp (fun z => nomatch z))]
    exact R.tabF x hx
  · by_cases q : b = p
    · subst q
      exact Or.inr (hb.elim Or.inl (fun z => Or.inr (Or.inl z)))
    · rw [upd_ne q] at e
      exact R.nw b u e
/-- an own list changed -/
theorem Rel.mutOwn (R : Rel c F H σ ρ) {i : Nat} {f : Bool} {ds es : List D} {p : Addr} {ys : List V} (h : ρ[i]? = some (.own f ds)) (e : σ[i]? = some (some (.ref p))) (hr : RpL c.K F es ys) : Rel c F (upd H p (.lst ys)) σ (ρ.set i (.own f es)) := by
  obtain ⟨q, vs, e2, hF, hp, hr0, hN, hb⟩ := R.slot i _ h
  rw [e] at e2
  obtain rfl : p = q := by injection e2 with e2; injection e2 with e2; injection e2
  have R2 := (R.forget i).mutH (ys := ys) hp hF hb (fun j f2 d2 h2 e2 => by
    by_cases q : i = j
    · subst q
      have hl := (List.getElem?_eq_some_iff.mp h2).1
      rw [List.length_set] at hl
      rw [List.getElem?_set_self hl] at h2
      exact nomatch h2
    · rw [List.getElem?_set_ne q] at h2
      exact q (R.sep i j _ _ _ _ p h h2 e e2))
  have hl := (List.getElem?_eq_some_iff.mp h).1
  refine ⟨by rw [List.length_set]; exact R.len, R2.sub, fun j pv hj => ?_, fun j k f1 o1 f2 o2 q h1 h2 e1 e2 => ?_, R2.nt, R2.tab, R2.tabF, R2.fr, R2.kp, R2.dom, R2.nw, R2.new⟩
  · by_cases q : i = j
    · subst q
      rw [List.getElem?_set_self hl] at hj
      obtain rfl := Option.some.inj hj
      exact ⟨p, ys, e, hF, upd_same, hr, hN, hb⟩
    · rw [List.getElem?_set_ne q] at hj
      exact R2.slot j pv (by rw [List.getElem?_set_ne q]; exact hj)
  · have g : ∀ (j : Nat) (f1 : Bool) (o : List D), (ρ.set i (PV.own f es))[j]? = some (PV.own f1 o) → ∃ f2 o2, ρ[j]? = some (PV.own f2 o2) := by
      intro j f1 o hj
      by_cases q : i = j
      · subst q
        exact ⟨_, _, h⟩
      · rw [List.getElem?_set_ne q] at hj
        exact ⟨_, _, hj⟩
    obtain ⟨_, _, g1⟩ := g _ _ _ h1
    obtain ⟨_, _, g2⟩ := g _ _ _ h2
    exact R.sep j k _ _ _ _ q g1 g2 e1 e2
/-- an own list that stays as it is from now on -/
theorem Rel.freeze (R : Rel c F H σ ρ) {i : Nat} {ds : List D} {p : Addr} (h : ρ[i]? = some (.own true ds)) (e : σ[i]? = some (some (.ref p))) :
    ∃ vs, Rel c (upd F p (.lst vs)) H σ (ρ.set i (.val (.lst ds))) ∧ Same F (upd F p (.lst vs)) ∧ Rp c.K (upd F p (.lst vs)) (.lst ds) (.ref p) := by
  obtain ⟨q, vs, e2, hF, hp, hr0, hN, hb⟩ := R.slot i _ h
  rw [e] at e2
  obtain rfl : p = q := by injection e2 with e2; injection e2 with e2; injection e2
  have sF : Same F (upd F p (.lst vs)) := fun _ _ e => old_upd hF e
  have R2 := (R.forget i).keepL hp hF (fun j f2 d2 h2 e2 => by
    by_cases q : i = j
    · subst q
      have hl := (List.getElem?_eq_some_iff.mp h2).1
      rw [List.length_set] at hl
      rw [List.getElem?_set_self hl] at h2
      exact nomatch h2
    · rw [List.getElem?_set_ne q] at h2
      exact q (R.sep i j _ _ _ _ p h h2 e e2)) (hb.elim (fun z => Or.inr ⟨z, hN.1 rfl⟩) Or.inl)
  have rp : Rp c.K (upd F p (.lst vs)) (.lst ds) (.ref p) := ⟨p, vs, rfl, upd_same, hr0.mono sF⟩
  have R3 := R2.setVal (i := i) rp
  have es : σ.set i (some (.ref p)) = σ := by
    obtain ⟨hl, e3⟩ := List.getElem?_eq_some_iff.mp e
    rw [← e3]
    exact List.set_getElem_self hl
  rw [es, List.set_set] at R3
  exact ⟨vs, R3, sF, rp⟩
def ownB (σ : L2.St) (ρ : PSt) : List Addr := (List.range ρ.length).filterMap fun (i : Nat) => match (ρ[i]? : Option PV), (σ[i]? : Option (Option V)) with
  | some (PV.own _ _), some (some (V.ref p)) => some p
  | _, _ => none
theorem mem_ownB {p : Addr} : p ∈ ownB σ ρ ↔ ∃ (i : Nat) (f : Bool) (ds : List D), ρ[i]? = some (.own f ds) ∧ σ[i]? = some (some (.ref p)) := by
  unfold ownB
  rw [List.mem_filterMap]
  constructor
  · rintro ⟨i, _, e⟩
    revert e
    match h1 : ρ[i]?, h2 : σ[i]? with
    | some (.own f ds), some (some (.ref q)) =>
      intro e
      obtain rfl := Option.some.inj e
      exact ⟨i, f, ds, h1, h2⟩
    | none, _ => intro e; exact nomatch e
    | some .un, _ => intro e; exact nomatch e
    | some (.val _), _ => intro e; exact nomatch e
    | some (.own f ds), none => intro e; exact nomatch e
    | some (.own f ds), some none => intro e; exact nomatch e
    | some (.own f ds), some (some .non) => intro e; exact nomatch e
    | some (.own f ds), some (some (.bl _)) => intro e; exact nomatch e
    | some (.own f ds), some (some (.int _)) => intro e; exact nomatch e
    | some (.own f ds), some (some (.str _)) => intro e; exact nomatch e
    | some (.own f ds), some (some (.byt _)) => intro e; exact nomatch e
    | some (.own f ds), some (some (.flt _)) => intro e; exact nomatch e
    | some (.own f ds), some (some (.ty _)) => intro e; exact nomatch e
  · rintro ⟨i, f, ds, h1, h2⟩
    refine ⟨i, List.mem_range.mpr (List.getElem?_eq_some_iff.mp h1).1, ?_⟩
    rw [h1, h2]
/-- the same place, told from this moment on -/
def Ct.at (c : Ct) (F H : Hp) (B : List Addr) : Ct := ⟨c.X, c.N, c.I0, F, H, B⟩
theorem Rel.here (R : Rel c F H σ ρ) : Rel (c.at F H (ownB σ ρ)) F H σ ρ := by
  refine ⟨R.len, R.sub, fun i pv h => ?_, R.sep, R.nt, R.tab, R.tabF, Same.refl F, fun b o e _ _ => e, fun b e => e, fun b o e => Or.inl e, R.new⟩
  have z := R.slot i pv h
  match pv, h, z with
  | .un, _, _ => exact trivial
  | .val d, _, z => exact z
  | .own f ds, h, ⟨p, vs, e, hF, hp, hr, hN, _⟩ => exact ⟨p, vs, e, hF, hp, hr, hN, Or.inl (mem_ownB.mpr ⟨i, f, ds, h, e⟩)⟩
theorem Rel.trans {σ' : L2.St} {ρ' : PSt} (R : Rel c F H σ ρ) (R' : Rel (c.at F H (ownB σ ρ)) F' H' σ' ρ') : Rel c F' H' σ' ρ' := by
  have hB : ∀ p, p ∈ ownB σ ρ → p ∈ c.B0 ∨ c.H0 p = none := by
    intro p hp
    obtain ⟨i, f, ds, h1, h2⟩ := mem_ownB.mp hp
    obtain ⟨q, vs, e2, _, _, _, _, hb⟩ := R.slot i _ h1
    rw [h2] at e2
    obtain rfl : p = q := by injection e2 with e2; injection e2 with e2; injection e2
    exact hb
  refine ⟨R'.len, R'.sub, fun i pv h => ?_, R'.sep, R'.nt, R'.tab, R'.tabF, fun _ _ e => R'.fr _ _ (R.fr _ _ e), fun b o e n m => ?_, fun b e => R.dom b (R'.dom b e), fun b o e => ?_, R'.new⟩
  · have z := R'.slot i pv h
    match pv, h, z with
    | .un, _, _ => exact trivial
    | .val d, _, z => exact z
    | .own f ds, h, ⟨p, vs, e, hF, hp, hr, hN, hb⟩ => exact ⟨p, vs, e, hF, hp, hr, hN, hb.elim (hB p) (fun z => Or.inr (R.dom p z))⟩
  · refine R'.kp b o (R.kp b o e n m) (fun z => ?_) m
    rcases hB b z with z2 | z2
    · exact n z2
    · rw [z2] at e
      exact nomatch e
  · rcases R'.nw b o e with z | z | ⟨z1, z2⟩ | z
    · exact R.nw b o z
    · exact Or.inr (Or.inl (R.dom b z))
    · rcases hB b z1 with z3 | z3
      · exact Or.inr (Or.inr (Or.inl ⟨z3, z2⟩))
      · exact Or.inr (Or.inl z3)
    · exact Or.inr (Or.inr (Or.inr z))
/-- a thing that stands by itself is kept -/
theorem Rel.keeps {σ' : L2.St} {ρ' : PSt} {B : List Addr} (R' : Rel (c.at F H B) F' H' σ' ρ') {b : Addr} {o : HO} (e : H b = some o) (n : b ∉ B) (t : NoTb c b) : H' b = some o := R'.kp b o e n t
/-- what a call leaves -/
def Step (X : Sx) (B : List Addr) (F H F' H' : Hp) : Prop := Rel ⟨X, fun p => H p = none, [], F, H, B⟩ F' H' [] []
theorem Step.own (s : Step c.X [] F H F' H') (R : Rel c F H σ ρ) : Rel c F' H' σ ρ := by
  have kp : ∀ b o, H b = some o → (∀ ps, o ≠ .tbl ps) → H' b = some o := fun b o e n => s.kp b o e (by simp) (R.notab e n)
  refine ⟨R.len, s.sub, fun i pv h => (R.slot i pv h).mono s.fr fun fr ds q e1 e2 => ?_, R.sep, s.nt, s.tab, s.tabF, fun _ _ e => s.fr _ _ (R.fr _ _ e), fun b o e n m => s.kp b o (R.kp b o e n m) (by simp) m, fun b e => R.dom b (s.dom b e), fun b o e => ?_, fun p e => R.new p (s.dom p e)⟩
  · subst e1
    obtain ⟨f, vs, l⟩ := R.ownAt h e2
    refine ⟨?_, fun ws lw => kp _ _ lw (fun ps => by simp)⟩
    cases e : F' q with
    | none => rfl
    | some o =>
      rcases s.nw q o e with z | z | ⟨z, _⟩ | z
      · have z2 : F q = some o := z
        rw [f] at z2
        exact nomatch z2
      · have z2 : H q = none := z
        rw [l] at z2
        exact nomatch z2
      · exact nomatch z
      · have z2 := s.sub _ _ e
        rw [kp _ _ l (fun ps => by simp)] at z2
        cases z2
        exact z.elim
  · rcases s.nw b o e with z | z | ⟨z, _⟩ | z
    · exact R.nw b o z
    · exact Or.inr (Or.inl (R.dom b z))
    · exact nomatch z
    · exact Or.inr (Or.inr (Or.inr z))
/-- the things of a call forgotten -/
theorem Step.back {G : Hp} (s : Step c.X [] G H F' H') (R : Rel c F H σ ρ) : Rel c F H' σ ρ := by
  have kp : ∀ b o, H b = some o → (∀ ps, o ≠ .tbl ps) → H' b = some o := fun b o e n => s.kp b o e (by simp) (R.notab e n)
  refine ⟨R.len, fun b o e => ?_, fun i pv h => (R.slot i pv h).mono (Same.refl F) fun fr ds q e1 e2 => ?_, R.sep, s.nt, s.tab, R.tabF, R.fr, fun b o e n m => s.kp b o (R.kp b o e n m) (by simp) m, fun b e => R.dom b (s.dom b e), R.nw, fun p e => R.new p (s.dom p e)⟩
  · refine s.kp b o (R.sub b o e) (by simp) (fun x hx z => ?_)
    rw [z, R.tabF x hx] at e
    exact nomatch e
  · subst e1
    exact ⟨(R.ownAt h e2).1, fun ws lw => kp _ _ lw (fun ps => by simp)⟩
end
end L3
namespace L3
open PySem PySem.Spec PyProof.Rows L2 TB LamX
/-- a value on the way: data, or the own list in a slot -/
inductive Rv where
  | val (d : D) | cell (i : Nat)
abbrev QE := PSt → (Rv → PSt → Prop) → Prop
abbrev QD := PSt → (D → PSt → Prop) → Prop
abbrev QN := PSt → (List D → PSt → Prop) → Prop
abbrev QT := PSt → (Bool → PSt → Prop) → Prop
abbrev QA := PSt → (List Rv → PSt → Prop) → Prop
abbrev QO := PSt → (Option Int → PSt → Prop) → Prop
abbrev QI := PSt → (List D → PSt → Prop) → Prop
abbrev QG := D → PSt → (PSt → Prop) → Prop
abbrev QGs := List D → PSt → (PSt → Prop) → Prop
inductive Rs where
  | val (d : D) | new (ds : List D)
structure PEnds where
  nx : PSt → Prop
  rt : Rs → PSt → Prop
  bk : PSt → Prop := fun _ => False
  ct : PSt → Prop := fun _ => False
abbrev QS := PEnds → PSt → Prop
def rdP : Option PV → Option D
  | some (.val d) => some d
  | some (.own _ ds) => some (.lst ds)
  | _ => none
def rdR (ρ : PSt) : Rv → Option D
  | .val d => some d
  | .cell i => rdP ρ[i]?
def cons2 : Option D → Option (List D) → Option (List D)
  | some d, some ds => some (d :: ds)
  | _, _ => none
def rdL (ρ : PSt) : List Rv → Option (List D)
  | [] => some []
  | r :: rs => cons2 (rdR ρ r) (rdL ρ rs)
/-- v is this data now -/
def Rn (K : PySem.W.Frag) (F H : Hp) : D → V → Prop
  | .lst ds, v => ∃ p vs, v = .ref p ∧ H p = some (.lst vs) ∧ RpL K F ds vs
  | d, v => Rp K F d v
def RnL (K : PySem.W.Frag) (F H : Hp) : List D → List V → Prop
  | [], vs => vs = []
  | d :: ds, vs => ∃ v r, vs = v :: r ∧ Rn K F H d v ∧ RnL K F H ds r
theorem Rn.of {K : PySem.W.Frag} {F H : Hp} (s : Same F H) {d : D} {v : V} (h : Rp K F d v) : Rn K F H d v := by
  cases d <;> first
    | exact h
    | (obtain ⟨a, vs, e, q, r⟩ := h
       exact ⟨a, vs, e, s _ _ q, r⟩)
def RV (c : Ct) (F : Hp) (σ : L2.St) : Rv → V → Prop
  | .val d, v => Rp c.K F d v
  | .cell i, v => σ[i]? = some (some v)
def RVL (c : Ct) (F : Hp) (σ : L2.St) : List Rv → List V → Prop
  | [], vs => vs = []
  | r :: rs, vs => ∃ v t, vs = v :: t ∧ RV c F σ r v ∧ RVL c F σ rs t
section
variable {c : Ct} {F F' H : Hp} {σ : L2.St} {ρ : PSt}
theorem RV.mono (s : Same F F') : ∀ {r : Rv} {v : V}, RV c F σ r v → RV c F' σ r v
  | .val d, v, h => Rp.mono s h
  | .cell i, v, h => h
theorem RVL.mono (s : Same F F') : ∀ {r : List Rv} {v : List V}, RVL c F σ r v → RVL c F' σ r v
  | [], v, h => h
  | r :: rs, v, h => by
    obtain ⟨w, t, rfl, q, k⟩ := h
    exact ⟨w, t, rfl, q.mono s, RVL.mono s k⟩
theorem RV.rn (R : Rel c F H σ ρ) : ∀ {r : Rv} {v : V} {d : D}, RV c F σ r v → rdR ρ r = some d → Rn c.K F H d v
  | .val d, v, d', h, e => by
    obtain rfl := Option.some.inj e
    exact Rn.of R.sub h
  | .cell i, v, d', h, e => by
    have h2 : σ[i]? = some (some v) := h
    have e : rdP ρ[i]? = some d' := e
    cases hi : ρ[i]? with
    | none => rw [hi] at e; exact nomatch e
    | some pv =>
      rw [hi] at e
      match pv, hi, e with
      | .un, _, e => exact nomatch e
      | .val d, hi, e =>
        obtain rfl : d = d' := Option.some.inj e
        obtain ⟨w, e2, r⟩ := R.slot i _ hi
        rw [h2] at e2
        obtain rfl : v = w := Option.some.inj (Option.some.inj e2)
        exact Rn.of R.sub r
      | .own f ds, hi, e =>
        obtain rfl : D.lst ds = d' := Option.some.inj e
        obtain ⟨p, vs, e2, hF, hp, hr, _⟩ := R.slot i _ hi
        rw [h2] at e2
        obtain rfl : v = .ref p := Option.some.inj (Option.some.inj e2)
        exact ⟨p, vs, rfl, hp, hr⟩
theorem RVL.rn (R : Rel c F H σ ρ) : ∀ {rs : List Rv} {vs : List V} {ds : List D}, RVL c F σ rs vs → rdL ρ rs = some ds → RnL c.K F H ds vs
  | [], vs, ds, h, e => by
    obtain rfl := Option.some.inj e
    exact h
  | r :: rs, vs, ds, h, e => by
    obtain ⟨v, t, rfl, q, k⟩ := h
    have e : cons2 (rdR ρ r) (rdL ρ rs) = some ds := e
    cases h1 : rdR ρ r with
    | none => rw [h1] at e; exact nomatch e
    | some d =>
      cases h2 : rdL ρ rs with
      | none => rw [h1, h2] at e; exact nomatch e
      | some ds' =>
        rw [h1, h2] at e
        obtain rfl : d :: ds' = ds := Option.some.inj e
        exact ⟨v, t, rfl, q.rn R h1, RVL.rn R k h2⟩
end
/-- nobody's own list is at p -/
def Nob (σ : L2.St) (ρ : PSt) (p : Addr) : Prop := ∀ (i : Nat) (f : Bool) (ds : List D), ρ[i]? = some (.own f ds) → σ[i]? ≠ some (some (.ref p))
/-- a new list of ds at p that nobody has -/
structure NewL (c : Ct) (F H : Hp) (σ : L2.St) (ρ : PSt) (p : Addr) (ds : List D) : Prop where
  l : ∃ vs, H p = some (.lst vs) ∧ RpL c.K F ds vs
  f : F p = none
  n : c.N p
  b : c.H0 p = none ∨ (p ∈ c.B0 ∧ c.N p)
  o : Nob σ ρ p
theorem NewL.b2 {c : Ct} {F H : Hp} {σ : L2.St} {ρ : PSt} {p : Addr} {ds : List D} (n : NewL c F H σ ρ p ds) : p ∈ c.B0 ∨ c.H0 p = none := n.b.elim Or.inr (fun z => Or.inl z.1)
theorem NewL.keep {c : Ct} {F H : Hp} {σ : L2.St} {ρ : PSt} {p : Addr} {ds : List D} (n : NewL c F H σ ρ p ds) (R : Rel c F H σ ρ) : ∃ vs, Rel c (upd F p (.lst vs)) H σ ρ ∧ Same F (upd F p (.lst vs)) ∧ Rp c.K (upd F p (.lst vs)) (.lst ds) (.ref p) := by
  obtain ⟨vs, hp, hr⟩ := n.l
  have sF : Same F (upd F p (.lst vs)) := fun _ _ e => old_upd n.f e
  exact ⟨vs, R.keepL hp n.f n.o n.b, sF, p, vs, rfl, upd_same, hr.mono sF⟩
theorem NewL.made {c : Ct} {F H : Hp} {σ : L2.St} {ρ : PSt} {p : Addr} {ds : List D} {vs : List V} (R : Rel c F H σ ρ) (np : H p = none) (hr : RpL c.K F ds vs) : Rel c F (upd H p (.lst vs)) σ ρ ∧ NewL c F (upd H p (.lst vs)) σ ρ p ds :=
  ⟨R.allocH np trivial, ⟨vs, upd_same, hr⟩, R.fnone np, R.new p np, Or.inl (R.dom p np), R.noOwn np⟩
/-- what is to follow is carried -/
def LiE (X : Sx) (te : TE) (pe : QE) : Prop := ∀ (c : Ct), c.X = X → ∀ (σ : L2.St) (F H : Hp) (ρ : PSt) (Q : VK) (Q3 : Rv → PSt → Prop), Rel c F H σ ρ →
  (∀ r ρ' v F' H', Rel c F' H' σ ρ' → Same F F' → RV c F' σ r v → Q3 r ρ' → Q v H') → pe ρ Q3 → te σ H Q
def LiD (X : Sx) (te : TE) (pd : QD) : Prop := ∀ (c : Ct), c.X = X → ∀ (σ : L2.St) (F H : Hp) (ρ : PSt) (Q : VK) (Q3 : D → PSt → Prop), Rel c F H σ ρ →
  (∀ d ρ' v F' H', Rel c F' H' σ ρ' → Same F F' → Rp c.K F' d v → Q3 d ρ' → Q v H') → pd ρ Q3 → te σ H Q
def LiN (X : Sx) (te : TE) (pn : QN) : Prop := ∀ (c : Ct), c.X = X → ∀ (σ : L2.St) (F H : Hp) (ρ : PSt) (Q : VK) (Q3 : List D → PSt → Prop), Rel c F H σ ρ →
  (∀ ds ρ' p F' H', Rel c F' H' σ ρ' → Same F F' → NewL c F' H' σ ρ' p ds → Q3 ds ρ' → Q (.ref p) H') → pn ρ Q3 → te σ H Q
def LiT (X : Sx) (tt : TT) (pt : QT) : Prop := ∀ (c : Ct), c.X = X → ∀ (σ : L2.St) (F H : Hp) (ρ : PSt) (Q : Bool → Hp → Prop) (Q3 : Bool → PSt → Prop), Rel c F H σ ρ →
  (∀ b ρ' F' H', Rel c F' H' σ ρ' → Same F F' → Q3 b ρ' → Q b H') → pt ρ Q3 → tt σ H Q
def LiA (X : Sx) (ta : TA) (pa : QA) : Prop := ∀ (c : Ct), c.X = X → ∀ (σ : L2.St) (F H : Hp) (ρ : PSt) (Q : List V → Hp → Prop) (Q3 : List Rv → PSt → Prop), Rel c F H σ ρ →
  (∀ rs ρ' vs F' H', Rel c F' H' σ ρ' → Same F F' → RVL c F' σ rs vs → Q3 rs ρ' → Q vs H') → pa ρ Q3 → ta σ H Q
/-- the walk J yields these items -/
def Wd (X : Sx) (J : It) (F : Hp) (ds : List D) : Prop := ∀ (i : Nat) (c' : Ct) (σ : L2.St) (ρ : PSt) (F1 H1 : Hp), c'.X = X → Same F F1 → Rel c' F1 H1 σ ρ →
  (∀ d, ds[i]? = some d → J.go i H1 ∧ ∀ x H', J.yld i H1 x H' → Same H1 H' ∧ ∃ F', Rel c' F' H' σ ρ ∧ Same F1 F' ∧ Rp X.K F' d x) ∧ (ds[i]? = none → J.stop i H1)
def LiI (X : Sx) (wi : TI) (pi : QI) : Prop := ∀ (c : Ct), c.X = X → ∀ (σ : L2.St) (F H : Hp) (ρ : PSt) (R : It → Hp → Prop) (Q3 : List D → PSt → Prop), Rel c F H σ ρ →
  (∀ ds ρ' J F' H', Rel c F' H' σ ρ' → Same F F' → Wd X J F' ds → Q3 ds ρ' → R J H') → pi ρ Q3 → wi σ H R
/-- ts: the slots that it sets -/
def LiG (X : Sx) (g : TG) (pg : QG) (ts : List Nat) : Prop := ∀ (c : Ct), c.X = X → ∀ (σ : L2.St) (F H : Hp) (ρ : PSt) (d : D) (v : V) (R : L2.St → Hp → Prop) (Q3 : PSt → Prop), Rel c F H σ ρ → Rp c.K F d v →
  (∀ ρ' σ' F' H', Rel c F' H' σ' ρ' → Same F F' → σ'.length = σ.length → (∀ i, i ∉ ts → σ'[i]? = σ[i]?) → Q3 ρ' → R σ' H') → pg d ρ Q3 → g v σ H R
def LiGs (X : Sx) (g : TGs) (pg : QGs) (ts : List Nat) : Prop := ∀ (c : Ct), c.X = X → ∀ (σ : L2.St) (F H : Hp) (ρ : PSt) (ds : List D) (vs : List V) (R : L2.St → Hp → Prop) (Q3 : PSt → Prop), Rel c F H σ ρ → RpL c.K F ds vs →
  (∀ ρ' σ' F' H', Rel c F' H' σ' ρ' → Same F F' → σ'.length = σ.length → (∀ i, i ∉ ts → σ'[i]? = σ[i]?) → Q3 ρ' → R σ' H') → pg ds ρ Q3 → g vs σ H R
def RsOk (c : Ct) (F H : Hp) (σ : L2.St) (ρ : PSt) : Rs → V → Prop
  | .val d, v => Rp c.K F d v
  | .new ds, v => ∃ p, v = .ref p ∧ NewL c F H σ ρ p ds
structure Agr (c : Ct) (F : Hp) (D : Ends) (P : PEnds) : Prop where
  nx : ∀ σ' F' H' ρ', Rel c F' H' σ' ρ' → Same F F' → P.nx ρ' → D.nx σ' H'
  rt : ∀ σ' F' H' ρ' v r, Rel c F' H' σ' ρ' → Same F F' → RsOk c F' H' σ' ρ' r v → P.rt r ρ' → D.rt v H'
  bk : ∀ σ' F' H' ρ', Rel c F' H' σ' ρ' → Same F F' → P.bk ρ' → D.bk σ' H'
  ct : ∀ σ' F' H' ρ', Rel c F' H' σ' ρ' → Same F F' → P.ct ρ' → D.ct σ' H'
theorem Agr.mono {c : Ct} {F F' : Hp} {D : Ends} {P : PEnds} (a : Agr c F D P) (s : Same F F') : Agr c F' D P :=
  ⟨fun σ' G H' ρ' R q => a.nx σ' G H' ρ' R (tr s q), fun σ' G H' ρ' v r R q => a.rt σ' G H' ρ' v r R (tr s q), fun σ' G H' ρ' R q => a.bk σ' G H' ρ' R (tr s q), fun σ' G H' ρ' R q => a.ct σ' G H' ρ' R (tr s q)⟩
def LiS (X : Sx) (ts : TS) (ps : QS) : Prop := ∀ (c : Ct), c.X = X → ∀ (σ : L2.St) (F H : Hp) (ρ : PSt) (D : Ends) (P : PEnds), Rel c F H σ ρ → Agr c F D P → ps P ρ → ts D σ H
def qVarP (i : Nat) (Q : Rv → Prop) : Option PV → Prop
  | some (.val d) => Q (.val d)
  | some (.own _ _) => Q (.cell i)
  | _ => False
def qVar (i : Nat) : QE := fun ρ Q => qVarP i (fun r => Q r ρ) ρ[i]?
theorem li_var {X : Sx} {i : Nat} : LiE X (tVar i) (qVar i) := by
  intro c hX σ F H ρ Q Q3 R hq h
  have h : qVarP i (fun r => Q3 r ρ) ρ[i]? := h
  cases hi : ρ[i]? with
  | none => rw [hi] at h; exact h.elim
  | some pv =>
    rw [hi] at h
    match pv, hi, h with
    | .un, _, h => exact h.elim
    | .val d, hi, h =>
      obtain ⟨v, e, r⟩ := R.slot i _ hi
      exact ⟨v, e, hq (.val d) _ v F H R (Same.refl F) r h⟩
    | .own f ds, hi, h =>
      obtain ⟨p, vs, e, _⟩ := R.slot i _ hi
      exact ⟨.ref p, e, hq (.cell i) _ (.ref p) F H R (Same.refl F) e h⟩
def vD : V → Option D
  | .non => some .non
  | .bl b => some (.bl b)
  | .int i => some (.int i)
  | .str z => some (.str z)
  | .ty n => some (.ty n)
  | _ => none
def some1 {α : Type} (Q : α → Prop) : Option α → Prop
  | some d => Q d
  | none => False
def some2 {α β : Type} (Q : α → β → Prop) : Option α → Option β → Prop
  | some d, some e => Q d e
  | _, _ => False
def qC (v : V) : QE := fun ρ Q => some1 (fun d => Q (.val d) ρ) (vD v)
theorem li_c {X : Sx} {v : V} : LiE X (tC v) (qC v) := by
  intro c hX σ F H ρ Q Q3 R hq h
  match v, h with
  | .non, h => exact hq (.val .non) _ _ F H R (Same.refl F) rfl h
  | .bl b, h => exact hq (.val (.bl b)) _ _ F H R (Same.refl F) rfl h
  | .int b, h => exact hq (.val (.int b)) _ _ F H R (Same.refl F) rfl h
  | .str b, h => exact hq (.val (.str b)) _ _ F H R (Same.refl F) rfl h
  | .ty b, h => exact hq (.val (.ty b)) _ _ F H R (Same.refl F) rfl h
  | .byt _, h => exact h.elim
  | .flt _, h => exact h.elim
  | .ref _, h => exact h.elim
/-- what is kept: the own list is one no more -/
def escP (ρ : PSt) (i : Nat) (Q : D → PSt → Prop) : Option PV → Prop
  | some (.val d) => Q d ρ
  | some (.own true ds) => Q (.lst ds) (ρ.set i (.val (.lst ds)))
  | _ => False
def escR (ρ : PSt) (Q : D → PSt → Prop) : Rv → Prop
  | .val d => Q d ρ
  | .cell i => escP ρ i Q ρ[i]?
def qEsc (pe : QE) : QD := fun ρ Q => pe ρ fun r ρ' => escR ρ' Q r
theorem li_esc {X : Sx} {te : TE} {pe : QE} (h : LiE X te pe) : LiD X te (qEsc pe) := by
  intro c hX σ F H ρ Q Q3 R hq hp
  refine h c hX σ F H ρ Q _ R ?_ hp
  intro r ρ' v F' H' R' s rv q
  match r, rv, q with
  | .val d, rv, q => exact hq d ρ' v F' H' R' s rv q
  | .cell i, rv, q =>
    have rv2 : σ[i]? = some (some v) := rv
    have q : escP ρ' i Q3 ρ'[i]? := q
    cases hi : ρ'[i]? with
    | none => rw [hi] at q; exact q.elim
    | some pv =>
      rw [hi] at q
      match pv, hi, q with
      | .un, hi, q => exact q.elim
      | .val d, hi, q =>
        obtain ⟨w, e2, r⟩ := R'.slot i _ hi
        rw [rv2] at e2
        obtain rfl : v = w := Option.some.inj (Option.some.inj e2)
        exact hq d ρ' v F' H' R' s r q
      | .own false ds, hi, q => exact q.elim
      | .own true ds, hi, q =>
        obtain ⟨p, vs, e2, _⟩ := R'.slot i _ hi
        rw [rv2] at e2
        obtain rfl : v = .ref p := Option.some.inj (Option.some.inj e2)
        obtain ⟨vs, R2, s2, r2⟩ := R'.freeze hi rv2
        exact hq _ _ _ _ H' R2 (tr s s2) r2 q
def qKeep (pn : QN) : QE := fun ρ Q => pn ρ fun ds ρ' => Q (.val (.lst ds)) ρ'
theorem li_keep {X : Sx} {te : TE} {pn : QN} (h : LiN X te pn) : LiE X te (qKeep pn) := by
  intro c hX σ F H ρ Q Q3 R hq hp
  refine h c hX σ F H ρ Q _ R ?_ hp
  intro ds ρ' p F' H' R' s n q
  obtain ⟨vs, R2, s2, r2⟩ := n.keep R'
  exact hq (.val (.lst ds)) _ _ _ H' R2 (tr s s2) r2 q
def qVal (pd : QD) : QE := fun ρ Q => pd ρ fun d ρ' => Q (.val d) ρ'
theorem li_val {X : Sx} {te : TE} {pd : QD} (h : LiD X te pd) : LiE X te (qVal pd) := by
  intro c hX σ F H ρ Q Q3 R hq hp
  exact h c hX σ F H ρ Q _ R (fun d ρ' v F' H' R' s r q => hq (.val d) _ _ _ _ R' s r q) hp
def qNil : QA := fun ρ Q => Q [] ρ
def qCons (pe : QE) (pa : QA) : QA := fun ρ Q => pe ρ fun r ρ1 => pa ρ1 fun rs ρ2 => Q (r :: rs) ρ2
theorem li_nil {X : Sx} : LiA X tNil qNil := by
  intro c hX σ F H ρ Q Q3 R hq h
  exact hq [] ρ [] F H R (Same.refl F) rfl h
theorem li_cons {X : Sx} {te : TE} {ta : TA} {pe : QE} {pa : QA} (h1 : LiE X te pe) (h2 : LiA X ta pa) : LiA X (tCons te ta) (qCons pe pa) := by
  intro c hX σ F H ρ Q Q3 R hq h
  refine h1 c hX σ F H ρ _ _ R ?_ h
  intro r ρ1 v F1 H1 R1 s1 rv q1
  refine h2 c hX σ F1 H1 ρ1 _ _ R1 ?_ q1
  intro rs ρ2 vs F2 H2 R2 s2 rvs q2
  exact hq (r :: rs) ρ2 (v :: vs) F2 H2 R2 (tr s1 s2) ⟨v, vs, rfl, rv.mono s2, rvs⟩ q2
/-- all kept -/
abbrev QAD := PSt → (List D → PSt → Prop) → Prop
def LiAD (X : Sx) (ta : TA) (pa : QAD) : Prop := ∀ (c : Ct), c.X = X → ∀ (σ : L2.St) (F H : Hp) (ρ : PSt) (Q : List V → Hp → Prop) (Q3 : List D → PSt → Prop), Rel c F H σ ρ →
  (∀ ds ρ' vs F' H', Rel c F' H' σ ρ' → Same F F' → RpL c.K F' ds vs → Q3 ds ρ' → Q vs H') → pa ρ Q3 → ta σ H Q
def qNilD : QAD := fun ρ Q => Q [] ρ
def qConsD (pe : QD) (pa : QAD) : QAD := fun ρ Q => pe ρ fun d ρ1 => pa ρ1 fun ds ρ2 => Q (d :: ds) ρ2
theorem li_nilD {X : Sx} : LiAD X tNil qNilD := by
  intro c hX σ F H ρ Q Q3 R hq h
  exact hq [] ρ [] F H R (Same.refl F) rfl h
theorem li_consD {X : Sx} {te : TE} {ta : TA} {pe : QD} {pa : QAD} (h1 : LiD X te pe) (h2 : LiAD X ta pa) : LiAD X (tCons te ta) (qConsD pe pa) := by
  intro c hX σ F H ρ Q Q3 R hq h
  refine h1 c hX σ F H ρ _ _ R ?_ h
  intro d ρ1 v F1 H1 R1 s1 rv q1
  refine h2 c hX σ F1 H1 ρ1 _ _ R1 ?_ q1
  intro ds ρ2 vs F2 H2 R2 s2 rvs q2
  exact hq (d :: ds) ρ2 (v :: vs) F2 H2 R2 (tr s1 s2) ⟨v, vs, rfl, rv.mono s2, rvs⟩ q2
def qLst (pa : QAD) : QN := fun ρ Q => pa ρ fun ds ρ' => ds.length ≤ sizeLine ∧ Q ds ρ'
theorem li_lst {X : Sx} {ta : TA} {pa : QAD} (h : LiAD X ta pa) : LiN X (tLst ta) (qLst pa) := by
  intro c hX σ F H ρ Q Q3 R hq hp
  refine h c hX σ F H ρ _ _ R ?_ hp
  intro ds ρ' vs F' H' R' s r ⟨z, q⟩
  refine ⟨by rw [r.len]; exact z, fun p np => ?_⟩
  obtain ⟨R2, n2⟩ := NewL.made R' np r
  exact hq ds ρ' p F' _ R2 s n2 q
def qTup (pa : QAD) : QD := fun ρ Q => pa ρ fun ds ρ' => ds.length ≤ sizeLine ∧ Q (.tup ds) ρ'
theorem li_tup {X : Sx} {ta : TA} {pa : QAD} (h : LiAD X ta pa) : LiD X (tTup ta) (qTup pa) := by
  intro c hX σ F H ρ Q Q3 R hq hp
  refine h c hX σ F H ρ _ _ R ?_ hp
  intro ds ρ' vs F' H' R' s r ⟨z, q⟩
  refine ⟨by rw [r.len]; exact z, fun p np => ?_⟩
  have s2 : Same F' (upd F' p (.tup vs)) := fun _ _ e => old_upd (R'.fnone np) e
  exact hq (.tup ds) ρ' (.ref p) _ _ (R'.alloc np trivial) (tr s s2) ⟨p, vs, rfl, sqT_of upd_same, r.mono s2⟩ q
abbrev O2 := D → D → (D → Prop) → Prop
def LiR (X : Sx) (r : R2) (r3 : O2) : Prop := ∀ (c : Ct), c.X = X → ∀ (σ : L2.St) (F H : Hp) (ρ : PSt) (x y : V) (dx dy : D) (Q : VK) (Q3 : D → Prop), Rel c F H σ ρ → Rn c.K F H dx x → Rn c.K F H dy y →
  (∀ d v F' H', Rel c F' H' σ ρ → Same F F' → Rp c.K F' d v → Q3 d → Q v H') → r3 dx dy Q3 → r x y H Q
def qOp (r3 : O2) (pa pb : QE) : QE := fun ρ Q => pa ρ fun x ρ1 => pb ρ1 fun y ρ2 => some2 (fun dx dy => r3 dx dy fun d => Q (.val d) ρ2) (rdR ρ2 x) (rdR ρ2 y)
theorem li_op {X : Sx} {r : R2} {r3 : O2} {ta tb : TE} {pa pb : QE} (hr : LiR X r r3) (ha : LiE X ta pa) (hb : LiE X tb pb) : LiE X (tOp r ta tb) (qOp r3 pa pb) := by
  intro c hX σ F H ρ Q Q3 R hq h
  refine ha c hX σ F H ρ _ _ R ?_ h
  intro x ρ1 v F1 H1 R1 s1 rv q1
  refine hb c hX σ F1 H1 ρ1 _ _ R1 ?_ q1
  intro y ρ2 w F2 H2 R2 s2 rw2 q2
  cases h1 : rdR ρ2 x with
  | none => rw [h1] at q2; exact q2.elim
  | some dx =>
    cases h2 : rdR ρ2 y with
    | none => rw [h1, h2] at q2; exact q2.elim
    | some dy =>
      rw [h1, h2] at q2
      exact hr c hX σ F2 H2 ρ2 v w dx dy Q _ R2 ((rv.mono s2).rn R2 h1) (rw2.rn R2 h2) (fun d u F' H' R' s r q => hq (.val d) _ _ _ _ R' (tr (tr s1 s2) s) r q) q2
abbrev O2N := D → D → (List D → Prop) → Prop
def LiRN (X : Sx) (r : R2) (r3 : O2N) : Prop := ∀ (c : Ct), c.X = X → ∀ (σ : L2.St) (F H : Hp) (ρ : PSt) (x y : V) (dx dy : D) (Q : VK) (Q3 : List D → Prop), Rel c F H σ ρ → Rn c.K F H dx x → Rn c.K F H dy y →
  (∀ ds p F' H', Rel c F' H' σ ρ → Same F F' → NewL c F' H' σ ρ p ds → Q3 ds → Q (.ref p) H') → r3 dx dy Q3 → r x y H Q
def qOpN (r3 : O2N) (pa pb : QE) : QN := fun ρ Q => pa ρ fun x ρ1 => pb ρ1 fun y ρ2 => some2 (fun dx dy => r3 dx dy fun d => Q d ρ2) (rdR ρ2 x) (rdR ρ2 y)
theorem li_opN {X : Sx} {r : R2} {r3 : O2N} {ta tb : TE} {pa pb : QE} (hr : LiRN X r r3) (ha : LiE X ta pa) (hb : LiE X tb pb) : LiN X (tOp r ta tb) (qOpN r3 pa pb) := by
  intro c hX σ F H ρ Q Q3 R hq h
  refine ha c hX σ F H ρ _ _ R ?_ h
  intro x ρ1 v F1 H1 R1 s1 rv q1
  refine hb c hX σ F1 H1 ρ1 _ _ R1 ?_ q1
  intro y ρ2 w F2 H2 R2 s2 rw2 q2
  cases h1 : rdR ρ2 x with
  | none => rw [h1] at q2; exact q2.elim
  | some dx =>
    cases h2 : rdR ρ2 y with
    | none => rw [h1, h2] at q2; exact q2.elim
    | some dy =>
      rw [h1, h2] at q2
      exact hr c hX σ F2 H2 ρ2 v w dx dy Q _ R2 ((rv.mono s2).rn R2 h1) (rw2.rn R2 h2) (fun d u F' H' R' s r q => hq d _ _ _ _ R' (tr (tr s1 s2) s) r q) q2
abbrev O1 := D → (D → Prop) → Prop
def LiU (X : Sx) (r : V → Hp → VK → Prop) (r3 : O1) : Prop := ∀ (c : Ct), c.X = X → ∀ (σ : L2.St) (F H : Hp) (ρ : PSt) (x : V) (dx : D) (Q : VK) (Q3 : D → Prop), Rel c F H σ ρ → Rn c.K F H dx x →
  (∀ d v F' H', Rel c F' H' σ ρ → Same F F' → Rp c.K F' d v → Q3 d → Q v H') → r3 dx Q3 → r x H Q
def qUn (r3 : O1) (pa : QE) : QE := fun ρ Q => pa ρ fun x ρ1 => some1 (fun dx => r3 dx fun d => Q (.val d) ρ1) (rdR ρ1 x)
theorem li_un {X : Sx} {r : V → Hp → VK → Prop} {r3 : O1} {ta : TE} {pa : QE} (hr : LiU X r r3) (ha : LiE X ta pa) : LiE X (tUn r ta) (qUn r3 pa) := by
  intro c hX σ F H ρ Q Q3 R hq h
  refine ha c hX σ F H ρ _ _ R ?_ h
  intro x ρ1 v F1 H1 R1 s1 rv q1
  cases h1 : rdR ρ1 x with
  | none => rw [h1] at q1; exact q1.elim
  | some dx =>
    rw [h1] at q1
    exact hr c hX σ F1 H1 ρ1 v dx Q _ R1 (rv.rn R1 h1) (fun d u F' H' R' s r q => hq (.val d) _ _ _ _ R' (tr s1 s) r q) q1
abbrev OL := List D → (D → Prop) → Prop
def LiC (X : Sx) (r : List V → Hp → VK → Prop) (r3 : OL) : Prop := ∀ (c : Ct), c.X = X → ∀ (σ : L2.St) (F H : Hp) (ρ : PSt) (xs : List V) (dxs : List D) (Q : VK) (Q3 : D → Prop), Rel c F H σ ρ → RnL c.K F H dxs xs →
  (∀ d v F' H', Rel c F' H' σ ρ → Same F F' → Rp c.K F' d v → Q3 d → Q v H') → r3 dxs Q3 → r xs H Q
def qCB (r3 : OL) (pa : QA) : QE := fun ρ Q => pa ρ fun xs ρ1 => some1 (fun ds => r3 ds fun d => Q (.val d) ρ1) (rdL ρ1 xs)
theorem li_cb {X : Sx} {r : List V → Hp → VK → Prop} {r3 : OL} {ta : TA} {pa : QA} (hr : LiC X r r3) (ha : LiA X ta pa) : LiE X (tCB r ta) (qCB r3 pa) := by
  intro c hX σ F H ρ Q Q3 R hq h
  refine ha c hX σ F H ρ _ _ R ?_ h
  intro x ρ1 v F1 H1 R1 s1 rv q1
  cases h1 : rdL ρ1 x with
  | none => rw [h1] at q1; exact q1.elim
  | some dx =>
    rw [h1] at q1
    exact hr c hX σ F1 H1 ρ1 v dx Q _ R1 (rv.rn R1 h1) (fun d u F' H' R' s r q => hq (.val d) _ _ _ _ R' (tr s1 s) r q) q1
abbrev OLN := List D → (List D → Prop) → Prop
def LiCN (X : Sx) (r : List V → Hp → VK → Prop) (r3 : OLN) : Prop := ∀ (c : Ct), c.X = X → ∀ (σ : L2.St) (F H : Hp) (ρ : PSt) (xs : List V) (dxs : List D) (Q : VK) (Q3 : List D → Prop), Rel c F H σ ρ → RnL c.K F H dxs xs →
  (∀ d p F' H', Rel c F' H' σ ρ → Same F F' → NewL c F' H' σ ρ p d → Q3 d → Q (.ref p) H') → r3 dxs Q3 → r xs H Q
def qCBN (r3 : OLN) (pa : QA) : QN := fun ρ Q => pa ρ fun xs ρ1 => some1 (fun ds => r3 ds fun d => Q d ρ1) (rdL ρ1 xs)
theorem li_cbN {X : Sx} {r : List V → Hp → VK → Prop} {r3 : OLN} {ta : TA} {pa : QA} (hr : LiCN X r r3) (ha : LiA X ta pa) : LiN X (tCB r ta) (qCBN r3 pa) := by
  intro c hX σ F H ρ Q Q3 R hq h
  refine ha c hX σ F H ρ _ _ R ?_ h
  intro x ρ1 v F1 H1 R1 s1 rv q1
  cases h1 : rdL ρ1 x with
  | none => rw [h1] at q1; exact q1.elim
  | some dx =>
    rw [h1] at q1
    exact hr c hX σ F1 H1 ρ1 v dx Q _ R1 (rv.rn R1 h1) (fun d u F' H' R' s r q => hq d _ _ _ _ R' (tr s1 s) r q) q1
def isBl (Q : Bool → Prop) : Rv → Prop
  | .val (.bl b) => Q b
  | _ => False
theorem isBl_is {Q : Bool → Prop} : ∀ {r : Rv}, isBl Q r → ∃ b, r = .val (.bl b) ∧ Q b
  | .val (.bl b), h => ⟨b, rfl, h⟩
def qTest (pe : QE) : QT := fun ρ Q => pe ρ fun r ρ' => isBl (fun b => Q b ρ') r
theorem li_tB {X : Sx} {te : TE} {pe : QE} (h : LiE X te pe) : LiT X (tB te) (qTest pe) := by
  intro c hX σ F H ρ Q Q3 R hq hp
  refine h c hX σ F H ρ _ _ R ?_ hp
  intro r ρ' v F' H' R' s rv q
  obtain ⟨b, rfl, q⟩ := isBl_is q
  exact ⟨b, rv, hq b ρ' F' H' R' s q⟩
theorem li_test {X : Sx} {te : TE} {pe : QE} (h : LiE X te pe) : LiT X (tTest te) (qTest pe) := li_tB h
def qAnd (p q : QT) : QT := fun ρ Q => p ρ fun b ρ1 => if b = true then q ρ1 Q else Q false ρ1
def qOr (p q : QT) : QT := fun ρ Q => p ρ fun b ρ1 => if b = true then Q true ρ1 else q ρ1 Q
def qNot (p : QT) : QT := fun ρ Q => p ρ fun b ρ1 => Q (!b) ρ1
def qYes : QT := fun ρ Q => Q true ρ
theorem li_and {X : Sx} {t u : TT} {p q : QT} (h1 : LiT X t p) (h2 : LiT X u q) : LiT X (tAnd t u) (qAnd p q) := by
  intro c hX σ F H ρ Q Q3 R hq hp
  refine h1 c hX σ F H ρ _ _ R ?_ hp
  intro b ρ1 F1 H1 R1 s1 q1
  cases b with
  | true => exact h2 c hX σ F1 H1 ρ1 _ _ R1 (fun b ρ2 F2 H2 R2 s2 q2 => hq b ρ2 F2 H2 R2 (tr s1 s2) q2) q1
  | false => exact hq false ρ1 F1 H1 R1 s1 q1
theorem li_or {X : Sx} {t u : TT} {p q : QT} (h1 : LiT X t p) (h2 : LiT X u q) : LiT X (tOr t u) (qOr p q) := by
  intro c hX σ F H ρ Q Q3 R hq hp
  refine h1 c hX σ F H ρ _ _ R ?_ hp
  intro b ρ1 F1 H1 R1 s1 q1
  cases b with
  | true => exact hq true ρ1 F1 H1 R1 s1 q1
  | false => exact h2 c hX σ F1 H1 ρ1 _ _ R1 (fun b ρ2 F2 H2 R2 s2 q2 => hq b ρ2 F2 H2 R2 (tr s1 s2) q2) q1
theorem li_not {X : Sx} {t : TT} {p : QT} (h1 : LiT X t p) : LiT X (tNot t) (qNot p) := by
  intro c hX σ F H ρ Q Q3 R hq hp
  exact h1 c hX σ F H ρ _ _ R (fun b ρ1 F1 H1 R1 s1 q1 => hq _ ρ1 F1 H1 R1 s1 q1) hp
theorem li_yes {X : Sx} : LiT X tYes qYes := by
  intro c hX σ F H ρ Q Q3 R hq hp
  exact hq _ ρ F H R (Same.refl F) hp
def qIf (p : QT) (a b : QE) : QE := fun ρ Q => p ρ fun k ρ1 => if k = true then a ρ1 Q else b ρ1 Q
theorem li_if {X : Sx} {t : TT} {ta tb : TE} {p : QT} {a b : QE} (h1 : LiT X t p) (h2 : LiE X ta a) (h3 : LiE X tb b) : LiE X (tIf t ta tb) (qIf p a b) := by
  intro c hX σ F H ρ Q Q3 R hq hp
  refine h1 c hX σ F H ρ _ _ R ?_ hp
  intro k ρ1 F1 H1 R1 s1 q1
  cases k with
  | true => exact h2 c hX σ F1 H1 ρ1 _ _ R1 (fun r ρ2 v F2 H2 R2 s2 rv q2 => hq r ρ2 v F2 H2 R2 (tr s1 s2) rv q2) q1
  | false => exact h3 c hX σ F1 H1 ρ1 _ _ R1 (fun r ρ2 v F2 H2 R2 s2 rv q2 => hq r ρ2 v F2 H2 R2 (tr s1 s2) rv q2) q1
def qAndV (a b : QE) : QE := fun ρ Q => a ρ fun r ρ1 => isBl (fun k => if k = true then b ρ1 Q else Q (.val (.bl false)) ρ1) r
def qOrV (a b : QE) : QE := fun ρ Q => a ρ fun r ρ1 => isBl (fun k => if k = true then Q (.val (.bl true)) ρ1 else b ρ1 Q) r
def qNotV (a : QE) : QE := fun ρ Q => a ρ fun r ρ1 => isBl (fun k => Q (.val (.bl (!k))) ρ1) r
theorem li_andV {X : Sx} {ta tb : TE} {a b : QE} (h1 : LiE X ta a) (h2 : LiE X tb b) : LiE X (tAndV ta tb) (qAndV a b) := by
  intro c hX σ F H ρ Q Q3 R hq hp
  refine h1 c hX σ F H ρ _ _ R ?_ hp
  intro r ρ1 v F1 H1 R1 s1 rv q1
  obtain ⟨k, rfl, q1⟩ := isBl_is q1
  match k, rv, q1 with
  | true, rv, q1 => exact ⟨true, rv, h2 c hX σ F1 H1 ρ1 _ _ R1 (fun r ρ2 v F2 H2 R2 s2 rv q2 => hq r ρ2 v F2 H2 R2 (tr s1 s2) rv q2) q1⟩
  | false, rv, q1 => exact ⟨false, rv, hq (.val (.bl false)) ρ1 _ F1 H1 R1 s1 rfl q1⟩
theorem li_orV {X : Sx} {ta tb : TE} {a b : QE} (h1 : LiE X ta a) (h2 : LiE X tb b) : LiE X (tOrV ta tb) (qOrV a b) := by
  intro c hX σ F H ρ Q Q3 R hq hp
  refine h1 c hX σ F H ρ _ _ R ?_ hp
  intro r ρ1 v F1 H1 R1 s1 rv q1
  obtain ⟨k, rfl, q1⟩ := isBl_is q1
  match k, rv, q1 with
  | false, rv, q1 => exact ⟨false, rv, h2 c hX σ F1 H1 ρ1 _ _ R1 (fun r ρ2 v F2 H2 R2 s2 rv q2 => hq r ρ2 v F2 H2 R2 (tr s1 s2) rv q2) q1⟩
  | true, rv, q1 => exact ⟨true, rv, hq (.val (.bl true)) ρ1 _ F1 H1 R1 s1 rfl q1⟩
theorem li_notV {X : Sx} {ta : TE} {a : QE} (h1 : LiE X ta a) : LiE X (tNotV ta) (qNotV a) := by
  intro c hX σ F H ρ Q Q3 R hq hp
  refine h1 c hX σ F H ρ _ _ R ?_ hp
  intro r ρ1 v F1 H1 R1 s1 rv q1
  obtain ⟨k, rfl, q1⟩ := isBl_is q1
  exact ⟨k, rv, hq (.val (.bl (!k))) ρ1 _ F1 H1 R1 s1 rfl q1⟩
end L3
namespace L3
open PySem PySem.Spec PyProof.Rows L2 TB LamX
open C8 (tCut)
def gqName (i : Nat) : QG := fun d ρ Q => Q (ρ.set i (.val d))
def gqNil : QGs := fun ds ρ Q => ds = [] ∧ Q ρ
def gqCons (g : QG) (gs : QGs) : QGs := fun ds ρ Q => ∃ d r, ds = d :: r ∧ g d ρ fun ρ' => gs r ρ' Q
def gqTup (n : Nat) (gs : QGs) : QG := fun d ρ Q => ∃ ds, d = .tup ds ∧ ds.length = n ∧ gs ds ρ Q
section
variable {X : Sx}
theorem lg_name {i : Nat} : LiG X (gName i) (gqName i) [i] := by
  intro c hX σ F H ρ d v R Q3 Re h hq hp
  refine hq _ _ F H (Re.setVal (i := i) h) (Same.refl F) (List.length_set) (fun j hj => ?_) hp
  rw [List.getElem?_set_ne (fun e => hj (by rw [e]; exact List.mem_singleton.mpr rfl))]
theorem lg_nil : LiGs X gNil gqNil [] := by
  intro c hX σ F H ρ ds vs R Q3 Re h hq hp
  obtain ⟨rfl, q⟩ := hp
  have e : vs = [] := h
  exact ⟨e, hq _ _ F H Re (Same.refl F) rfl (fun _ _ => rfl) q⟩
theorem lg_cons {g : TG} {gs : TGs} {p : QG} {ps : QGs} {t1 t2 : List Nat} (h1 : LiG X g p t1) (h2 : LiGs X gs ps t2) : LiGs X (gCons g gs) (gqCons p ps) (t1 ++ t2) := by
  intro c hX σ F H ρ ds vs R Q3 Re h hq hp
  obtain ⟨d, r, rfl, q⟩ := hp
  obtain ⟨v, ws, rfl, k1, k2⟩ := h
  refine ⟨v, ws, rfl, ?_⟩
  refine h1 c hX σ F H ρ d v _ _ Re k1 ?_ q
  intro ρ1 σ1 F1 H1 R1 s1 l1 e1 q1
  refine h2 c hX σ1 F1 H1 ρ1 r ws _ _ R1 (k2.mono s1) ?_ q1
  intro ρ2 σ2 F2 H2 R2 s2 l2 e2 q2
  refine hq ρ2 σ2 F2 H2 R2 (tr s1 s2) (l2.trans l1) (fun i hi => ?_) q2
  rw [e2 i (fun z => hi (List.mem_append_right _ z)), e1 i (fun z => hi (List.mem_append_left _ z))]
theorem lg_tup {n : Nat} {gs : TGs} {ps : QGs} {t : List Nat} (h1 : LiGs X gs ps t) : LiG X (gTup X.K n gs) (gqTup n ps) t := by
  intro c hX σ F H ρ d v R Q3 Re h hq hp
  obtain ⟨ds, rfl, hn, q⟩ := hp
  obtain ⟨a, vs, rfl, sq, r⟩ := h
  subst hX
  exact ⟨a, vs, rfl, sqT_mono Re.sub sq, by rw [r.len]; exact hn, h1 c rfl σ F H ρ ds vs R Q3 Re r hq q⟩
def sNext : QS := fun P ρ => P.nx ρ
def sSeq (p q : QS) : QS := fun P ρ => p { P with nx := q P } ρ
def sCut (p q : QS) : QS := fun P ρ => ∃ M : PSt → Prop, p { P with nx := M } ρ ∧ ∀ ρ', M ρ' → q P ρ'
def sDrop (pe : QE) : QS := fun P ρ => pe ρ fun _ ρ' => P.nx ρ'
def sRet (pd : QD) : QS := fun P ρ => pd ρ fun d ρ' => P.rt (.val d) ρ'
def sRetNew (pn : QN) : QS := fun P ρ => pn ρ fun ds ρ' => P.rt (.new ds) ρ'
def retP (ρ : PSt) (i : Nat) (P : PEnds) : Option PV → Prop
  | some (.val d) => P.rt (.val d) ρ
  | some (.own true ds) => P.rt (.new ds) (ρ.set i .un)
  | _ => False
def sRetV (i : Nat) : QS := fun P ρ => retP ρ i P ρ[i]?
def sIf (pt : QT) (p q : QS) : QS := fun P ρ => pt ρ fun b ρ1 => if b = true then p P ρ1 else q P ρ1
def sAsg (pd : QD) (g : QG) : QS := fun P ρ => pd ρ fun d ρ1 => g d ρ1 P.nx
def sOwn (pn : QN) (i : Nat) : QS := fun P ρ => pn ρ fun ds ρ1 => P.nx (ρ1.set i (.own true ds))
/-- the reading of an assignment to a name whose list will be changed -/
def tAsgN (te : TE) (i : Nat) : TS := tAsg te (gName i)
theorem ls_next : LiS X tNext sNext := fun c hX σ F H ρ D P R a h => a.nx σ F H ρ R (Same.refl F) h
theorem ls_never : LiS X tNever (fun _ _ => False) := fun c hX σ F H ρ D P R a h => h.elim
theorem ls_seq {t u : TS} {p q : QS} (h1 : LiS X t p) (h2 : LiS X u q) : LiS X (tSeq t u) (sSeq p q) := by
  intro c hX σ F H ρ D P R a h
  exact h1 c hX σ F H ρ _ { P with nx := q P } R ⟨fun σ' F' H' ρ' R' s z => h2 c hX σ' F' H' ρ' D P R' (a.mono s) z, a.rt, a.bk, a.ct⟩ h
theorem ls_cut {t u : TS} {p q : QS} (h1 : LiS X t p) (h2 : LiS X u q) : LiS X (tCut t u) (sCut p q) := by
  intro c hX σ F H ρ D P R a h
  obtain ⟨M, hm, hu⟩ := h
  refine ⟨fun σ' H' => ∃ F' ρ', Rel c F' H' σ' ρ' ∧ Same F F' ∧ M ρ', ?_, ?_⟩
  · exact h1 c hX σ F H ρ _ { P with nx := M } R ⟨fun σ' F' H' ρ' R' s q => ⟨F', ρ', R', s, q⟩, a.rt, a.bk, a.ct⟩ hm
  · rintro σ' H' ⟨F', ρ', R', s, q⟩
    exact h2 c hX σ' F' H' ρ' D P R' (a.mono s) (hu ρ' q)
theorem ls_drop {te : TE} {pe : QE} (h1 : LiE X te pe) : LiS X (tDrop te) (sDrop pe) := by
  intro c hX σ F H ρ D P R a h
  exact h1 c hX σ F H ρ _ _ R (fun r ρ' v F' H' R' s rv q => a.nx σ F' H' ρ' R' s q) h
theorem ls_ret {te : TE} {pd : QD} (h1 : LiD X te pd) : LiS X (tRet te) (sRet pd) := by
  intro c hX σ F H ρ D P R a h
  exact h1 c hX σ F H ρ _ _ R (fun d ρ' v F' H' R' s rv q => a.rt σ F' H' ρ' v (.val d) R' s rv q) h
theorem ls_retNew {te : TE} {pn : QN} (h1 : LiN X te pn) : LiS X (tRet te) (sRetNew pn) := by
  intro c hX σ F H ρ D P R a h
  exact h1 c hX σ F H ρ _ _ R (fun ds ρ' p F' H' R' s rv q => a.rt σ F' H' ρ' (.ref p) (.new ds) R' s ⟨p, rfl, rv⟩ q) h
theorem ls_retV {i : Nat} : LiS X (tRet (tVar i)) (sRetV i) := by
  intro c hX σ F H ρ D P R a h
  have h : retP ρ i P ρ[i]? := h
  cases hi : ρ[i]? with
  | none => rw [hi] at h; exact h.elim
  | some pv =>
    rw [hi] at h
    match pv, hi, h with
    | .un, hi, h => exact h.elim
    | .val d, hi, h =>
      obtain ⟨v, e, r⟩ := R.slot i _ hi
      exact ⟨v, e, a.rt σ F H ρ v (.val d) R (Same.refl F) r h⟩
    | .own false ds, hi, h => exact h.elim
    | .own true ds, hi, h =>
      obtain ⟨p, vs, e, hF, hp, hr, hN, hb⟩ := R.slot i _ hi
      refine ⟨.ref p, e, a.rt σ F H (ρ.set i .un) (.ref p) (.new ds) (R.forget i) (Same.refl F) ⟨p, rfl, ⟨vs, hp, hr⟩, hF, hN.1 rfl, hb.elim (fun z => Or.inr ⟨z, hN.1 rfl⟩) Or.inl, fun j f2 d2 h2 e2 => ?_⟩ h⟩
      by_cases q : i = j
      · subst q
        have hl := (List.getElem?_eq_some_iff.mp h2).1
        rw [List.length_set] at hl
        rw [List.getElem?_set_self hl] at h2
        exact nomatch h2
      · rw [List.getElem?_set_ne q] at h2
        exact q (R.sep i j _ _ _ _ p hi h2 e e2)
theorem ls_if {tc : TT} {t u : TS} {pt : QT} {p q : QS} (h0 : LiT X tc pt) (h1 : LiS X t p) (h2 : LiS X u q) : LiS X (tIfS tc t u) (sIf pt p q) := by
  intro c hX σ F H ρ D P R a h
  refine h0 c hX σ F H ρ _ _ R ?_ h
  intro b ρ' F' H' R' s q
  cases b with
  | true => exact h1 c hX σ F' H' ρ' D P R' (a.mono s) q
  | false => exact h2 c hX σ F' H' ρ' D P R' (a.mono s) q
theorem ls_asg {te : TE} {g : TG} {pd : QD} {pg : QG} {t : List Nat} (h1 : LiD X te pd) (h2 : LiG X g pg t) : LiS X (tAsg te g) (sAsg pd pg) := by
  intro c hX σ F H ρ D P R a h
  refine h1 c hX σ F H ρ _ _ R ?_ h
  intro d ρ' v F' H' R' s rv q
  exact h2 c hX σ F' H' ρ' d v _ _ R' rv (fun ρ2 σ2 F2 H2 R2 s2 _ _ q2 => a.nx σ2 F2 H2 ρ2 R2 (tr s s2) q2) q
theorem ls_own {te : TE} {i : Nat} {pn : QN} (h1 : LiN X te pn) : LiS X (tAsgN te i) (sOwn pn i) := by
  intro c hX σ F H ρ D P R a h
  refine h1 c hX σ F H ρ _ _ R ?_ h
  intro ds ρ' p F' H' R' s n q
  obtain ⟨vs, hp, hr⟩ := n.l
  exact a.nx _ F' H' _ (R'.setOwn hp n.f hr n.n n.b2 n.o) s q
def ForP (ds : List D) (g : QG) (p : QS) (P : PEnds) (ρ : PSt) : Prop := ∃ W : Nat → PSt → Prop, W 0 ρ ∧ ∀ i ρ, W i ρ → (ds[i]? = none → P.nx ρ) ∧ ∀ d, ds[i]? = some d → g d ρ fun ρ1 => p { P with nx := W (i + 1), ct := W (i + 1), bk := P.nx } ρ1
def sFor (pi : QI) (g : QG) (p : QS) : QS := fun P ρ => pi ρ fun ds ρ1 => ForP ds g p P ρ1
theorem ls_for {wi : TI} {g : TG} {tb : TS} {pi : QI} {pg : QG} {p : QS} {t : List Nat} (h0 : LiI X wi pi) (h1 : LiG X g pg t) (h2 : LiS X tb p) : LiS X (tFor wi g tb) (sFor pi pg p) := by
  intro c hX σ F H ρ D P R a h
  refine h0 c hX σ F H ρ _ _ R ?_ h
  rintro ds ρ1 J F1 H1 R1 s1 wd ⟨W, w0, turn⟩
  refine ⟨fun i m σ' H' => m = ds.length - i ∧ ∃ F' ρ', Rel c F' H' σ' ρ' ∧ Same F1 F' ∧ W i ρ', ⟨_, rfl, F1, ρ1, R1, Same.refl F1, w0⟩, ?_⟩
  rintro i m σ2 H2 ⟨rfl, F2, ρ2, R2, s2, q2⟩
  obtain ⟨w1, w2⟩ := wd i c σ2 ρ2 F2 H2 hX s2 R2
  obtain ⟨t1, t2⟩ := turn i ρ2 q2
  cases e1 : ds[i]? with
  | none => exact Or.inl ⟨w2 e1, a.nx σ2 F2 H2 ρ2 R2 (tr s1 s2) (t1 e1)⟩
  | some d =>
    obtain ⟨go, yl⟩ := w1 d e1
    have hlt := (List.getElem?_eq_some_iff.mp e1).1
    refine Or.inr ⟨go, fun σ' H' => ∃ F' ρ', Rel c F' H' σ' ρ' ∧ Same F1 F' ∧ W (i + 1) ρ', fun σ' H' ⟨F', ρ', R', s', q'⟩ => ⟨ds.length - (i + 1), by omega, rfl, F', ρ', R', s', q'⟩, ?_⟩
    intro x H3 hy
    obtain ⟨_, F3, R3, s3, rp⟩ := yl x H3 hy
    refine h1 c hX σ2 F3 H3 ρ2 d x _ _ R3 (by rw [← hX] at rp; exact rp) ?_ (t2 d e1)
    intro ρ4 σ4 F4 H4 R4 s4 _ _ q4
    have sA : Same F F4 := tr (tr (tr s1 s2) s3) s4
    refine h2 c hX σ4 F4 H4 ρ4 _ _ R4 ⟨?_, ?_, ?_, ?_⟩ q4
    · intro σ' F' H' ρ' R' s' q'
      exact ⟨F', ρ', R', tr (tr (tr s2 s3) s4) s', q'⟩
    · intro σ' F' H' ρ' v r R' s' ro q'
      exact a.rt σ' F' H' ρ' v r R' (tr sA s') ro q'
    · intro σ' F' H' ρ' R' s' q'
      exact a.nx σ' F' H' ρ' R' (tr sA s') q'
    · intro σ' F' H' ρ' R' s' q'
      exact ⟨F', ρ', R', tr (tr (tr s2 s3) s4) s', q'⟩
def iqSeq (pe : QE) : QI := fun ρ Q => qEsc pe ρ fun d ρ' => ∃ ds, d = .lst ds ∧ Q ds ρ'
def iqTup (pe : QE) : QI := fun ρ Q => qEsc pe ρ fun d ρ' => ∃ ds, d = .tup ds ∧ Q ds ρ'
theorem list_inj {c : Ct} {F H : Hp} {σ : L2.St} {ρ : PSt} (R : Rel c F H σ ρ) : True := trivial
theorem wd_list {a : Addr} {vs : List V} {ds : List D} {F : Hp} (h : SqL X.K F a vs) (r : RpL X.K F ds vs) : Wd X (Itl X.K a) F ds := by
  intro i c' σ ρ F1 H1 hX s R
  have hs := sqL_mono (tr s R.sub) h
  refine ⟨fun d e => ?_, fun e => ?_⟩
  · obtain ⟨v, e2, rp⟩ := r.get' e
    refine ⟨⟨vs, v, hs, e2⟩, ?_⟩
    rintro x H' ⟨rfl, hx⟩
    have ex := hx vs hs
    rw [e2] at ex
    obtain rfl := Option.some.inj ex
    exact ⟨Same.refl _, F1, R, Same.refl _, rp.mono s⟩
  · refine ⟨vs, hs, ?_⟩
    rw [r.len]
    exact List.getElem?_eq_none_iff.mp e
theorem wd_tup {a : Addr} {vs : List V} {ds : List D} {F : Hp} (h : SqT X.K F a vs) (r : RpL X.K F ds vs) : Wd X (Itt X.K a) F ds := by
  intro i c' σ ρ F1 H1 hX s R
  have hs := sqT_mono (tr s R.sub) h
  refine ⟨fun d e => ?_, fun e => ?_⟩
  · obtain ⟨v, e2, rp⟩ := r.get' e
    refine ⟨⟨vs, v, hs, e2⟩, ?_⟩
    rintro x H' ⟨rfl, hx⟩
    have ex := hx vs hs
    rw [e2] at ex
    obtain rfl := Option.some.inj ex
    exact ⟨Same.refl _, F1, R, Same.refl _, rp.mono s⟩
  · refine ⟨vs, hs, ?_⟩
    rw [r.len]
    exact List.getElem?_eq_none_iff.mp e
theorem wd_range {lo : Int} {n : Nat} {F : Hp} : Wd X (Itr lo n) F ((List.range n).map fun (i : Nat) => D.int (lo + i)) := by
  intro i c' σ ρ F1 H1 hX s R
  refine ⟨fun d e => ?_, fun e => ?_⟩
  · have hl := (List.getElem?_eq_some_iff.mp e).1
    rw [List.length_map, List.length_range] at hl
    rw [List.getElem?_map, List.getElem?_range hl] at e
    obtain rfl := Option.some.inj e
    refine ⟨hl, ?_⟩
    rintro x H' ⟨rfl, rfl⟩
    exact ⟨Same.refl _, F1, R, Same.refl _, rfl⟩
  · have := List.getElem?_eq_none_iff.mp e
    rw [List.length_map, List.length_range] at this
    exact this
theorem wd_str {z : Str} {F : Hp} : Wd X (Its z) F (z.cps.toList.map fun k => D.str ⟨#[k]⟩) := by
  intro i c' σ ρ F1 H1 hX s R
  refine ⟨fun d e => ?_, fun e => ?_⟩
  · have hl := (List.getElem?_eq_some_iff.mp e).1
    rw [List.length_map] at hl
    rw [List.getElem?_map, Array.getElem?_toList] at e
    refine ⟨(by show i < z.cps.size; simpa using hl), ?_⟩
    rintro x H' ⟨rfl, k, hk, rfl⟩
    rw [hk] at e
    obtain rfl := Option.some.inj e
    exact ⟨Same.refl _, F1, R, Same.refl _, rfl⟩
  · have := List.getElem?_eq_none_iff.mp e
    rw [List.length_map] at this
    show z.cps.size ≤ i
    simpa using this
theorem wd_enum {a : Addr} {vs : List V} {ds : List D} {F : Hp} (h : SqL X.K F a vs) (r : RpL X.K F ds vs) : Wd X (Ite X.K a) F (ds.zipIdx.map fun p => D.tup [.int (p.2 : Nat), p.1]) := by
  intro i c' σ ρ F1 H1 hX s R
  have hs := sqL_mono (tr s R.sub) h
  refine ⟨fun d e => ?_, fun e => ?_⟩
  · rw [List.getElem?_map, List.getElem?_zipIdx] at e
    cases e3 : ds[i]? with
    | none => rw [e3] at e; exact nomatch e
    | some d0 =>
      rw [e3] at e
      obtain rfl := Option.some.inj e
      obtain ⟨v, e2, rp⟩ := r.get' e3
      refine ⟨⟨vs, v, hs, e2⟩, ?_⟩
      rintro x H' ⟨T, y, rfl, nT, rfl, hx⟩
      have ex := hx vs hs
      rw [e2] at ex
      obtain rfl := Option.some.inj ex
      have sF : Same F1 (upd F1 T (.tup [.int (i : Nat), v])) := fun _ _ e => old_upd (R.fnone nT) e
      refine ⟨fun _ _ e => old_upd nT e, _, R.alloc nT trivial, sF, T, _, rfl, sqT_of upd_same, ?_⟩
      refine ⟨_, _, rfl, ?_, _, _, rfl, (rp.mono s).mono sF, rfl⟩
      show V.int _ = V.int _
      rw [Nat.zero_add]
  · refine ⟨vs, hs, ?_⟩
    rw [r.len]
    have := List.getElem?_eq_none_iff.mp e
    rw [List.length_map, List.length_zipIdx] at this
    exact this
theorem lii_list {te : TE} {pe : QE} (h1 : LiE X te pe) : LiI X (iList X.K te) (iqSeq pe) := by
  intro c hX σ F H ρ R Q3 Re hq hp
  refine li_esc h1 c hX σ F H ρ _ _ Re ?_ hp
  rintro d ρ' v F' H' R' s rp ⟨ds, rfl, q⟩
  subst hX
  obtain ⟨a, vs, rfl, sq, r⟩ := rp
  exact ⟨a, rfl, ⟨vs, sqL_of (R'.sub _ _ sq)⟩, hq ds ρ' _ F' H' R' s (wd_list (sqL_of sq) r) q⟩
theorem lii_tup {te : TE} {pe : QE} (h1 : LiE X te pe) : LiI X (iTup X.K te) (iqTup pe) := by
  intro c hX σ F H ρ R Q3 Re hq hp
  refine li_esc h1 c hX σ F H ρ _ _ Re ?_ hp
  rintro d ρ' v F' H' R' s rp ⟨ds, rfl, q⟩
  subst hX
  obtain ⟨a, vs, rfl, sq, r⟩ := rp
  exact ⟨a, rfl, ⟨vs, sqT_mono R'.sub sq⟩, hq ds ρ' _ F' H' R' s (wd_tup sq r) q⟩
def iqEnum (pa : QAD) : QI := fun ρ Q => pa ρ fun as ρ' => ∃ ds, as = [.lst ds] ∧ Q (ds.zipIdx.map fun p => D.tup [.int (p.2 : Nat), p.1]) ρ'
theorem lii_enum {ta : TA} {pa : QAD} (h1 : LiAD X ta pa) : LiI X (iEnum X.K ta) (iqEnum pa) := by
  intro c hX σ F H ρ R Q3 Re hq hp
  refine h1 c hX σ F H ρ _ _ Re ?_ hp
  rintro ds ρ' vs F' H' R' s rp ⟨es, rfl, q⟩
  subst hX
  obtain ⟨v, t, rfl, ⟨a, ws, rfl, sq, r⟩, e⟩ := rp
  obtain rfl : t = [] := e
  exact ⟨a, ws, rfl, sqL_of (R'.sub _ _ sq), hq _ ρ' _ F' H' R' s (wd_enum (sqL_of sq) r) q⟩
def iqRng1 (pa : QA) : QI := fun ρ Q => pa ρ fun as ρ' => ∃ j : Int, rdL ρ' as = some [.int j] ∧ -(2 ^ 62) ≤ j ∧ j < 2 ^ 62 ∧ Q ((List.range j.toNat).map fun (i : Nat) => D.int (0 + i)) ρ'
theorem lii_rng1 {ta : TA} {pa : QA} (h1 : LiA X ta pa) : LiI X (iRng1 ta) (iqRng1 pa) := by
  intro c hX σ F H ρ R Q3 Re hq hp
  refine h1 c hX σ F H ρ _ _ Re ?_ hp
  rintro rs ρ' vs F' H' R' s rv ⟨j, e, b1, b2, q⟩
  obtain ⟨v, t, rfl, r1, r2⟩ := rv.rn R' e
  obtain rfl : t = [] := r2
  obtain rfl : v = .int j := r1
  exact ⟨j, rfl, b1, b2, hq _ ρ' _ F' H' R' s wd_range q⟩
def iqStr (pe : QE) : QI := fun ρ Q => qEsc pe ρ fun d ρ' => ∃ z, d = .str z ∧ Q (z.cps.toList.map fun k => D.str ⟨#[k]⟩) ρ'
theorem lii_str {te : TE} {pe : QE} (h1 : LiE X te pe) : LiI X (iStr te) (iqStr pe) := by
  intro c hX σ F H ρ R Q3 Re hq hp
  refine li_esc h1 c hX σ F H ρ _ _ Re ?_ hp
  rintro d ρ' v F' H' R' s rp ⟨z, rfl, q⟩
  exact ⟨z, rp, hq _ ρ' _ F' H' R' s wd_str q⟩
end
end L3
namespace L3
open PySem PySem.Spec PyProof.Rows L2 TB LamX
def wipeP (ρ : PSt) : List Nat → PSt
  | [] => ρ
  | v :: vs => (wipeP ρ vs).set v .un
def dropO : Option PV → PV
  | some (.val d) => .val d
  | _ => .un
def backP (ρ ρ' : PSt) : List Nat → PSt
  | [] => ρ'
  | v :: vs => (backP ρ ρ' vs).set v (dropO ρ[v]?)
theorem wipeP_len (ρ : PSt) : ∀ vs, (wipeP ρ vs).length = ρ.length
  | [] => rfl
  | v :: vs => by rw [wipeP, List.length_set, wipeP_len ρ vs]
theorem backP_len (ρ ρ' : PSt) : ∀ vs, (backP ρ ρ' vs).length = ρ'.length
  | [] => rfl
  | v :: vs => by rw [backP, List.length_set, backP_len ρ ρ' vs]
theorem wipeP_get {ρ : PSt} {i : Nat} {pv : PV} : ∀ {vs : List Nat}, (wipeP ρ vs)[i]? = some pv → pv = .un ∨ (ρ[i]? = some pv ∧ i ∉ vs)
  | [], h => Or.inr ⟨h, by simp⟩
  | v :: vs, h => by
    unfold wipeP at h
    by_cases hi : v = i
    · subst hi
      by_cases hv : v < (wipeP ρ vs).length
      · rw [List.getElem?_set_self hv] at h
        exact Or.inl (Option.some.inj h).symm
      · rw [List.getElem?_eq_none (by simpa using hv)] at h; cases h
    · rw [List.getElem?_set_ne hi] at h
      rcases wipeP_get h with e | ⟨h1, h2⟩
      · exact Or.inl e
      · exact Or.inr ⟨h1, by simp only [List.mem_cons, not_or]; exact ⟨fun e => hi e.symm, h2⟩⟩
theorem backP_get {ρ ρ' : PSt} {i : Nat} {pv : PV} : ∀ {vs : List Nat}, (backP ρ ρ' vs)[i]? = some pv → (i ∈ vs ∧ pv = dropO ρ[i]?) ∨ (ρ'[i]? = some pv ∧ i ∉ vs)
  | [], h => Or.inr ⟨h, by simp⟩
  | v :: vs, h => by
    unfold backP at h
    by_cases hi : v = i
    · subst hi
      by_cases hv : v < (backP ρ ρ' vs).length
      · rw [List.getElem?_set_self hv] at h
        exact Or.inl ⟨List.mem_cons_self, (Option.some.inj h).symm⟩
      · rw [List.getElem?_eq_none (by simpa using hv)] at h; cases h
    · rw [List.getElem?_set_ne hi] at h
      rcases backP_get h with ⟨e1, e2⟩ | ⟨h1, h2⟩
      · exact Or.inl ⟨List.mem_cons_of_mem _ e1, e2⟩
      · exact Or.inr ⟨h1, by simp only [List.mem_cons, not_or]; exact ⟨fun e => hi e.symm, h2⟩⟩
theorem wipe_out' {σ : L2.St} {i : Nat} : ∀ {vs : List Nat}, i ∉ vs → (wipe σ vs)[i]? = σ[i]?
  | [], _ => rfl
  | v :: vs, h => by
    unfold wipe
    rw [List.getElem?_set_ne (fun e => h (by rw [e]; exact List.mem_cons_self))]
    exact wipe_out' (fun e => h (List.mem_cons_of_mem _ e))
theorem wipe_in {σ : L2.St} {i : Nat} : ∀ {vs : List Nat}, i ∈ vs → i < σ.length → (wipe σ vs)[i]? = some none
  | [], h, _ => nomatch h
  | v :: vs, h, hl => by
    unfold wipe
    by_cases e : v = i
    · subst e
      rw [List.getElem?_set_self (by rw [wipe_length]; exact hl)]
    · rw [List.getElem?_set_ne e]
      exact wipe_in ((List.mem_cons.mp h).resolve_left (fun z => e z.symm)) hl
/-- slots apart from vs alike -/
theorem wipe_eq {σ σ' : L2.St} {vs : List Nat} (hl : σ'.length = σ.length) (h : ∀ i, i ∉ vs → σ'[i]? = (wipe σ vs)[i]?) : wipe σ' vs = wipe σ vs := by
  apply List.ext_getElem?
  intro i
  by_cases hi : i ∈ vs
  · by_cases hb : i < σ.length
    · rw [wipe_in hi (by rw [hl]; exact hb), wipe_in hi hb]
    · rw [List.getElem?_eq_none (by rw [wipe_length, hl]; omega), List.getElem?_eq_none (by rw [wipe_length]; omega)]
  · rw [wipe_out' hi]
    exact h i hi
section
variable {X : Sx} {c : Ct} {F H F' H' : Hp} {σ : L2.St} {ρ : PSt}
theorem Rel.wipe (R : Rel c F H σ ρ) (vs : List Nat) : Rel c F H (L2.wipe σ vs) (wipeP ρ vs) := by
  refine ⟨by rw [wipe_length, wipeP_len]; exact R.len, R.sub, fun i pv h => ?_, fun i j f1 o1 f2 o2 p h1 h2 e1 e2 => ?_, R.nt, R.tab, R.tabF, R.fr, R.kp, R.dom, R.nw, R.new⟩
  · rcases wipeP_get h with rfl | ⟨h1, h2⟩
    · exact trivial
    · rw [wipe_out' h2]
      exact R.slot i pv h1
  · rcases wipeP_get h1 with e | ⟨h3, h4⟩
    · exact nomatch e
    · rcases wipeP_get h2 with e | ⟨h5, h6⟩
      · exact nomatch e
      · rw [wipe_out' h4] at e1
        rw [wipe_out' h6] at e2
        exact R.sep i j _ _ _ _ p h3 h5 e1 e2
theorem Rel.backS {σ2 : L2.St} {ρ2 : PSt} {vs : List Nat} (R : Rel c F H σ ρ) (s : Same F F') (R2 : Rel c F' H' σ2 ρ2) (hw : L2.wipe σ2 vs = L2.wipe σ vs) : Rel c F' H' σ (backP ρ ρ2 vs) := by
  have hl : σ2.length = σ.length := by
    have := congrArg List.length hw
    rw [wipe_length, wipe_length] at this
    exact this
  have hs : ∀ i, i ∉ vs → σ2[i]? = σ[i]? := fun i hi => by
    have : (L2.wipe σ2 vs)[i]? = (L2.wipe σ vs)[i]? := by rw [hw]
    rw [wipe_out' hi, wipe_out' hi] at this
    exact this
  refine ⟨by rw [backP_len, ← R2.len]; exact hl.symm, R2.sub, fun i pv h => ?_, fun i j f1 o1 f2 o2 p h1 h2 e1 e2 => ?_, R2.nt, R2.tab, R2.tabF, R2.fr, R2.kp, R2.dom, R2.nw, R2.new⟩
  · rcases backP_get h with ⟨hi, rfl⟩ | ⟨h1, h2⟩
    · cases e : ρ[i]? with
      | none => exact trivial
      | some q =>
        match q, e with
        | .un, _ => exact trivial
        | .own _ _, _ => exact trivial
        | .val d, e =>
          obtain ⟨v, e1, r⟩ := R.slot i _ e
          exact ⟨v, e1, r.mono s⟩
    · rw [← hs i h2]
      exact R2.slot i pv h1
  · have g : ∀ (i : Nat) (f : Bool) (o : List D), (backP ρ ρ2 vs)[i]? = some (PV.own f o) → ρ2[i]? = some (PV.own f o) ∧ i ∉ vs := by
      intro i f o h
      rcases backP_get h with ⟨hi, e⟩ | z
      · cases e2 : ρ[i]? with
        | none => rw [e2] at e; exact nomatch e
        | some q =>
          rw [e2] at e
          cases q <;> exact nomatch e
      · exact z
    obtain ⟨g1, n1⟩ := g _ _ _ h1
    obtain ⟨g2, n2⟩ := g _ _ _ h2
    rw [← hs i n1] at e1
    rw [← hs j n2] at e2
    exact R2.sep i j _ _ _ _ p g1 g2 e1 e2
def LcP (ds : List D) (g : QG) (pt : QT) (pe : QD) (vs : List Nat) (ρ0 : PSt) (Q : List D → PSt → Prop) : Prop := ∃ W : Nat → List D → PSt → Prop, W 0 [] ρ0 ∧ ∀ i acc ρ, W i acc ρ → (ds[i]? = none → Q acc ρ) ∧
  ∀ d, ds[i]? = some d → g d (wipeP ρ vs) fun ρ2 => pt ρ2 fun b ρ3 => if b = true then pe ρ3 fun e ρ4 => acc.length < sizeLine ∧ W (i + 1) (acc ++ [e]) (backP ρ ρ4 vs) else W (i + 1) acc (backP ρ ρ3 vs)
def qLc (pi : QI) (g : QG) (pt : QT) (pe : QD) (vs : List Nat) : QN := fun ρ Q => pi ρ fun ds ρ1 => LcP ds g pt pe vs ρ1 Q
theorem li_lc {wi : TI} {g : TG} {tt : TT} {te : TE} {vs : List Nat} {pi : QI} {pg : QG} {pt : QT} {pe : QD} {t : List Nat} (h0 : LiI X wi pi) (h1 : LiG X g pg t) (h2 : LiT X tt pt) (h3 : LiD X te pe) (ht : ∀ i ∈ t, i ∈ vs) : LiN X (tLc wi g tt te vs) (qLc pi pg pt pe vs) := by
  intro c hX σ F H ρ Q Q3 R hq h
  refine h0 c hX σ F H ρ _ _ R ?_ h
  rintro ds ρ1 J F1 H1 R1 s1 wd ⟨W, w0, turn⟩
  intro A nA
  obtain ⟨RA, nwA⟩ := NewL.made (vs := []) (ds := []) R1 nA rfl
  refine ⟨fun i m H' => m = ds.length - i ∧ ∃ F' ρ' acc, Rel c F' H' σ ρ' ∧ Same F1 F' ∧ NewL c F' H' σ ρ' A acc ∧ W i acc ρ', ⟨_, rfl, F1, ρ1, [], RA, Same.refl F1, nwA, w0⟩, ?_⟩
  rintro i m H2 ⟨rfl, F2, ρ2, acc, R2, s2, n2, w2⟩
  have nobA : A ∉ ownB σ ρ2 := by
    intro z
    obtain ⟨j, f, o, g1, g2⟩ := mem_ownB.mp z
    exact n2.o j f o g1 g2
  have R2h := R2.here
  have hXh : (c.at F2 H2 (ownB σ ρ2)).X = X := hX
  obtain ⟨ws, hA2, rA2⟩ := n2.l
  have ntb : NoTb c A := R2.notab hA2 (fun ps => by simp)
  obtain ⟨d1, d2⟩ := wd i _ σ ρ2 F2 H2 hXh s2 R2h
  obtain ⟨t1, t2⟩ := turn i acc ρ2 w2
  cases e1 : ds[i]? with
  | none => exact Or.inl ⟨d2 e1, hq acc ρ2 A F2 H2 R2 (tr s1 s2) n2 (t1 e1)⟩
  | some d =>
    obtain ⟨go, yl⟩ := d1 d e1
    have hlt := (List.getElem?_eq_some_iff.mp e1).1
    refine Or.inr ⟨go, fun H' => ∃ F' ρ' acc, Rel c F' H' σ ρ' ∧ Same F1 F' ∧ NewL c F' H' σ ρ' A acc ∧ W (i + 1) acc ρ', fun H' ⟨F', ρ', acc', R', s', n', w'⟩ => ⟨ds.length - (i + 1), by omega, rfl, F', ρ', acc', R', s', n', w'⟩, ?_⟩
    intro x H3 hy
    obtain ⟨sH3, F3, R3, s3, rp⟩ := yl x H3 hy
    have Rw := R3.wipe vs
    -- what holds behind an evaluation
    have after : ∀ {F4 H4 : Hp} {σ4 : L2.St} {ρ4 : PSt}, Rel (c.at F2 H2 (ownB σ ρ2)) F4 H4 σ4 ρ4 → L2.wipe σ4 vs = L2.wipe σ vs → Rel c F4 H4 σ (backP ρ2 ρ4 vs) ∧ NewL c F4 H4 σ (backP ρ2 ρ4 vs) A acc ∧ Same F2 F4 := by
      intro F4 H4 σ4 ρ4 R4 hw
      have sF : Same F2 F4 := R4.fr
      have RR := R2.backS sF (R2.trans R4) hw
      have hA4 : H4 A = some (.lst ws) := R4.kp A _ hA2 nobA ntb
      refine ⟨RR, ⟨⟨ws, hA4, rA2.mono sF⟩, ?_, n2.n, n2.b, fun j f o hj ej => ?_⟩, sF⟩
      · cases e : F4 A with
        | none => rfl
        | some o =>
          rcases R4.nw A o e with z | z | ⟨z, _⟩ | z
          · have z2 : F2 A = some o := z
            rw [n2.f] at z2
            exact nomatch z2
          · have z2 : H2 A = none := z
            rw [hA2] at z2
            exact nomatch z2
          · exact absurd z nobA
          · have z2 := R4.sub _ _ e
            rw [hA4] at z2
            cases z2
            exact z.elim
      · rcases backP_get hj with ⟨_, e⟩ | ⟨h4, h5⟩
        · cases e2 : ρ2[j]? with
          | none => rw [e2] at e; exact nomatch e
          | some q =>
            rw [e2] at e
            cases q <;> exact nomatch e
        · have e4 : σ4[j]? = some (some (.ref A)) := by
            have : (L2.wipe σ4 vs)[j]? = (L2.wipe σ vs)[j]? := by rw [hw]
            rw [wipe_out' h5, wipe_out' h5] at this
            rw [this]
            exact ej
          obtain ⟨p, us, ep, _, _, _, _, hb⟩ := R4.slot j _ h4
          rw [e4] at ep
          obtain rfl : A = p := by injection ep with ep; injection ep with ep; injection ep
          rcases hb with z | z
          · exact nobA z
          · have z2 : H2 A = none := z
            rw [hA2] at z2
            exact nomatch z2
    refine h1 _ hXh (L2.wipe σ vs) F3 H3 (wipeP ρ2 vs) d x _ _ Rw (by rw [← hX] at rp; exact rp) ?_ (t2 d e1)
    intro ρ4 σ4 F4 H4 R4 s4 l4 o4 q4
    have hw4 : L2.wipe σ4 vs = L2.wipe σ vs := by
      refine wipe_eq (by rw [l4, wipe_length]) (fun j hj => ?_)
      rw [o4 j (fun z => hj (ht j z))]
    refine ⟨hw4, ?_⟩
    refine h2 _ hXh σ4 F4 H4 ρ4 _ _ R4 ?_ q4
    intro b ρ5 F5 H5 R5 s5 q5
    cases b with
    | false =>
      obtain ⟨R6, n6, s6⟩ := after R5 hw4
      exact ⟨F5, _, acc, R6, tr s2 s6, n6, q5⟩
    | true =>
      refine h3 _ hXh σ4 F5 H5 ρ5 _ _ R5 ?_ q5
      rintro e ρ6 v F6 H6 R6 s6 rv ⟨hz, q6⟩
      obtain ⟨R7, n7, s7⟩ := after R6 hw4
      obtain ⟨us, hA7, rA7⟩ := n7.l
      have rA8 : RpL c.K F6 (acc ++ [e]) (us ++ [v]) := rA7.app ⟨v, [], rfl, rv, rfl⟩
      refine ⟨us, hA7, by rw [rA7.len]; exact hz, F6, _, acc ++ [e], R7.mutH hA7 n7.f n7.b2 n7.o, tr s2 s7, ⟨⟨us ++ [v], upd_same, rA8⟩, n7.f, n7.n, n7.b, n7.o⟩, q6⟩
abbrev PSp := List D → (Rs → Option (List D) → Prop) → Prop
def ioB (io : Option Nat) (vs : List V) : List Addr := match io with
  | none => []
  | some j => match vs[j]? with
    | some (.ref p) => [p]
    | _ => []
structure Entry (X : Sx) (io : Option Nat) (F H : Hp) (vs : List V) (ds : List D) : Prop where
  sub : Same F H
  nt : NoT H
  tab : ∀ x ∈ X.tb, TabS H x.1 x.2
  tabF : ∀ x ∈ X.tb, F x.1 = none
  len : vs.length = ds.length
  arg : ∀ (j : Nat) (d : D) (v : V), ds[j]? = some d → vs[j]? = some v → io ≠ some j → Rp X.K F d v
  ioA : ∀ j, io = some j → ∃ p ws es, vs[j]? = some (.ref p) ∧ ds[j]? = some (.lst es) ∧ F p = none ∧ H p = some (.lst ws) ∧ RpL X.K F es ws
def RsX (X : Sx) (H F' H' : Hp) : Rs → V → Prop
  | .val d, v => Rp X.K F' d v
  | .new es, v => ∃ p ws, v = .ref p ∧ F' p = none ∧ H p = none ∧ H' p = some (.lst ws) ∧ RpL X.K F' es ws
structure Exit (X : Sx) (io : Option Nat) (F H : Hp) (vs : List V) (F' H' : Hp) (r : Rs) (out : Option (List D)) (v : V) : Prop where
  step : Step X (ioB io vs) F H F' H'
  res : RsX X H F' H' r v
  out : ∀ j p, io = some j → vs[j]? = some (.ref p) → ∃ es ws, out = some es ∧ H' p = some (.lst ws) ∧ RpL X.K F' es ws
def lsp (X : Sx) (io : Option Nat) (P : PSp) : Sp := fun vs H Q _ => ∃ F ds Q3, Entry X io F H vs ds ∧ P ds Q3 ∧ ∀ r out v F' H', Exit X io F H vs F' H' r out v → Q3 r out → Q v H'
def st0 (N : List Str) (ds : List D) : PSt := ds.map PV.val ++ List.replicate (N.length - ds.length) PV.un
def own0 (ρ : PSt) (j : Nat) : Option D → PSt
  | some (.lst es) => ρ.set j (.own false es)
  | _ => ρ
def start3 (N : List Str) (ds : List D) : Option Nat → PSt
  | none => st0 N ds
  | some j => own0 (st0 N ds) j ds[j]?
def endO (Q : Option (List D) → Prop) : Option PV → Prop
  | some (.own false es) => Q (some es)
  | _ => False
def endP (io : Option Nat) (r : Rs) (ρ : PSt) (Q3 : Rs → Option (List D) → Prop) : Prop := match io with
  | none => Q3 r none
  | some j => endO (Q3 r) ρ[j]?
def ends3 (io : Option Nat) (Q3 : Rs → Option (List D) → Prop) : PEnds := { nx := fun ρ => endP io (.val .non) ρ Q3, rt := fun r ρ => endP io r ρ Q3 }
theorem Rel.empty {N : Addr → Prop} {I I' : List Addr} {F0 H0 : Hp} {B0 : List Addr} (R : Rel ⟨X, N, I, F0, H0, B0⟩ F H σ ρ) : Rel ⟨X, N, I', F0, H0, B0⟩ F H [] [] := ⟨rfl, R.sub, fun i pv h => by simp at h, fun i j f1 o1 f2 o2 p h => by simp at h, R.nt, R.tab, R.tabF, R.fr, R.kp, R.dom, R.nw, R.new⟩
theorem start_get {N : List Str} {vs : List V} {j : Nat} (h : j < vs.length) : (L2.start N vs)[j]? = (vs[j]?).map some := by
  unfold L2.start
  rw [List.getElem?_append_left (by rw [List.length_map]; exact h), List.getElem?_map]
theorem st0_get {N : List Str} {ds : List D} {j : Nat} {pv : PV} (h : (st0 N ds)[j]? = some pv) : pv = .un ∨ ∃ d, ds[j]? = some d ∧ pv = .val d := by
  unfold st0 at h
  by_cases hj : j < ds.length
  · rw [List.getElem?_append_left (by rw [List.length_map]; exact hj), List.getElem?_map] at h
    rw [List.getElem?_eq_getElem hj] at h ⊢
    exact Or.inr ⟨_, rfl, (Option.some.inj h).symm⟩
  · rw [List.getElem?_append_right (by rw [List.length_map]; omega)] at h
    exact Or.inl (List.eq_of_mem_replicate (List.mem_of_getElem? h))
theorem entry_rel {N : List Str} {io : Option Nat} {vs : List V} {ds : List D} (e : Entry X io F H vs ds) : Rel ⟨X, fun p => H p = none, ioB io vs, F, H, ioB io vs⟩ F H (L2.start N vs) (start3 N ds io) := by
  have l0 : (L2.start N vs).length = (st0 N ds).length := by
    unfold L2.start st0
    rw [List.length_append, List.length_append, List.length_map, List.length_map, List.length_replicate, List.length_replicate, e.len]
  have l1 : (start3 N ds io).length = (st0 N ds).length := by
    match io with
    | none => rfl
    | some j =>
      show (own0 (st0 N ds) j ds[j]?).length = _
      cases h : ds[j]? with
      | none => rfl
      | some d =>
        cases d <;> first
          | rfl
          | exact List.length_set
  have get : ∀ (j : Nat) (pv : PV), (start3 N ds io)[j]? = some pv → pv = .un ∨ (∃ d, ds[j]? = some d ∧ pv = .val d ∧ io ≠ some j) ∨ ∃ es, io = some j ∧ ds[j]? = some (.lst es) ∧ pv = .own false es := by
    intro j pv h
    match hio : io with
    | none =>
      rcases st0_get h with z | ⟨d, z1, z2⟩
      · exact Or.inl z
      · exact Or.inr (Or.inl ⟨d, z1, z2, (fun q => nomatch q)⟩)
    | some k =>
      obtain ⟨p, ws, es, v1, v2, _⟩ := e.ioA k rfl
      have h2 : (own0 (st0 N ds) k ds[k]?)[j]? = some pv := h
      rw [v2] at h2
      have h3 : ((st0 N ds).set k (.own false es))[j]? = some pv := h2
      by_cases q : k = j
      · subst q
        have hl := (List.getElem?_eq_some_iff.mp h3).1
        rw [List.length_set] at hl
        rw [List.getElem?_set_self hl] at h3
        exact Or.inr (Or.inr ⟨es, rfl, v2, (Option.some.inj h3).symm⟩)
      · rw [List.getElem?_set_ne q] at h3
        rcases st0_get h3 with z | ⟨d, z1, z2⟩
        · exact Or.inl z
        · exact Or.inr (Or.inl ⟨d, z1, z2, fun w => q (Option.some.inj w)⟩)
  have vget : ∀ (j : Nat) (d : D), ds[j]? = some d → ∃ v, vs[j]? = some v ∧ (L2.start N vs)[j]? = some (some v) := by
    intro j d h
    have hj : j < vs.length := by
      rw [e.len]
      exact (List.getElem?_eq_some_iff.mp h).1
    refine ⟨vs[j], List.getElem?_eq_getElem hj, ?_⟩
    rw [start_get hj, List.getElem?_eq_getElem hj]
    rfl
  refine ⟨l0.trans l1.symm, e.sub, fun j pv h => ?_, fun i j f1 o1 f2 o2 p h1 h2 e1 e2 => ?_, e.nt, e.tab, e.tabF, Same.refl F, fun b o z _ _ => z, fun b z => z, fun b o z => Or.inl z, fun p z => z⟩
  · rcases get j pv h with rfl | ⟨d, z1, rfl, z3⟩ | ⟨es, z1, z2, rfl⟩
    · exact trivial
    · obtain ⟨v, v1, v2⟩ := vget j d z1
      exact ⟨v, v2, e.arg j d v z1 v1 z3⟩
    · obtain ⟨p, ws, es', v1, v2, v3, v4, v5⟩ := e.ioA j z1
      rw [z2] at v2
      obtain rfl : es = es' := by injection v2 with v2; injection v2
      obtain ⟨v, w1, w2⟩ := vget j _ z2
      rw [v1] at w1
      obtain rfl := Option.some.inj w1
      have hin : p ∈ ioB io vs := by
        subst z1
        unfold ioB
        simp only [v1]
        exact List.mem_singleton.mpr rfl
      exact ⟨p, ws, w2, v3, v4, v5, ⟨(fun q => nomatch q), fun _ => hin⟩, Or.inl hin⟩
  · rcases get i _ h1 with z | ⟨d, _, z, _⟩ | ⟨es, z1, _, _⟩
    · exact nomatch z
    · exact nomatch z
    · rcases get j _ h2 with z | ⟨d, _, z, _⟩ | ⟨es', z3, _, _⟩
      · exact nomatch z
      · exact nomatch z
      · rw [z1] at z3
        exact Option.some.inj z3
/-- a whole def -/
theorem run3 {t : TS} {p : QS} {N : List Str} {io : Option Nat} {P : PSp} {vs : List V} {Q : VK} {E : XK} (hl : LiS X t p) (hp : ∀ ds Q3, P ds Q3 → p (ends3 io Q3) (start3 N ds io)) (h : lsp X io P vs H Q E) : t { nx := fun _ H' => Q .non H', rt := Q } (L2.start N vs) H := by
  obtain ⟨F, ds, Q3, en, hP, hQ⟩ := h
  have R := entry_rel (N := N) en
  have fin : ∀ σ' F' H' ρ' v r, Rel ⟨X, fun p => H p = none, ioB io vs, F, H, ioB io vs⟩ F' H' σ' ρ' → RsOk ⟨X, fun p => H p = none, ioB io vs, F, H, ioB io vs⟩ F' H' σ' ρ' r v → endP io r ρ' Q3 → Q v H' := by
    intro σ' F' H' ρ' v r R' ro q
    have res : RsX X H F' H' r v := by
      match r, ro with
      | .val d, ro => exact ro
      | .new es, ⟨p, e, n⟩ =>
        obtain ⟨ws, h1, h2⟩ := n.l
        exact ⟨p, ws, e, n.f, n.n, h1, h2⟩
    cases hio : io with
    | none =>
      subst hio
      exact hQ r none v F' H' ⟨R'.empty, res, (fun j p z => nomatch z)⟩ q
    | some j =>
      subst hio
      have q2 : endO (Q3 r) ρ'[j]? := q
      cases hj : ρ'[j]? with
      | none => rw [hj] at q2; exact q2.elim
      | some pv =>
        rw [hj] at q2
        match pv, hj, q2 with
        | .un, _, q2 => exact q2.elim
        | .val _, _, q2 => exact q2.elim
        | .own true _, _, q2 => exact q2.elim
        | .own false es, hj, q2 =>
          refine hQ r (some es) v F' H' ⟨R'.empty, res, fun j' p z1 z2 => ?_⟩ q2
          obtain rfl : j = j' := Option.some.inj z1
          obtain ⟨p', ws, e1, e2, e3, e4, e5, _⟩ := R'.slot j _ hj
          have e6 : p' ∈ ioB (some j) vs := e5.2 rfl
          unfold ioB at e6
          simp only [z2] at e6
          obtain rfl := List.mem_singleton.mp e6
          exact ⟨es, ws, rfl, e3, e4⟩
  refine hl _ rfl (L2.start N vs) F H (start3 N ds io) _ (ends3 io Q3) R ⟨?_, ?_, fun _ _ _ _ _ _ z => z.elim, fun _ _ _ _ _ _ z => z.elim⟩ (hp ds Q3 hP)
  · intro σ' F' H' ρ' R' _ q
    exact fin σ' F' H' ρ' .non (.val .non) R' rfl q
  · intro σ' F' H' ρ' v r R' _ ro q
    exact fin σ' F' H' ρ' v r R' ro q
theorem lsp_len {io : Option Nat} {P : PSp} {n : Nat} (h : ∀ ds Q3, P ds Q3 → ds.length = n) : ∀ vs H Q E, lsp X io P vs H Q E → vs.length = n := by
  rintro vs H Q E ⟨F, ds, Q3, en, hP, _⟩
  rw [en.len]
  exact h ds Q3 hP
def isCell : Rv → Bool
  | .cell _ => true
  | .val _ => false
def resOk (hc : Bool) : Rs → (D → Prop) → Prop
  | .val d, Q => (hc = false ∨ d.flat = true) ∧ Q d
  | .new es, Q => (hc = false ∨ ∀ e ∈ es, e.flat = true) ∧ Q (.lst es)
def qCall (P : PSp) (pa : QA) : QE := fun ρ Q => pa ρ fun rs ρ1 => some1 (fun ds => P ds fun r _ => resOk (rs.any isCell) r fun d => Q (.val d) ρ1) (rdL ρ1 rs)
/-- all own lists as they stand, for a while -/
def snap (F H : Hp) (σ : L2.St) (ρ : PSt) : Hp := open Classical in fun b => if b ∈ ownB σ ρ then H b else F b
theorem snap_sub (R : Rel c F H σ ρ) : Same F (snap F H σ ρ) := by
  intro b o e
  unfold snap
  split
  · exact R.sub _ _ e
  · exact e
theorem snap_le (R : Rel c F H σ ρ) : Same (snap F H σ ρ) H := by
  intro b o e
  unfold snap at e
  split at e
  · exact e
  · exact R.sub _ _ e
theorem snap_rp (R : Rel c F H σ ρ) {r : Rv} {v : V} {d : D} (h : RV c F σ r v) (e : rdR ρ r = some d) : Rp c.K (snap F H σ ρ) d v := by
  match r, h, e with
  | .val d', h, e =>
    obtain rfl : d' = d := Option.some.inj e
    exact Rp.mono (snap_sub R) h
  | .cell i, h, e =>
    have h2 : σ[i]? = some (some v) := h
    have e2 : rdP ρ[i]? = some d := e
    cases hi : ρ[i]? with
    | none => rw [hi] at e2; exact nomatch e2
    | some pv =>
      rw [hi] at e2
      match pv, hi, e2 with
      | .un, _, e2 => exact nomatch e2
      | .val d', hi, e2 =>
        obtain rfl : d' = d := Option.some.inj e2
        obtain ⟨w, e3, r⟩ := R.slot i _ hi
        rw [h2] at e3
        obtain rfl : v = w := Option.some.inj (Option.some.inj e3)
        exact r.mono (snap_sub R)
      | .own f ds, hi, e2 =>
        obtain rfl : D.lst ds = d := Option.some.inj e2
        obtain ⟨p, vs, e3, hF, hp, hr, _⟩ := R.slot i _ hi
        rw [h2] at e3
        obtain rfl : v = .ref p := Option.some.inj (Option.some.inj e3)
        refine ⟨p, vs, rfl, ?_, hr.mono (snap_sub R)⟩
        unfold snap
        rw [if_pos (mem_ownB.mpr ⟨i, f, ds, hi, h2⟩)]
        exact hp
theorem rdL_len {ρ : PSt} : ∀ {rs : List Rv} {ds : List D}, rdL ρ rs = some ds → rs.length = ds.length
  | [], ds, e => by
    obtain rfl : [] = ds := Option.some.inj e
    rfl
  | r :: rs, ds, e => by
    have e : cons2 (rdR ρ r) (rdL ρ rs) = some ds := e
    cases h1 : rdR ρ r with
    | none => rw [h1] at e; exact nomatch e
    | some d =>
      cases h2 : rdL ρ rs with
      | none => rw [h1, h2] at e; exact nomatch e
      | some ds' =>
        rw [h1, h2] at e
        obtain rfl : d :: ds' = ds := Option.some.inj e
        rw [List.length_cons, List.length_cons, rdL_len h2]
theorem rdL_get {ρ : PSt} : ∀ {rs : List Rv} {vs : List V} {ds : List D} {j : Nat} {d : D} {v : V}, rdL ρ rs = some ds → RVL c F σ rs vs → ds[j]? = some d → vs[j]? = some v → ∃ r, rs[j]? = some r ∧ rdR ρ r = some d ∧ RV c F σ r v
  | [], vs, ds, j, d, v, e, h, h1, h2 => by
    obtain rfl : [] = ds := Option.some.inj e
    simp at h1
  | r :: rs, vs, ds, j, d, v, e, h, h1, h2 => by
    obtain ⟨w, t, rfl, q, k⟩ := h
    have e : cons2 (rdR ρ r) (rdL ρ rs) = some ds := e
    cases g1 : rdR ρ r with
    | none => rw [g1] at e; exact nomatch e
    | some d' =>
      cases g2 : rdL ρ rs with
      | none => rw [g1, g2] at e; exact nomatch e
      | some ds' =>
        rw [g1, g2] at e
        obtain rfl : d' :: ds' = ds := Option.some.inj e
        cases j with
        | zero =>
          obtain rfl : d' = d := by simpa using h1
          obtain rfl : w = v := by simpa using h2
          exact ⟨r, rfl, g1, q⟩
        | succ j => exact rdL_get (j := j) g2 k (by simpa using h1) (by simpa using h2)
theorem RVL.len : ∀ {rs : List Rv} {vs : List V}, RVL c F σ rs vs → vs.length = rs.length
  | [], vs, h => by
    obtain rfl : vs = [] := h
    rfl
  | r :: rs, vs, h => by
    obtain ⟨w, t, rfl, q, k⟩ := h
    rw [List.length_cons, List.length_cons, RVL.len k]
theorem noCell : ∀ {rs : List Rv}, rs.any isCell = false → ∀ r ∈ rs, isCell r = false := by
  intro rs h r hr
  rw [List.any_eq_false] at h
  simpa using h r hr
/-- entering a call -/
theorem enter (R : Rel c F H σ ρ) {rs : List Rv} {vs : List V} {ds : List D} (rv : RVL c F σ rs vs) (e : rdL ρ rs = some ds) : Entry c.X none (snap F H σ ρ) H vs ds :=
  ⟨snap_le R, R.nt, R.tab, fun x hx => by
    unfold snap
    rw [if_neg, R.tabF x hx]
    intro z
    obtain ⟨i, f, o, h1, h2⟩ := mem_ownB.mp z
    obtain ⟨_, ws, l⟩ := R.ownAt h1 h2
    obtain ⟨tb, e2, _⟩ := R.tab x hx
    rw [l] at e2
    exact (nomatch e2), by rw [rv.len, rdL_len e], fun j d v h1 h2 _ => by
    obtain ⟨r, _, g1, g2⟩ := rdL_get e rv h1 h2
    exact snap_rp R g2 g1, fun j z => nomatch z⟩
theorem enterV (R : Rel c F H σ ρ) {rs : List Rv} {vs : List V} {ds : List D} (rv : RVL c F σ rs vs) (e : rdL ρ rs = some ds) (nc : rs.any isCell = false) : Entry c.X none F H vs ds :=
  ⟨R.sub, R.nt, R.tab, R.tabF, by rw [rv.len, rdL_len e], fun j d v h1 h2 _ => by
    obtain ⟨r, g0, g1, g2⟩ := rdL_get e rv h1 h2
    match r, g0, g1, g2 with
    | .val d', _, g1, g2 =>
      obtain rfl : d' = d := Option.some.inj g1
      exact g2
    | .cell i, g0, _, _ => exact (nomatch (noCell nc _ (List.mem_of_getElem? g0))), fun j z => nomatch z⟩
theorem new_of (R : Rel c F H σ ρ) (R2 : Rel c F' H' σ ρ) {p : Addr} {ws : List V} {es : List D} (hn : H p = none) (hp : H' p = some (.lst ws)) (hF : F' p = none) (hr : RpL c.K F' es ws) : NewL c F' H' σ ρ p es :=
  ⟨⟨ws, hp, hr⟩, hF, R.new p hn, Or.inl (R.dom p hn), R.noOwn hn⟩
theorem li_call {P : PSp} {ta : TA} {pa : QA} {E : XK} (h1 : LiA X ta pa) : LiE X (tCall (lsp X none P) [] E ta) (qCall P pa) := by
  intro c hX σ F H ρ Q Q3 R hq h
  subst hX
  refine h1 c rfl σ F H ρ _ _ R ?_ h
  intro rs ρ1 vs F1 H1 R1 s1 rv q1
  rw [List.append_nil]
  cases e : rdL ρ1 rs with
  | none => rw [e] at q1; exact q1.elim
  | some ds =>
    rw [e] at q1
    have q1 : P ds fun r _ => resOk (rs.any isCell) r fun d => Q3 (.val d) ρ1 := q1
    by_cases nc : rs.any isCell = false
    · refine ⟨F1, ds, _, enterV R1 rv e nc, q1, ?_⟩
      intro r out v F' H' ex q
      have R2 := Step.own ex.step R1
      match r, ex.res, q with
      | .val d, rx, ⟨_, q⟩ => exact hq (.val d) ρ1 v F' H' R2 (tr s1 ex.step.fr) rx q
      | .new es, ⟨p, ws, ev, hF, hn, hp, hr⟩, ⟨_, q⟩ =>
        subst ev
        obtain ⟨vs2, R3, s3, r3⟩ := (new_of R1 R2 hn hp hF hr).keep R2
        exact hq (.val (.lst es)) ρ1 _ _ H' R3 (tr (tr s1 ex.step.fr) s3) r3 q
    · refine ⟨_, ds, _, enter R1 rv e, q1, ?_⟩
      intro r out v F' H' ex q
      have R2 := Step.back ex.step R1
      match r, ex.res, q with
      | .val d, rx, ⟨fl, q⟩ => exact hq (.val d) ρ1 v F1 H' R2 s1 (Rp.flat (fl.resolve_left nc) rx) q
      | .new es, ⟨p, ws, ev, hF, hn, hp, hr⟩, ⟨fl, q⟩ =>
        subst ev
        obtain ⟨vs2, R3, s3, r3⟩ := (new_of R1 R2 hn hp (R1.fnone hn) (RpL.flat (fl.resolve_left nc) hr)).keep R2
        exact hq (.val (.lst es)) ρ1 _ _ H' R3 (tr s1 s3) r3 q
/-- d is an instance of the class at C, without an own thing m -/
def IsI (K : PySem.W.Frag) (C : Addr) (m : Str) (d : D) : Prop := ∀ (F : Hp) (v : V), Rp K F d v → ∃ a dx fs, v = .ref a ∧ F a = some (.ins C dx fs) ∧ fs.lookup m = none
def qMeth (K : PySem.W.Frag) (C : Addr) (m : Str) (P : PSp) (pe : QE) (pa : QA) : QE := fun ρ Q => pe ρ fun x ρ0 => ∃ d, x = .val d ∧ IsI K C m d ∧ pa ρ0 fun rs ρ1 => some1 (fun ds => P (d :: ds) fun r _ => resOk (rs.any isCell) r fun d => Q (.val d) ρ1) (rdL ρ1 rs)
theorem li_meth {C : Addr} {m : Str} {P : PSp} {te : TE} {ta : TA} {pe : QE} {pa : QA} {E : XK} (h0 : LiE X te pe) (h1 : LiA X ta pa) : LiE X (tMeth C m (lsp X none P) [] E te ta) (qMeth X.K C m P pe pa) := by
  intro c hX σ F H ρ Q Q3 R hq h
  subst hX
  refine h0 c rfl σ F H ρ _ _ R ?_ h
  rintro x ρ0 v F0 H0 R0 s0 rv0 ⟨d, rfl, ii, h⟩
  obtain ⟨a, dx, fs, rfl, ia, il⟩ := ii F0 v rv0
  refine ⟨a, dx, fs, rfl, R0.sub _ _ ia, il, ?_⟩
  refine h1 c rfl σ F0 H0 ρ0 _ _ R0 ?_ h
  intro rs ρ1 vs F1 H1 R1 s1 rv q1
  rw [List.append_nil]
  have rv2 : RVL c F1 σ (.val d :: rs) (.ref a :: vs) := ⟨_, _, rfl, Rp.mono s1 rv0, rv⟩
  cases e : rdL ρ1 rs with
  | none => rw [e] at q1; exact q1.elim
  | some ds =>
    have e2 : rdL ρ1 (.val d :: rs) = some (d :: ds) := by
      show cons2 (some d) (rdL ρ1 rs) = _
      rw [e]
      rfl
    rw [e] at q1
    have q1 : P (d :: ds) fun r _ => resOk (rs.any isCell) r fun d => Q3 (.val d) ρ1 := q1
    by_cases nc : rs.any isCell = false
    · refine ⟨F1, d :: ds, _, enterV R1 rv2 e2 (by rw [List.any_cons, nc]; rfl), q1, ?_⟩
      intro r out v F' H' ex q
      have R2 := Step.own ex.step R1
      match r, ex.res, q with
      | .val d, rx, ⟨_, q⟩ => exact hq (.val d) ρ1 v F' H' R2 (tr (tr s0 s1) ex.step.fr) rx q
      | .new es, ⟨p, ws, ev, hF, hn, hp, hr⟩, ⟨_, q⟩ =>
        subst ev
        obtain ⟨vs2, R3, s3, r3⟩ := (new_of R1 R2 hn hp hF hr).keep R2
        exact hq (.val (.lst es)) ρ1 _ _ H' R3 (tr (tr (tr s0 s1) ex.step.fr) s3) r3 q
    · refine ⟨_, d :: ds, _, enter R1 rv2 e2, q1, ?_⟩
      intro r out v F' H' ex q
      have R2 := Step.back ex.step R1
      match r, ex.res, q with
      | .val d, rx, ⟨fl, q⟩ => exact hq (.val d) ρ1 v F1 H' R2 (tr s0 s1) (Rp.flat (fl.resolve_left nc) rx) q
      | .new es, ⟨p, ws, ev, hF, hn, hp, hr⟩, ⟨fl, q⟩ =>
        subst ev
        obtain ⟨vs2, R3, s3, r3⟩ := (new_of R1 R2 hn hp (R1.fnone hn) (RpL.flat (fl.resolve_left nc) hr)).keep R2
        exact hq (.val (.lst es)) ρ1 _ _ H' R3 (tr (tr s0 s1) s3) r3 q
def ioOk (ρ : PSt) (i : Nat) (f : Bool) (Q : D → PSt → Prop) : Rs → Option (List D) → Prop
  | .val d, some es => Q d (ρ.set i (.own f es))
  | _, _ => False
def ownOf (Q : Bool → List D → Prop) : Option PV → Prop
  | some (.own f ds) => Q f ds
  | _ => False
/-- the j-th argument is the own list in slot i -/
def qCallIo (j i : Nat) (P : PSp) (pa : QA) : QE := fun ρ Q => pa ρ fun rs ρ1 => rs[j]? = some (.cell i) ∧ (∀ k r, rs[k]? = some r → k ≠ j → isCell r = false) ∧ ownOf (fun f _ => some1 (fun ds => P ds fun r out => ioOk ρ1 i f (fun d ρ2 => Q (.val d) ρ2) r out) (rdL ρ1 rs)) ρ1[i]?
theorem li_callIo {j i : Nat} {P : PSp} {ta : TA} {pa : QA} {E : XK} (h1 : LiA X ta pa) : LiE X (tCall (lsp X (some j) P) [] E ta) (qCallIo j i P pa) := by
  intro c hX σ F H ρ Q Q3 R hq h
  subst hX
  refine h1 c rfl σ F H ρ _ _ R ?_ h
  rintro rs ρ1 vs F1 H1 R1 s1 rv ⟨hj, hoth, q1⟩
  rw [List.append_nil]
  cases hi : ρ1[i]? with
  | none => rw [hi] at q1; exact q1.elim
  | some pv =>
    rw [hi] at q1
    match pv, hi, q1 with
    | .un, _, q1 => exact q1.elim
    | .val _, _, q1 => exact q1.elim
    | .own f o, hi, q1 =>
      have q1 : some1 (fun ds => P ds fun r out => ioOk ρ1 i f (fun d ρ2 => Q3 (.val d) ρ2) r out) (rdL ρ1 rs) := q1
      cases e : rdL ρ1 rs with
      | none => rw [e] at q1; exact q1.elim
      | some ds =>
        rw [e] at q1
        have q1 : P ds fun r out => ioOk ρ1 i f (fun d ρ2 => Q3 (.val d) ρ2) r out := q1
        have hjl : j < rs.length := (List.getElem?_eq_some_iff.mp hj).1
        have hvl : j < vs.length := by rw [rv.len]; exact hjl
        have hdl : j < ds.length := by rw [← rdL_len e]; exact hjl
        obtain ⟨r, g0, g1, g2⟩ := rdL_get e rv (List.getElem?_eq_getElem hdl) (List.getElem?_eq_getElem hvl)
        rw [hj] at g0
        obtain rfl := Option.some.inj g0
        obtain ⟨p, ws, ep, hF, hp, hr, hfr, hb⟩ := R1.slot i _ hi
        have g2 : σ[i]? = some (some vs[j]) := g2
        rw [ep] at g2
        have evj : vs[j] = .ref p := by
          have := Option.some.inj (Option.some.inj g2)
          exact this.symm
        have edj : ds[j] = .lst o := by
          have g1 : rdP ρ1[i]? = some ds[j] := g1
          rw [hi] at g1
          exact (Option.some.inj g1).symm
        have vj : vs[j]? = some (.ref p) := by rw [List.getElem?_eq_getElem hvl, evj]
        have iob : ioB (some j) vs = [p] := by
          unfold ioB
          simp only [vj]
        have en : Entry c.X (some j) F1 H1 vs ds := by
          refine ⟨R1.sub, R1.nt, R1.tab, R1.tabF, by rw [rv.len, rdL_len e], fun k d v z1 z2 z3 => ?_, fun k z => ?_⟩
          · obtain ⟨r, g0, g1, g2⟩ := rdL_get e rv z1 z2
            have nc := hoth k r g0 (fun q => z3 (by rw [q]))
            match r, nc, g1, g2 with
            | .val d', _, g1, g2 =>
              obtain rfl : d' = d := Option.some.inj g1
              exact g2
            | .cell i, nc, _, _ => exact nomatch nc
          · obtain rfl : j = k := Option.some.inj z
            exact ⟨p, ws, o, vj, by rw [List.getElem?_eq_getElem hdl, edj], hF, hp, hr⟩
        refine ⟨F1, ds, _, en, q1, ?_⟩
        intro r out v F' H' ex q
        obtain ⟨es, us, rfl, h5, h6⟩ := ex.out j p rfl vj
        have st := ex.step
        rw [iob] at st
        match r, ex.res, q with
        | .val d, rx, q =>
          have q : Q3 (.val d) (ρ1.set i (.own f es)) := q
          have hFp : F' p = none := by
            cases e9 : F' p with
            | none => rfl
            | some o9 =>
              rcases st.nw p o9 e9 with z | z | ⟨_, z⟩ | z
              · have z2 : F1 p = some o9 := z
                rw [hF] at z2
                exact nomatch z2
              · have z2 : H1 p = none := z
                rw [hp] at z2
                exact nomatch z2
              · have z2 : H1 p = none := z
                rw [hp] at z2
                exact nomatch z2
              · have z2 := st.sub _ _ e9
                rw [h5] at z2
                cases z2
                exact z.elim
          have kp : ∀ b o, H1 b = some o → b ≠ p → (∀ ps, o ≠ .tbl ps) → H' b = some o := fun b o z n t => st.kp b o z (fun m => n (List.mem_singleton.mp m)) (R1.notab z t)
          have R2 : Rel c F' H' σ (ρ1.set i .un) := by
            have Rf := R1.forget i
            refine ⟨Rf.len, st.sub, fun k pv hk => (Rf.slot k pv hk).mono st.fr fun fr dd q e1 e2 => ?_, Rf.sep, st.nt, st.tab, st.tabF, fun _ _ z => st.fr _ _ (R1.fr _ _ z), fun b o z n m => ?_, fun b z => R1.dom b (st.dom b z), fun b o z => ?_, fun q z => R1.new q (st.dom q z)⟩
            · subst e1
              obtain ⟨fq, vq, lq⟩ := Rf.ownAt hk e2
              have nqp : q ≠ p := by
                intro z
                subst z
                by_cases w : i = k
                · subst w
                  have hl := (List.getElem?_eq_some_iff.mp hk).1
                  rw [List.length_set] at hl
                  rw [List.getElem?_set_self hl] at hk
                  exact nomatch hk
                · rw [List.getElem?_set_ne w] at hk
                  exact w (R1.sep i k _ _ _ _ q hi hk ep e2)
              refine ⟨?_, fun ws lw => kp _ _ lw nqp (fun ps => by simp)⟩
              cases e9 : F' q with
              | none => rfl
              | some o9 =>
                rcases st.nw q o9 e9 with z | z | ⟨z, _⟩ | z
                · have z2 : F1 q = some o9 := z
                  rw [fq] at z2
                  exact nomatch z2
                · have z2 : H1 q = none := z
                  rw [lq] at z2
                  exact nomatch z2
                · exact absurd (List.mem_singleton.mp z) nqp
                · have z2 := st.sub _ _ e9
                  rw [kp _ _ lq nqp (fun ps => by simp)] at z2
                  cases z2
                  exact z.elim
            · refine st.kp b o (R1.kp b o z n m) (fun w => ?_) m
              have w2 := List.mem_singleton.mp w
              rw [w2] at z n
              rcases hb with hb | hb
              · exact n hb
              · rw [hb] at z
                exact nomatch z
            · rcases st.nw b o z with w | w | ⟨_, w⟩ | w
              · exact R1.nw b o w
              · exact Or.inr (Or.inl (R1.dom b w))
              · exact Or.inr (Or.inl (R1.dom b w))
              · exact Or.inr (Or.inr (Or.inr w))
          have hil := (List.getElem?_eq_some_iff.mp hi).1
          have R3 : Rel c F' H' σ (ρ1.set i (.own f es)) := by
            refine ⟨by rw [List.length_set]; exact R1.len, R2.sub, fun k pv hk => ?_, fun k l f1 o1 f2 o2 q h1 h2 e1 e2 => ?_, R2.nt, R2.tab, R2.tabF, R2.fr, R2.kp, R2.dom, R2.nw, R2.new⟩
            · by_cases w : i = k
              · subst w
                rw [List.getElem?_set_self hil] at hk
                obtain rfl := Option.some.inj hk
                exact ⟨p, us, ep, hFp, h5, h6, hfr, hb⟩
              · rw [List.getElem?_set_ne w] at hk
                exact R2.slot k pv (by rw [List.getElem?_set_ne w]; exact hk)
            · have g : ∀ (j : Nat) (f1 : Bool) (o : List D), (ρ1.set i (PV.own f es))[j]? = some (PV.own f1 o) → ∃ f2 o2, ρ1[j]? = some (PV.own f2 o2) := by
                intro j f1 o hj
                by_cases q : i = j
                · subst q
                  exact ⟨_, _, hi⟩
                · rw [List.getElem?_set_ne q] at hj
                  exact ⟨_, _, hj⟩
              obtain ⟨_, _, g1⟩ := g _ _ _ h1
              obtain ⟨_, _, g2⟩ := g _ _ _ h2
              exact R1.sep k l _ _ _ _ q g1 g2 e1 e2
          exact hq (.val d) _ v F' H' R3 (tr s1 st.fr) rx q
        | .new _, _, q => exact q.elim
end
end L3
namespace L3
open PySem PySem.Spec PyProof.Rows L2 TB LamX
section
variable {X : Sx}
def oI0 (g : Int → Int → V) : O2 := fun dx dy Q => ∃ i j, dx = .int i ∧ dy = .int j ∧ some1 Q (vD (g i j))
def oI (C : Int → Int → Prop) (g : Int → Int → V) : O2 := fun dx dy Q => ∃ i j, dx = .int i ∧ dy = .int j ∧ C i j ∧ some1 Q (vD (g i j))
theorem vD_rp {K : PySem.W.Frag} {F : Hp} {v : V} {d : D} (h : vD v = some d) : Rp K F d v := by
  cases v <;> first
    | (obtain rfl := Option.some.inj h; exact rfl)
    | exact nomatch h
theorem some1_is {α : Type} {Q : α → Prop} {o : Option α} (h : some1 Q o) : ∃ d, o = some d ∧ Q d := by
  cases o with
  | none => exact h.elim
  | some d => exact ⟨d, rfl, h⟩
theorem lr_I0 {g : Int → Int → V} : LiR X (rI0 g) (oI0 g) := by
  intro c hX σ F H ρ x y dx dy Q Q3 R rx ry hq h
  obtain ⟨i, j, rfl, rfl, h⟩ := h
  obtain ⟨d, e, q⟩ := some1_is h
  exact ⟨i, j, rx, ry, hq d _ F H R (Same.refl F) (vD_rp e) q⟩
theorem lr_I {C : Int → Int → Prop} {g : Int → Int → V} : LiR X (rI C g) (oI C g) := by
  intro c hX σ F H ρ x y dx dy Q Q3 R rx ry hq h
  obtain ⟨i, j, rfl, rfl, hc, h⟩ := h
  obtain ⟨d, e, q⟩ := some1_is h
  exact ⟨i, j, rx, ry, hc, hq d _ F H R (Same.refl F) (vD_rp e) q⟩
/-- flat data as a value -/
def dV : D → V
  | .non => .non
  | .bl b => .bl b
  | .int i => .int i
  | .str z => .str z
  | .ty n => .ty n
  | _ => .non
theorem rn_flat {K : PySem.W.Frag} {F H : Hp} {d : D} {v : V} (f : d.flat = true) (h : Rn K F H d v) : v = dV d := by
  cases d <;> first
    | exact h
    | exact nomatch f
theorem rp_flat {K : PySem.W.Frag} {F : Hp} {d : D} {v : V} (f : d.flat = true) (h : Rp K F d v) : v = dV d := by
  cases d <;> first
    | exact h
    | exact nomatch f
def oEq (neg : Bool) : O2 := fun dx dy Q => dx.flat = true ∧ dy.flat = true ∧ scal (dV dx) (dV dy) = true ∧ Q (.bl (if neg then !decide (dV dx = dV dy) else decide (dV dx = dV dy)))
theorem w_eqS {a b : Str} {Q : D → Prop} (h : Q (.bl (decide (a = b)))) : oEq false (.str a) (.str b) Q := by
  refine ⟨rfl, rfl, rfl, ?_⟩
  have e : decide (dV (.str a) = dV (.str b)) = decide (a = b) := decide_eq_decide.mpr ⟨fun z => V.str.inj z, fun z => by rw [z]⟩
  rw [e]
  exact h
theorem w_neS {a b : Str} {Q : D → Prop} (h : Q (.bl (!decide (a = b)))) : oEq true (.str a) (.str b) Q := by
  refine ⟨rfl, rfl, rfl, ?_⟩
  have e : decide (dV (.str a) = dV (.str b)) = decide (a = b) := decide_eq_decide.mpr ⟨fun z => V.str.inj z, fun z => by rw [z]⟩
  rw [e]
  exact h
theorem w_eqI {a b : Int} {Q : D → Prop} (h : Q (.bl (decide (a = b)))) : oEq false (.int a) (.int b) Q := by
  refine ⟨rfl, rfl, rfl, ?_⟩
  have e : decide (dV (.int a) = dV (.int b)) = decide (a = b) := decide_eq_decide.mpr ⟨fun z => V.int.inj z, fun z => by rw [z]⟩
  rw [e]
  exact h
theorem w_neI {a b : Int} {Q : D → Prop} (h : Q (.bl (!decide (a = b)))) : oEq true (.int a) (.int b) Q := by
  refine ⟨rfl, rfl, rfl, ?_⟩
  have e : decide (dV (.int a) = dV (.int b)) = decide (a = b) := decide_eq_decide.mpr ⟨fun z => V.int.inj z, fun z => by rw [z]⟩
  rw [e]
  exact h
theorem lr_eq : LiR X rEq (oEq false) := by
  intro c hX σ F H ρ x y dx dy Q Q3 R rx ry hq h
  obtain ⟨f1, f2, sc, q⟩ := h
  obtain rfl := rn_flat f1 rx
  obtain rfl := rn_flat f2 ry
  exact ⟨sc, hq (.bl _) _ F H R (Same.refl F) rfl q⟩
theorem lr_ne : LiR X rNe (oEq true) := by
  intro c hX σ F H ρ x y dx dy Q Q3 R rx ry hq h
  obtain ⟨f1, f2, sc, q⟩ := h
  obtain rfl := rn_flat f1 rx
  obtain rfl := rn_flat f2 ry
  exact ⟨sc, hq (.bl _) _ F H R (Same.refl F) rfl q⟩
def oIxL : O2 := fun dx dy Q => ∃ ds i, dx = .lst ds ∧ dy = .int i ∧ some1 Q (atI ds i)
def oIxT : O2 := fun dx dy Q => ∃ ds i, dx = .tup ds ∧ dy = .int i ∧ some1 Q (atI ds i)
theorem atI_rp {K : PySem.W.Frag} {F : Hp} {ds : List D} {vs : List V} {i : Int} {d : D} (r : RpL K F ds vs) (h : atI ds i = some d) : ∃ v, atI vs i = some v ∧ Rp K F d v := by
  unfold atI at h ⊢
  rw [r.len]
  cases e : ixN ds.length i with
  | none => rw [e] at h; exact nomatch h
  | some j =>
    rw [e] at h
    exact r.get' h
theorem lr_ixL : LiR X (rIxL X.K) oIxL := by
  intro c hX σ F H ρ x y dx dy Q Q3 R rx ry hq h
  obtain ⟨ds, i, rfl, rfl, h⟩ := h
  obtain ⟨p, vs, e, hp, r⟩ := rx
  obtain ⟨d, e2, q⟩ := some1_is h
  obtain ⟨v, e3, rv⟩ := atI_rp r e2
  exact ⟨p, vs, i, v, e, ry, sqL_of hp, e3, hq d v F H R (Same.refl F) rv q⟩
theorem lr_ixT : LiR X (rIxT X.K) oIxT := by
  intro c hX σ F H ρ x y dx dy Q Q3 R rx ry hq h
  subst hX
  obtain ⟨ds, i, rfl, rfl, h⟩ := h
  obtain ⟨p, vs, e, hp, r⟩ := rx
  obtain ⟨d, e2, q⟩ := some1_is h
  obtain ⟨v, e3, rv⟩ := atI_rp r e2
  exact ⟨p, vs, i, v, e, ry, sqT_mono R.sub hp, e3, hq d v F H R (Same.refl F) rv q⟩
def oCatL : O2N := fun dx dy Q => ∃ ds es, dx = .lst ds ∧ dy = .lst es ∧ ds.length + es.length ≤ sizeLine ∧ Q (ds ++ es)
theorem lr_catL : LiRN X rCat oCatL := by
  intro c hX σ F H ρ x y dx dy Q Q3 R rx ry hq h
  obtain ⟨ds, es, rfl, rfl, hz, h⟩ := h
  obtain ⟨p, vs, e, hp, r⟩ := rx
  obtain ⟨p2, vs2, e2, hp2, r2⟩ := ry
  · refine ⟨p, p2, vs, vs2, e, e2, hp, hp2, by rw [r.len, r2.len]; exact hz, fun q nq => ?_⟩
    obtain ⟨R2, n2⟩ := NewL.made R nq (r.app r2)
    exact hq _ q F _ R2 (Same.refl F) n2 h
def oCatT : O2 := fun dx dy Q => ∃ ds es, dx = .tup ds ∧ dy = .tup es ∧ ds.length + es.length ≤ sizeLine ∧ Q (.tup (ds ++ es))
theorem lr_catT : LiR X (rCatA X.K) oCatT := by
  intro c hX σ F H ρ x y dx dy Q Q3 R rx ry hq h
  subst hX
  obtain ⟨ds, es, rfl, rfl, hz, h⟩ := h
  obtain ⟨p, vs, rfl, hp, r⟩ := rx
  obtain ⟨p2, vs2, rfl, hp2, r2⟩ := ry
  have e : V.ref p = V.ref p := rfl
  have e2 : V.ref p2 = V.ref p2 := rfl
  · refine ⟨p, p2, vs, vs2, e, e2, sqT_mono R.sub hp, sqT_mono R.sub hp2, by rw [r.len, r2.len]; exact hz, fun z => ?_, fun _ z => ?_, fun _ _ q nq => ?_⟩
    · refine hq (.tup _) _ F H R (Same.refl F) ⟨p2, vs2, rfl, hp2, ?_⟩ h
      rw [z] at r
      have z2 : ds = [] := List.eq_nil_of_length_eq_zero (by rw [← r.len]; rfl)
      rw [z2]
      exact r2
    · refine hq (.tup _) _ F H R (Same.refl F) ⟨p, vs, rfl, hp, ?_⟩ h
      rw [z] at r2
      have z2 : es = [] := List.eq_nil_of_length_eq_zero (by rw [← r2.len]; rfl)
      rw [z2, List.append_nil]
      exact r
    · have s2 : Same F (upd F q (.tup (vs ++ vs2))) := fun _ _ z => old_upd (R.fnone nq) z
      exact hq (.tup _) _ _ _ (R.alloc nq trivial) s2 ⟨q, _, rfl, sqT_of upd_same, (r.app r2).mono s2⟩ h
def flatD : D → Bool
  | .non => true
  | .bl _ => true
  | .int _ => true
  | .str _ => true
  | _ => false
theorem flatD_flat {d : D} (h : flatD d = true) : d.flat = true := by
  cases d <;> first
    | rfl
    | exact nomatch h
theorem flatV_dV {d : D} (h : flatD d = true) : flatV (dV d) = true := by
  cases d <;> first
    | rfl
    | exact nomatch h
def eqD (a b : D) : Bool := eqV (dV a) (dV b)
def inD (x : D) (ds : List D) : Bool := ds.any fun y => eqD y x
def oIn (neg : Bool) : O2 := fun dx dy Q => ∃ ds, (dy = .lst ds ∨ dy = .tup ds) ∧ flatD dx = true ∧ ds.all flatD = true ∧ Q (.bl (if neg then !inD dx ds else inD dx ds))
theorem flatL {K : PySem.W.Frag} {F : Hp} : ∀ {ds : List D} {vs : List V}, ds.all flatD = true → RpL K F ds vs → vs = ds.map dV
  | [], vs, _, h => h
  | d :: ds, vs, f, h => by
    obtain ⟨v, r, rfl, q, t⟩ := h
    rw [List.all_cons, Bool.and_eq_true] at f
    rw [rp_flat (flatD_flat f.1) q, flatL f.2 t]
    rfl
theorem inD_inV (x : D) (ds : List D) : inV (dV x) (ds.map dV) = inD x ds := by
  unfold inV inD eqD
  rw [List.any_map]
  rfl
theorem lr_in (neg : Bool) : LiR X (rIn X.K neg) (oIn neg) := by
  intro c hX σ F H ρ x y dx dy Q Q3 R rx ry hq h
  subst hX
  obtain ⟨ds, hd, f1, f2, q⟩ := h
  obtain rfl := rn_flat (flatD_flat f1) rx
  have fv : ((ds.map dV).all flatV) = true := by
    rw [List.all_map, List.all_eq_true]
    intro d hd
    exact flatV_dV (List.all_eq_true.mp f2 d hd)
  rcases hd with rfl | rfl
  · obtain ⟨p, vs, rfl, hp, r⟩ := ry
    obtain rfl := flatL f2 r
    refine ⟨p, _, rfl, Or.inl (sqL_of hp), flatV_dV f1, fv, ?_⟩
    rw [inD_inV]
    exact hq (.bl _) _ F H R (Same.refl F) rfl q
  · obtain ⟨p, vs, rfl, hp, r⟩ := ry
    obtain rfl := flatL f2 r
    refine ⟨p, _, rfl, Or.inr (sqT_mono R.sub hp), flatV_dV f1, fv, ?_⟩
    rw [inD_inV]
    exact hq (.bl _) _ F H R (Same.refl F) rfl q
/-- a text among texts -/
theorem inD_strs (z : Str) (ws : List Str) : inD (.str z) (ws.map D.str) = decide (z ∈ ws) := by
  rw [← inD_inV, List.map_map]
  exact inV_strs z ws
theorem flat_strs3 (ws : List Str) : (ws.map D.str).all flatD = true := by
  rw [List.all_eq_true]
  intro v hv
  obtain ⟨z, _, rfl⟩ := List.mem_map.mp hv
  rfl
def oLen : OL := fun as Q => ∃ ds, (as = [.lst ds] ∨ as = [.tup ds]) ∧ Q (.int ds.length)
theorem lc_len : LiC X (rLenL X.K) oLen := by
  intro c hX σ F H ρ xs dxs Q Q3 R rx hq h
  subst hX
  obtain ⟨ds, rfl | rfl, h⟩ := h
  · obtain ⟨v, t, rfl, ⟨p, vs, rfl, hp, r⟩, e⟩ := rx
    obtain rfl : t = [] := e
    refine ⟨p, vs, rfl, Or.inl (sqL_of hp), hq (.int _) _ F H R (Same.refl F) ?_ h⟩
    show V.int _ = V.int _
    rw [r.len]
  · obtain ⟨v, t, rfl, ⟨p, vs, rfl, hp, r⟩, e⟩ := rx
    obtain rfl : t = [] := e
    refine ⟨p, vs, rfl, Or.inr (sqT_mono R.sub hp), hq (.int _) _ F H R (Same.refl F) ?_ h⟩
    show V.int _ = V.int _
    rw [r.len]
def oList : OLN := fun as Q => ∃ ds, (as = [.lst ds] ∨ as = [.tup ds]) ∧ Q ds
theorem lc_list : LiCN X (rListL X.K) oList := by
  intro c hX σ F H ρ xs dxs Q Q3 R rx hq h
  subst hX
  obtain ⟨ds, rfl | rfl, h⟩ := h
  · obtain ⟨v, t, rfl, ⟨p, vs, rfl, hp, r⟩, e⟩ := rx
    obtain rfl : t = [] := e
    refine ⟨p, vs, rfl, Or.inl (sqL_of hp), fun l nl => ?_⟩
    obtain ⟨R2, n2⟩ := NewL.made R nl r
    exact hq _ l F _ R2 (Same.refl F) n2 h
  · obtain ⟨v, t, rfl, ⟨p, vs, rfl, hp, r⟩, e⟩ := rx
    obtain rfl : t = [] := e
    refine ⟨p, vs, rfl, Or.inr (sqT_mono R.sub hp), fun l nl => ?_⟩
    obtain ⟨R2, n2⟩ := NewL.made R nl r
    exact hq _ l F _ R2 (Same.refl F) n2 h
def oTuple : OL := fun as Q => ∃ ds, (as = [.lst ds] ∨ as = [.tup ds]) ∧ Q (.tup ds)
theorem lc_tuple : LiC X (rTupL X.K) oTuple := by
  intro c hX σ F H ρ xs dxs Q Q3 R rx hq h
  subst hX
  obtain ⟨ds, rfl | rfl, h⟩ := h
  · obtain ⟨v, t, rfl, ⟨p, vs, rfl, hp, r⟩, e⟩ := rx
    obtain rfl : t = [] := e
    refine ⟨p, vs, rfl, Or.inl ⟨sqL_of hp, fun l nl => ?_⟩⟩
    have s2 : Same F (upd F l (.tup vs)) := fun _ _ z => old_upd (R.fnone nl) z
    exact hq (.tup _) _ _ _ (R.alloc nl trivial) s2 ⟨l, _, rfl, sqT_of upd_same, r.mono s2⟩ h
  · obtain ⟨v, t, rfl, ⟨p, vs, rfl, hp, r⟩, e⟩ := rx
    obtain rfl : t = [] := e
    exact ⟨p, vs, rfl, Or.inr ⟨sqT_mono R.sub hp, hq (.tup _) _ F H R (Same.refl F) ⟨p, vs, rfl, hp, r⟩ h⟩⟩
def oInt : OL := fun as Q => (∃ b, as = [.bl b] ∧ Q (.int (if b then 1 else 0))) ∨ ∃ i, as = [.int i] ∧ Q (.int i)
theorem lc_int : LiC X rInt1 oInt := by
  intro c hX σ F H ρ xs dxs Q Q3 R rx hq h
  rcases h with ⟨b, rfl, h⟩ | ⟨i, rfl, h⟩
  · obtain ⟨v, t, rfl, rv, e⟩ := rx
    obtain rfl : t = [] := e
    obtain rfl : v = .bl b := rv
    exact Or.inr ⟨b, rfl, hq (.int _) _ F H R (Same.refl F) rfl h⟩
  · obtain ⟨v, t, rfl, rv, e⟩ := rx
    obtain rfl : t = [] := e
    obtain rfl : v = .int i := rv
    exact Or.inl ⟨i, rfl, hq (.int _) _ F H R (Same.refl F) rfl h⟩
def oAll (all : Bool) : OL := fun as Q => ∃ bs : List Bool, as = [.lst (bs.map D.bl)] ∧ Q (.bl (if all then bs.all id else bs.any id))
theorem lc_all : LiC X (rAll X.K) (oAll true) := by
  intro c hX σ F H ρ xs dxs Q Q3 R rx hq h
  obtain ⟨bs, rfl, h⟩ := h
  obtain ⟨v, t, rfl, ⟨p, vs, rfl, hp, r⟩, e⟩ := rx
  obtain rfl : t = [] := e
  obtain rfl := r.bls
  exact ⟨p, bs, rfl, sqL_of hp, hq (.bl _) _ F H R (Same.refl F) rfl h⟩
def consO : Option PyData → Option (List PyData) → Option (List PyData)
  | some x, some xs => some (x :: xs)
  | _, _ => none
mutual
def pd : D → Option PyData
  | .non => some .none
  | .bl b => some (.bool b)
  | .int i => some (.int i)
  | .str z => some (.str z)
  | .lst ds => (pdL ds).map .list
  | .tup ds => (pdL ds).map .tuple
  | _ => none
def pdL : List D → Option (List PyData)
  | [] => some []
  | d :: ds => consO (pd d) (pdL ds)
end
mutual
theorem pd_dp {K : PySem.W.Frag} {F H : Hp} (s : Same F H) : ∀ {d : D} {v : V} {x : PyData}, Rp K F d v → pd d = some x → Dp K H v x
  | .non, v, x, h, e => by
    obtain rfl : PyData.none = x := Option.some.inj e
    obtain rfl : v = .non := h
    exact .non
  | .bl b, v, x, h, e => by
    obtain rfl : PyData.bool b = x := Option.some.inj e
    obtain rfl : v = .bl b := h
    exact .bl b
  | .int b, v, x, h, e => by
    obtain rfl : PyData.int b = x := Option.some.inj e
    obtain rfl : v = .int b := h
    exact .int b
  | .str b, v, x, h, e => by
    obtain rfl : PyData.str b = x := Option.some.inj e
    obtain rfl : v = .str b := h
    exact .str b
  | .lst ds, v, x, h, e => by
    obtain ⟨a, vs, rfl, q, r⟩ := h
    have e : (pdL ds).map PyData.list = some x := e
    cases e2 : pdL ds with
    | none => rw [e2] at e; exact nomatch e
    | some xs =>
      rw [e2] at e
      obtain rfl : PyData.list xs = x := Option.some.inj e
      exact .lst (sqL_of (s _ _ q)) (pdL_dp s r e2)
  | .tup ds, v, x, h, e => by
    obtain ⟨a, vs, rfl, q, r⟩ := h
    have e : (pdL ds).map PyData.tuple = some x := e
    cases e2 : pdL ds with
    | none => rw [e2] at e; exact nomatch e
    | some xs =>
      rw [e2] at e
      obtain rfl : PyData.tuple xs = x := Option.some.inj e
      exact .tup (sqT_mono s q) (pdL_dp s r e2)
  | .ty _, v, x, h, e => nomatch e
  | .ins _ _ _, v, x, h, e => nomatch e
  | .dic _ _, v, x, h, e => nomatch e
  | .op _, v, x, h, e => nomatch e
theorem pdL_dp {K : PySem.W.Frag} {F H : Hp} (s : Same F H) : ∀ {ds : List D} {vs : List V} {xs : List PyData}, RpL K F ds vs → pdL ds = some xs → DpAll K H vs xs
  | [], vs, xs, h, e => by
    obtain rfl : [] = xs := Option.some.inj e
    obtain rfl : vs = [] := h
    exact .nil
  | d :: ds, vs, xs, h, e => by
    obtain ⟨v, r, rfl, q, t⟩ := h
    have e : consO (pd d) (pdL ds) = some xs := e
    cases e1 : pd d with
    | none => rw [e1] at e; exact nomatch e
    | some y =>
      cases e2 : pdL ds with
      | none => rw [e1, e2] at e; exact nomatch e
      | some ys =>
        rw [e1, e2] at e
        obtain rfl : y :: ys = xs := Option.some.inj e
        exact .cons (pd_dp s q e1) (pdL_dp s t e2)
end
theorem pd_rn {K : PySem.W.Frag} {F H : Hp} (s : Same F H) {d : D} {v : V} {x : PyData} (h : Rn K F H d v) (e : pd d = some x) : Dp K H v x := by
  cases d with
  | lst ds =>
    obtain ⟨a, vs, rfl, q, r⟩ := h
    have e : (pdL ds).map PyData.list = some x := e
    cases e2 : pdL ds with
    | none => rw [e2] at e; exact nomatch e
    | some xs =>
      rw [e2] at e
      obtain rfl : PyData.list xs = x := Option.some.inj e
      exact .lst (sqL_of q) (pdL_dp s r e2)
  | _ => exact pd_dp s h e
def oEqD (neg : Bool) : O2 := fun dx dy Q => ∃ x y, pd dx = some x ∧ pd dy = some y ∧ SeqAt.shaped x = true ∧ SeqAt.shaped y = true ∧ Q (.bl (if neg then !PyData.eqv x y else PyData.eqv x y))
theorem lr_eqD : LiR X (rEqD X.K) (oEqD false) := by
  intro c hX σ F H ρ x y dx dy Q Q3 R rx ry hq h
  subst hX
  obtain ⟨a, b, e1, e2, s1, s2, q⟩ := h
  exact ⟨a, b, pd_rn R.sub rx e1, pd_rn R.sub ry e2, s1, s2, hq (.bl _) _ F H R (Same.refl F) rfl q⟩
theorem lr_neD : LiR X (rNeD X.K) (oEqD true) := by
  intro c hX σ F H ρ x y dx dy Q Q3 R rx ry hq h
  subst hX
  obtain ⟨a, b, e1, e2, s1, s2, q⟩ := h
  exact ⟨a, b, pd_rn R.sub rx e1, pd_rn R.sub ry e2, s1, s2, hq (.bl _) _ F H R (Same.refl F) rfl q⟩
def ownP (Q : Bool → List D → Prop) : Option PV → Prop
  | some (.own f ds) => Q f ds
  | _ => False
theorem ownP_is {Q : Bool → List D → Prop} {o : Option PV} (h : ownP Q o) : ∃ f ds, o = some (.own f ds) ∧ Q f ds := by
  match o, h with
  | some (.own f ds), h => exact ⟨f, ds, rfl, h⟩
def qAppend (i : Nat) (pe : QD) : QE := fun ρ Q => ownP (fun _ _ => pe ρ fun d ρ1 => ownP (fun f ds => ds.length < sizeLine ∧ Q (.val .non) (ρ1.set i (.own f (ds ++ [d])))) ρ1[i]?) ρ[i]?
theorem li_append {i : Nat} {te : TE} {pe : QD} (h1 : LiD X te pe) : LiE X (tBM X.K "list" rAppend (tVar i) (tCons te tNil)) (qAppend i pe) := by
  intro c hX σ F H ρ Q Q3 R hq h
  obtain ⟨f0, ds0, hi0, h⟩ := ownP_is h
  obtain ⟨p, vs0, ep, hF0, hp0, _⟩ := R.slot i _ hi0
  refine ⟨.ref p, ep, Or.inl ⟨rfl, _, sqL_of hp0⟩, ?_⟩
  refine h1 c hX σ F H ρ _ _ R ?_ h
  intro d ρ1 v F1 H1 R1 s1 rv q1
  obtain ⟨f, ds, hi, hz, q⟩ := ownP_is q1
  obtain ⟨p1, vs, ep1, hF, hp, hr, _⟩ := R1.slot i _ hi
  rw [ep] at ep1
  obtain rfl : p = p1 := by injection ep1 with ep1; injection ep1 with ep1; injection ep1
  have hr2 : RpL c.K F1 (ds ++ [d]) (vs ++ [v]) := hr.app ⟨v, [], rfl, rv, rfl⟩
  exact ⟨p, vs, v, rfl, rfl, hp, by rw [hr.len]; exact hz, hq (.val .non) _ .non F1 _ (R1.mutOwn hi ep hr2) s1 rfl q⟩
end
end L3
namespace L3
open PySem PySem.Spec PyProof.Rows L2 TB LamX
open C8 (Cal Met Mak)
section
variable {P : Program} {w : World} {K : PySem.W.Frag} {mg : Str → Option Value} {base : Heap} {k : Nat} {x m : Str} {C : Addr} {sp sp' : Sp} {dvs : List V}
theorem cal_imp (c : Cal P w K mg base k x sp dvs) (h : ∀ vs H Q E, sp' vs H Q E → sp vs H Q E) : Cal P w K mg base k x sp' dvs := by
  obtain ⟨f, fd, ps, ds, F, r⟩ := c.ex
  exact ⟨f, fd, ps, ds, F.imp h, r⟩
end
section
variable {X : Sx} {F H : Hp} {vs : List V} {ds : List D}
theorem RpL.of_get {K : PySem.W.Frag} {F : Hp} : ∀ {ds : List D} {vs : List V}, vs.length = ds.length → (∀ (j : Nat) d v, ds[j]? = some d → vs[j]? = some v → Rp K F d v) → RpL K F ds vs
  | [], vs, e, _ => List.eq_nil_of_length_eq_zero e
  | d :: ds, [], e, _ => nomatch e
  | d :: ds, v :: vs, e, h => ⟨v, vs, rfl, h 0 d v rfl rfl, RpL.of_get (Nat.succ.inj e) fun j d v h1 h2 => h (j + 1) d v (by simpa using h1) (by simpa using h2)⟩
theorem Entry.rpl (e : Entry X none F H vs ds) : RpL X.K F ds vs := RpL.of_get e.len fun j d v h1 h2 => e.arg j d v h1 h2 (fun z => nomatch z)
theorem Entry.rel {io : Option Nat} (e : Entry X io F H vs ds) (B : List Addr) : Rel ⟨X, fun p => H p = none, [], F, H, B⟩ F H [] [] :=
  ⟨rfl, e.sub, fun i pv h => by simp at h, fun i j f1 o1 f2 o2 p h => by simp at h, e.nt, e.tab, e.tabF, Same.refl F, fun _ _ z _ _ => z, fun _ z => z, fun _ _ z => Or.inl z, fun _ z => z⟩
theorem Exit.same (e : Entry X none F H vs ds) {r : Rs} {v : V} (h : RsX X H F H r v) : Exit X none F H vs F H r none v := ⟨e.rel [], h, fun _ _ z => nomatch z⟩
theorem Exit.newL (e : Entry X none F H vs ds) {p : Addr} {ws : List V} {es : List D} (np : H p = none) (r : RpL X.K F es ws) : Exit X none F H vs F (upd H p (.lst ws)) (.new es) none (.ref p) :=
  ⟨(e.rel []).allocH np trivial, ⟨p, ws, rfl, (e.rel []).fnone np, np, upd_same, r⟩, fun _ _ z => nomatch z⟩
def potD : D := .op ⟨fun F v => ∃ p, v = .ref p ∧ F p = some (PotO p), fun s h => by
  obtain ⟨p, e, h⟩ := h
  exact ⟨p, e, s _ _ h⟩⟩
abbrev strsD (ws : List Str) : List D := ws.map D.str
theorem rpl1 {K : PySem.W.Frag} {d : D} (h : RpL K F [d] vs) : ∃ v, vs = [v] ∧ Rp K F d v := by
  obtain ⟨v, t, rfl, q, e⟩ := h
  obtain rfl : t = [] := e
  exact ⟨v, rfl, q⟩
theorem rpl2 {K : PySem.W.Frag} {d d2 : D} (h : RpL K F [d, d2] vs) : ∃ v v2, vs = [v, v2] ∧ Rp K F d v ∧ Rp K F d2 v2 := by
  obtain ⟨v, t, rfl, q, h⟩ := h
  obtain ⟨v2, rfl, q2⟩ := rpl1 h
  exact ⟨v, v2, rfl, q, q2⟩
theorem rpl3 {K : PySem.W.Frag} {d d2 d3 : D} (h : RpL K F [d, d2, d3] vs) : ∃ v v2 v3, vs = [v, v2, v3] ∧ Rp K F d v ∧ Rp K F d2 v2 ∧ Rp K F d3 v3 := by
  obtain ⟨v, t, rfl, q, h⟩ := h
  obtain ⟨v2, v3, rfl, q2, q3⟩ := rpl2 h
  exact ⟨v, v2, v3, rfl, q, q2, q3⟩
def pDraw : PSp := fun ds Q => ∃ m : Int, ds = [potD, .int m] ∧ 0 < m ∧ m < 2 ^ 64 ∧ ∀ d : Int, 0 ≤ d → d < m → Q (.val (.int d)) none
def pNumber : PSp := fun ds Q => ds = [potD] ∧ ∀ d : Int, -(10 ^ 18) ≤ d → d ≤ 10 ^ 18 → Q (.val (.int d)) none
def pName : PSp := fun ds Q => ∃ ws : List Str, ds = [potD, .lst (strsD ws)] ∧ ws.length < 26 ∧ ∀ z : Str, Nm z → z ∉ ws → Q (.val (.str z)) (some (strsD (ws ++ [z])))
theorem i_draw {spD : Sp} (hs : ∀ (p : Addr) (m : Int) (H : Hp) (Q : VK) (E : XK), H p = some (PotO p) → NoT H → 0 < m → m < 2 ^ 64 → (∀ d : Int, 0 ≤ d → d < m → Q (.int d) H) → spD [.ref p, .int m] H Q E) : ∀ vs H Q E, lsp X none pDraw vs H Q E → spD vs H Q E := by
  rintro vs H Q E ⟨F, ds, Q3, en, ⟨m, rfl, h0, h1, h⟩, hQ⟩
  obtain ⟨v1, v2, rfl, ⟨p, rfl, hp⟩, e2⟩ := rpl2 en.rpl
  obtain rfl : v2 = .int m := e2
  exact hs p m H Q E (en.sub _ _ hp) en.nt h0 h1 fun d a b => hQ _ _ _ F H (Exit.same (r := .val (.int d)) en rfl) (h d a b)
theorem rp_strs {K : PySem.W.Frag} (ws : List Str) : RpL K F (strsD ws) (ws.map V.str) := RpL.map (f := D.str) (g := V.str) (fun _ => rfl) ws
theorem i_name {spD : Sp} (hs : ∀ (p l : Addr) (ws : List Str) (H : Hp) (Q : VK) (E : XK), H p = some (PotO p) → H l = some (.lst (ws.map V.str)) → NoT H → ws.length < 26 → (∀ z : Str, Nm z → z ∉ ws → Q (.str z) (upd H l (.lst ((ws ++ [z]).map V.str)))) → spD [.ref p, .ref l] H Q E) : ∀ vs H Q E, lsp X (some 1) pName vs H Q E → spD vs H Q E := by
  rintro vs H Q E ⟨F, ds, Q3, en, ⟨ws, rfl, h0, h⟩, hQ⟩
  obtain ⟨l, us, es, e1, e2, hF, hl, hr⟩ := en.ioA 1 rfl
  obtain rfl : strsD ws = es := by
    have e3 : some (D.lst (strsD ws)) = some (.lst es) := e2
    injection e3 with e3; injection e3
  obtain rfl := hr.strs
  have hvl := en.len
  match vs, hvl, e1 with
  | [v1, v2], _, e1 =>
    obtain rfl : v2 = .ref l := Option.some.inj e1
    obtain ⟨p, rfl, hp⟩ := en.arg 0 potD v1 rfl rfl (fun z => nomatch z)
    refine hs p l ws H Q E (en.sub _ _ hp) hl en.nt h0 fun z a b => ?_
    refine hQ (.val (.str z)) (some (strsD (ws ++ [z]))) (.str z) F _ ⟨(en.rel [l]).mutH hl hF (Or.inl (List.mem_singleton.mpr rfl)) (fun i f o h => by simp at h), rfl, fun j q z1 z2 => ?_⟩ (h z a b)
    obtain rfl : 1 = j := Option.some.inj z1
    obtain rfl : l = q := by
      have z3 : some (V.ref l) = some (.ref q) := z2
      injection z3 with z3; injection z3
    exact ⟨_, _, rfl, upd_same, rp_strs _⟩
end
end L3
namespace L3
open PySem PySem.Spec PyProof.Rows L2 TB LamX
open C8 (Cal Met Mak)
section
variable {X : Sx} {K : PySem.W.Frag}
theorem lg_tup' {n : Nat} {gs : TGs} {ps : QGs} {t : List Nat} (h1 : LiGs X gs ps t) (hK : X.K = K := by rfl) : LiG X (gTup K n gs) (gqTup n ps) t := by subst hK; exact lg_tup h1
theorem lii_list' {te : TE} {pe : QE} (h1 : LiE X te pe) (hK : X.K = K := by rfl) : LiI X (iList K te) (iqSeq pe) := by subst hK; exact lii_list h1
theorem lii_tup' {te : TE} {pe : QE} (h1 : LiE X te pe) (hK : X.K = K := by rfl) : LiI X (iTup K te) (iqTup pe) := by subst hK; exact lii_tup h1
theorem lii_enum' {ta : TA} {pa : QAD} (h1 : LiAD X ta pa) (hK : X.K = K := by rfl) : LiI X (iEnum K ta) (iqEnum pa) := by subst hK; exact lii_enum h1
theorem li_append' {i : Nat} {te : TE} {pe : QD} (h1 : LiD X te pe) (hK : X.K = K := by rfl) : LiE X (tBM K "list" rAppend (tVar i) (tCons te tNil)) (qAppend i pe) := by subst hK; exact li_append h1
theorem lr_ixL' (hK : X.K = K := by rfl) : LiR X (rIxL K) oIxL := by subst hK; exact lr_ixL
theorem lr_ixT' (hK : X.K = K := by rfl) : LiR X (rIxT K) oIxT := by subst hK; exact lr_ixT
theorem lr_catT' (hK : X.K = K := by rfl) : LiR X (rCatA K) oCatT := by subst hK; exact lr_catT
theorem lr_in' {neg : Bool} (hK : X.K = K := by rfl) : LiR X (rIn K neg) (oIn neg) := by subst hK; exact lr_in neg
theorem lc_len' (hK : X.K = K := by rfl) : LiC X (rLenL K) oLen := by subst hK; exact lc_len
theorem lc_list' (hK : X.K = K := by rfl) : LiCN X (rListL K) oList := by subst hK; exact lc_list
theorem lc_tuple' (hK : X.K = K := by rfl) : LiC X (rTupL K) oTuple := by subst hK; exact lc_tuple
theorem lc_all' (hK : X.K = K := by rfl) : LiC X (rAll K) (oAll true) := by subst hK; exact lc_all
theorem lr_eqD' (hK : X.K = K := by rfl) : LiR X (rEqD K) (oEqD false) := by subst hK; exact lr_eqD
theorem lr_neD' (hK : X.K = K := by rfl) : LiR X (rNeD K) (oEqD true) := by subst hK; exact lr_neD
theorem li_meth' {C : Addr} {m : Str} {P : PSp} {te : TE} {ta : TA} {pe : QE} {pa : QA} {E : XK} (h0 : LiE X te pe) (h1 : LiA X ta pa) (hK : X.K = K := by rfl) : LiE X (tMeth C m (lsp X none P) [] E te ta) (qMeth K C m P pe pa) := by subst hK; exact li_meth h0 h1
/-- an assignment to a name whose list will be changed -/
theorem toN {Y : Cx} {st : Stmt} {te : TE} {i : Nat} (h : PS Y st (tAsg te (gName i))) : PS Y st (tAsgN te i) := h
end
section
variable {ρ : PSt} {P : PEnds} {Q : Rv → PSt → Prop} {QD1 : D → PSt → Prop} {QN1 : List D → PSt → Prop} {QT1 : Bool → PSt → Prop} {QA1 : List Rv → PSt → Prop} {QAD1 : List D → PSt → Prop} {QO1 : Option Int → PSt → Prop}
  {p q : QS} {pe pe2 : QE} {pn : QN} {pd : QD} {pt pt2 : QT} {pa : QA} {pad : QAD} {g : QG} {gs : QGs} {po po2 : QO} {pi : QI} {i j : Nat} {d : D} {ds : List D} {f : Bool}
theorem w_seq (h : p { P with nx := q P } ρ) : sSeq p q P ρ := h
theorem w_next (h : P.nx ρ) : sNext P ρ := h
theorem w_drop (h : pe ρ fun _ ρ' => P.nx ρ') : sDrop pe P ρ := h
theorem w_ret (h : pd ρ fun d ρ' => P.rt (.val d) ρ') : sRet pd P ρ := h
theorem w_retNew (h : pn ρ fun ds ρ' => P.rt (.new ds) ρ') : sRetNew pn P ρ := h
theorem w_retV (e : ρ[i]? = some (.val d)) (h : P.rt (.val d) ρ) : sRetV i P ρ := by
  show retP ρ i P ρ[i]?
  rw [e]
  exact h
theorem w_retO (e : ρ[i]? = some (.own true ds)) (h : P.rt (.new ds) (ρ.set i .un)) : sRetV i P ρ := by
  show retP ρ i P ρ[i]?
  rw [e]
  exact h
theorem w_ifs (h : pt ρ fun b ρ1 => if b = true then p P ρ1 else q P ρ1) : sIf pt p q P ρ := h
theorem w_asg (h : pd ρ fun d ρ1 => g d ρ1 P.nx) : sAsg pd g P ρ := h
theorem w_own (h : pn ρ fun ds ρ1 => P.nx (ρ1.set i (.own true ds))) : sOwn pn i P ρ := h
theorem w_for (h : pi ρ fun ds ρ1 => ForP ds g p P ρ1) : sFor pi g p P ρ := h
theorem w_name {R : PSt → Prop} (h : R (ρ.set i (.val d))) : gqName i d ρ R := h
theorem w_gnil {R : PSt → Prop} (h : R ρ) : gqNil [] ρ R := ⟨rfl, h⟩
theorem w_gcons {R : PSt → Prop} (h : g d ρ fun ρ' => gs ds ρ' R) : gqCons g gs (d :: ds) ρ R := ⟨d, ds, rfl, h⟩
theorem w_gtup {R : PSt → Prop} {n : Nat} (e : ds.length = n) (h : gs ds ρ R) : gqTup n gs (.tup ds) ρ R := ⟨ds, rfl, e, h⟩
theorem w_var (e : ρ[i]? = some (.val d)) (h : Q (.val d) ρ) : qVar i ρ Q := by
  show qVarP i (fun r => Q r ρ) ρ[i]?
  rw [e]
  exact h
theorem w_varO (e : ρ[i]? = some (.own f ds)) (h : Q (.cell i) ρ) : qVar i ρ Q := by
  show qVarP i (fun r => Q r ρ) ρ[i]?
  rw [e]
  exact h
theorem w_cI {n : Int} (h : Q (.val (.int n)) ρ) : qC (.int n) ρ Q := h
theorem w_cS {z : Str} (h : Q (.val (.str z)) ρ) : qC (.str z) ρ Q := h
theorem w_cB {b : Bool} (h : Q (.val (.bl b)) ρ) : qC (.bl b) ρ Q := h
theorem w_cN (h : Q (.val .non) ρ) : qC .non ρ Q := h
theorem w_esc (h : pe ρ fun r ρ' => escR ρ' QD1 r) : qEsc pe ρ QD1 := h
theorem w_escV (h : QD1 d ρ) : escR ρ QD1 (.val d) := h
theorem w_escC (e : ρ[i]? = some (.own true ds)) (h : QD1 (.lst ds) (ρ.set i (.val (.lst ds)))) : escR ρ QD1 (.cell i) := by
  show escP ρ i QD1 ρ[i]?
  rw [e]
  exact h
theorem w_keep (h : pn ρ fun ds ρ' => Q (.val (.lst ds)) ρ') : qKeep pn ρ Q := h
theorem w_val (h : pd ρ fun d ρ' => Q (.val d) ρ') : qVal pd ρ Q := h
theorem w_nil (h : QA1 [] ρ) : qNil ρ QA1 := h
theorem w_cons (h : pe ρ fun r ρ1 => pa ρ1 fun rs ρ2 => QA1 (r :: rs) ρ2) : qCons pe pa ρ QA1 := h
theorem w_nilD (h : QAD1 [] ρ) : qNilD ρ QAD1 := h
theorem w_consD (h : pd ρ fun d ρ1 => pad ρ1 fun ds ρ2 => QAD1 (d :: ds) ρ2) : qConsD pd pad ρ QAD1 := h
theorem w_lst (h : pad ρ fun ds ρ' => ds.length ≤ sizeLine ∧ QN1 ds ρ') : qLst pad ρ QN1 := h
theorem w_tup (h : pad ρ fun ds ρ' => ds.length ≤ sizeLine ∧ QD1 (.tup ds) ρ') : qTup pad ρ QD1 := h
theorem w_op {r3 : O2} (h : pe ρ fun x ρ1 => pe2 ρ1 fun y ρ2 => some2 (fun dx dy => r3 dx dy fun d => Q (.val d) ρ2) (rdR ρ2 x) (rdR ρ2 y)) : qOp r3 pe pe2 ρ Q := h
theorem w_opN {r3 : O2N} (h : pe ρ fun x ρ1 => pe2 ρ1 fun y ρ2 => some2 (fun dx dy => r3 dx dy fun d => QN1 d ρ2) (rdR ρ2 x) (rdR ρ2 y)) : qOpN r3 pe pe2 ρ QN1 := h
theorem w_un {r3 : O1} (h : pe ρ fun x ρ1 => some1 (fun dx => r3 dx fun d => Q (.val d) ρ1) (rdR ρ1 x)) : qUn r3 pe ρ Q := h
theorem w_cb {r3 : OL} (h : pa ρ fun xs ρ1 => some1 (fun ds => r3 ds fun d => Q (.val d) ρ1) (rdL ρ1 xs)) : qCB r3 pa ρ Q := h
theorem w_cbN {r3 : OLN} (h : pa ρ fun xs ρ1 => some1 (fun ds => r3 ds fun d => QN1 d ρ1) (rdL ρ1 xs)) : qCBN r3 pa ρ QN1 := h
theorem w_some1 {α : Type} {F : α → Prop} {o : Option α} {x : α} (e : o = some x) (h : F x) : some1 F o := by
  rw [e]
  exact h
theorem w_some2 {α β : Type} {F : α → β → Prop} {o : Option α} {u : Option β} {x : α} {y : β} (e : o = some x) (e2 : u = some y) (h : F x y) : some2 F o u := by
  rw [e, e2]
  exact h
theorem w_I0 {g : Int → Int → V} {a b : Int} {F : D → Prop} (h : some1 F (vD (g a b))) : oI0 g (.int a) (.int b) F := ⟨a, b, rfl, rfl, h⟩
theorem w_test (h : pe ρ fun r ρ' => isBl (fun b => QT1 b ρ') r) : qTest pe ρ QT1 := h
theorem w_isBl {F : Bool → Prop} {b : Bool} (h : F b) : isBl F (.val (.bl b)) := h
theorem w_and (h : pt ρ fun b ρ1 => if b = true then pt2 ρ1 QT1 else QT1 false ρ1) : qAnd pt pt2 ρ QT1 := h
theorem w_or (h : pt ρ fun b ρ1 => if b = true then QT1 true ρ1 else pt2 ρ1 QT1) : qOr pt pt2 ρ QT1 := h
theorem w_not (h : pt ρ fun b ρ1 => QT1 (!b) ρ1) : qNot pt ρ QT1 := h
theorem w_yes (h : QT1 true ρ) : qYes ρ QT1 := h
theorem w_if {a b : QE} (h : pt ρ fun k ρ1 => if k = true then a ρ1 Q else b ρ1 Q) : qIf pt a b ρ Q := h
theorem w_andV (h : pe ρ fun r ρ1 => isBl (fun k => if k = true then pe2 ρ1 Q else Q (.val (.bl false)) ρ1) r) : qAndV pe pe2 ρ Q := h
theorem w_orV (h : pe ρ fun r ρ1 => isBl (fun k => if k = true then Q (.val (.bl true)) ρ1 else pe2 ρ1 Q) r) : qOrV pe pe2 ρ Q := h
theorem w_notV (h : pe ρ fun r ρ1 => isBl (fun k => Q (.val (.bl (!k))) ρ1) r) : qNotV pe ρ Q := h
theorem w_iseq (h : qEsc pe ρ fun d ρ' => ∃ ds, d = .lst ds ∧ QN1 ds ρ') : iqSeq pe ρ QN1 := h
theorem w_itup (h : qEsc pe ρ fun d ρ' => ∃ ds, d = .tup ds ∧ QN1 ds ρ') : iqTup pe ρ QN1 := h
theorem w_exL {F : List D → Prop} (h : F ds) : ∃ es, D.lst ds = .lst es ∧ F es := ⟨ds, rfl, h⟩
theorem w_exT {F : List D → Prop} (h : F ds) : ∃ es, D.tup ds = .tup es ∧ F es := ⟨ds, rfl, h⟩
theorem w_ienum (h : pad ρ fun as ρ' => ∃ ds, as = [.lst ds] ∧ QN1 (ds.zipIdx.map fun p => D.tup [.int (p.2 : Nat), p.1]) ρ') : iqEnum pad ρ QN1 := h
theorem w_exE {F : List D → Prop} (h : F ds) : ∃ es, [D.lst ds] = [.lst es] ∧ F es := ⟨ds, rfl, h⟩
theorem w_irng1 (h : pa ρ fun as ρ' => ∃ j : Int, rdL ρ' as = some [.int j] ∧ -(2 ^ 62) ≤ j ∧ j < 2 ^ 62 ∧ QN1 ((List.range j.toNat).map fun (i : Nat) => D.int (0 + i)) ρ') : iqRng1 pa ρ QN1 := h
theorem w_lc {vs : List Nat} (h : pi ρ fun ds ρ1 => LcP ds g pt pd vs ρ1 QN1) : qLc pi g pt pd vs ρ QN1 := h
theorem w_call {S : PSp} (h : pa ρ fun rs ρ1 => some1 (fun ds => S ds fun r _ => resOk (rs.any isCell) r fun d => Q (.val d) ρ1) (rdL ρ1 rs)) : qCall S pa ρ Q := h
theorem w_res {hc : Bool} {F : D → Prop} (e : hc = false) (h : F d) : resOk hc (.val d) F := ⟨Or.inl e, h⟩
theorem w_resN {hc : Bool} {F : D → Prop} (e : hc = false) (h : F (.lst ds)) : resOk hc (.new ds) F := ⟨Or.inl e, h⟩
theorem w_meth {K : PySem.W.Frag} {C : Addr} {m : Str} {S : PSp} (h : pe ρ fun x ρ0 => ∃ d, x = .val d ∧ IsI K C m d ∧ pa ρ0 fun rs ρ1 => some1 (fun ds => S (d :: ds) fun r _ => resOk (rs.any isCell) r fun d => Q (.val d) ρ1) (rdL ρ1 rs)) : qMeth K C m S pe pa ρ Q := h
theorem w_ixL {k : Int} {F : D → Prop} (e : atI ds k = some d) (h : F d) : oIxL (.lst ds) (.int k) F := ⟨ds, k, rfl, rfl, by rw [e]; exact h⟩
theorem w_ixT {k : Int} {F : D → Prop} (e : atI ds k = some d) (h : F d) : oIxT (.tup ds) (.int k) F := ⟨ds, k, rfl, rfl, by rw [e]; exact h⟩
theorem w_inS {z : Str} {ws : List Str} {F : D → Prop} (h : F (.bl (decide (z ∈ ws)))) : oIn false (.str z) (.lst (ws.map D.str)) F := by
  refine ⟨ws.map D.str, Or.inl rfl, rfl, flat_strs3 ws, ?_⟩
  rw [inD_strs]
  exact h
theorem w_ninS {z : Str} {ws : List Str} {F : D → Prop} (h : F (.bl (!decide (z ∈ ws)))) : oIn true (.str z) (.lst (ws.map D.str)) F := by
  refine ⟨ws.map D.str, Or.inl rfl, rfl, flat_strs3 ws, ?_⟩
  rw [inD_strs]
  exact h
theorem w_inST {z : Str} {ws : List Str} {F : D → Prop} (h : F (.bl (decide (z ∈ ws)))) : oIn false (.str z) (.tup (ws.map D.str)) F := by
  refine ⟨ws.map D.str, Or.inr rfl, rfl, flat_strs3 ws, ?_⟩
  rw [inD_strs]
  exact h
theorem w_ninST {z : Str} {ws : List Str} {F : D → Prop} (h : F (.bl (!decide (z ∈ ws)))) : oIn true (.str z) (.tup (ws.map D.str)) F := by
  refine ⟨ws.map D.str, Or.inr rfl, rfl, flat_strs3 ws, ?_⟩
  rw [inD_strs]
  exact h
theorem w_lenL {F : D → Prop} (h : F (.int ds.length)) : oLen [.lst ds] F := ⟨ds, Or.inl rfl, h⟩
theorem w_lenT {F : D → Prop} (h : F (.int ds.length)) : oLen [.tup ds] F := ⟨ds, Or.inr rfl, h⟩
theorem w_list {F : List D → Prop} (h : F ds) : oList [.lst ds] F := ⟨ds, Or.inl rfl, h⟩
theorem w_tuple {F : D → Prop} (h : F (.tup ds)) : oTuple [.lst ds] F := ⟨ds, Or.inl rfl, h⟩
theorem w_intB {b : Bool} {F : D → Prop} (h : F (.int (if b then 1 else 0))) : oInt [.bl b] F := Or.inl ⟨b, rfl, h⟩
theorem w_all {bs : List Bool} {F : D → Prop} (h : F (.bl (bs.all id))) : oAll true [.lst (bs.map D.bl)] F := ⟨bs, rfl, h⟩
theorem w_catT {es : List D} {F : D → Prop} (n : ds.length + es.length ≤ sizeLine) (h : F (.tup (ds ++ es))) : oCatT (.tup ds) (.tup es) F := ⟨ds, es, rfl, rfl, n, h⟩
theorem w_catL {es : List D} {F : List D → Prop} (n : ds.length + es.length ≤ sizeLine) (h : F (ds ++ es)) : oCatL (.lst ds) (.lst es) F := ⟨ds, es, rfl, rfl, n, h⟩
theorem w_append (e : ρ[i]? = some (.own f ds)) (h : pd ρ fun d ρ1 => ownP (fun f ds => ds.length < sizeLine ∧ Q (.val .non) (ρ1.set i (.own f (ds ++ [d])))) ρ1[i]?) : qAppend i pd ρ Q := by
  show ownP _ ρ[i]?
  rw [e]
  exact h
theorem w_ownP {F : Bool → List D → Prop} {o : Option PV} (e : o = some (.own f ds)) (h : F f ds) : ownP F o := by
  rw [e]
  exact h
end
end L3
namespace L3
open PySem PySem.Spec PyProof.Rows L2 TB LamX
open C8 (Cal Met Mak)
section
variable {X : Sx}
def tParNN (i j : Nat) (t u : TE) : TS := tPar i j (tCons t (tCons u tNil))
theorem toNN {Y : Cx} {st : Stmt} {i j : Nat} {t u : TE} (h : PS Y st (tPar i j (tCons t (tCons u tNil)))) : PS Y st (tParNN i j t u) := h
def sParNN (i j : Nat) (p q : QN) : QS := fun P ρ => p ρ fun ds ρ1 => q ρ1 fun es ρ2 => P.nx ((ρ2.set i (.own true ds)).set j (.own true es))
theorem nob_set {σ : L2.St} {ρ : PSt} {i : Nat} {v : V} {pv : PV} {p : Addr} (h : Nob σ ρ p) (hv : v ≠ .ref p ∨ ∃ d, pv = .val d) (hl : σ.length = ρ.length) : Nob (σ.set i (some v)) (ρ.set i pv) p := by
  intro j f ds hj ej
  by_cases q : i = j
  · subst q
    have h1 := (List.getElem?_eq_some_iff.mp hj).1
    rw [List.length_set] at h1
    rw [List.getElem?_set_self h1] at hj
    rw [List.getElem?_set_self (by rw [hl]; exact h1)] at ej
    rcases hv with hv | ⟨d, rfl⟩
    · exact hv (Option.some.inj (Option.some.inj ej))
    · exact nomatch hj
  · rw [List.getElem?_set_ne q] at hj ej
    exact h j f ds hj ej
theorem ls_parNN {i j : Nat} {t u : TE} {p q : QN} (h1 : LiN X t p) (h2 : LiN X u q) : LiS X (tParNN i j t u) (sParNN i j p q) := by
  intro c hX σ F H ρ D P R a h
  refine h1 c hX σ F H ρ _ _ R ?_ h
  intro ds ρ1 p1 F1 H1 R1 s1 n1 q1
  have hXh : (c.at F1 H1 (ownB σ ρ1)).X = X := hX
  obtain ⟨ws, hp1, hr1⟩ := n1.l
  have nb : p1 ∉ ownB σ ρ1 := by
    intro z
    obtain ⟨k, f, o, g1, g2⟩ := mem_ownB.mp z
    exact n1.o k f o g1 g2
  refine h2 _ hXh σ F1 H1 ρ1 _ _ R1.here ?_ q1
  intro es ρ2 p2 F2 H2 R2h s2 n2 q2
  have R2 := R1.trans R2h
  have hp12 : H2 p1 = some (.lst ws) := R2h.kp p1 _ hp1 nb (R1.notab hp1 (fun ps => by simp))
  have hF2 : F2 p1 = none := by
    cases e : F2 p1 with
    | none => rfl
    | some o =>
      rcases R2h.nw p1 o e with z | z | ⟨z, _⟩ | z
      · have z2 : F1 p1 = some o := z
        rw [n1.f] at z2
        exact nomatch z2
      · have z2 : H1 p1 = none := z
        rw [hp1] at z2
        exact nomatch z2
      · exact absurd z nb
      · have z2 := R2h.sub _ _ e
        rw [hp12] at z2
        cases z2
        exact z.elim
  have ne : p2 ≠ p1 := by
    rintro rfl
    rcases n2.b with z | ⟨z, _⟩
    · have z2 : H1 p2 = none := z
      rw [hp1] at z2
      exact nomatch z2
    · exact nb z
  have nob1 : Nob σ ρ2 p1 := by
    intro k f o hk ek
    obtain ⟨pp, us, ep, _, _, _, _, hb⟩ := R2h.slot k _ hk
    rw [ek] at ep
    obtain rfl : p1 = pp := by injection ep with ep; injection ep with ep; injection ep
    rcases hb with z | z
    · exact nb z
    · have z2 : H1 p1 = none := z
      rw [hp1] at z2
      exact nomatch z2
  obtain ⟨us, hp2, hr2⟩ := n2.l
  have b2 : p2 ∈ c.B0 ∨ c.H0 p2 = none := by
    rcases n2.b with z | ⟨z, _⟩
    · exact Or.inr (R1.dom p2 z)
    · obtain ⟨k, f, o, g1, g2⟩ := mem_ownB.mp z
      obtain ⟨pp, us, ep, _, _, _, _, hb⟩ := R1.slot k _ g1
      rw [g2] at ep
      obtain rfl : p2 = pp := by injection ep with ep; injection ep with ep; injection ep
      exact hb
  have R3 := R2.setOwn (i := i) hp12 hF2 (hr1.mono s2) n1.n n1.b2 nob1
  have R4 := R3.setOwn (i := j) hp2 n2.f hr2 n2.n b2 (nob_set n2.o (Or.inl (fun z => ne (by injection z with z; exact z.symm))) R2.len)
  exact ⟨_, _, rfl, a.nx _ F2 H2 _ R4 (tr s1 s2) q2⟩
/-- a call that changes the own list in slot i -/
def tCallIo (i : Nat) (sp : Sp) (E : XK) (t : TA) : TE := tCall sp [] E t
theorem toIo {Y : Cx} {e : Expr} {sp : Sp} {E : XK} {t : TA} (i : Nat) (h : PE Y e (tCall sp [] E t)) : PE Y e (tCallIo i sp E t) := h
theorem li_io {i j : Nat} {P : PSp} {ta : TA} {pa : QA} {E : XK} (h1 : LiA X ta pa) : LiE X (tCallIo i (lsp X (some j) P) E ta) (qCallIo j i P pa) := li_callIo h1
theorem w_callIo {ρ : PSt} {j i : Nat} {S : PSp} {pa : QA} {Q : Rv → PSt → Prop} (h : pa ρ fun rs ρ1 => rs[j]? = some (.cell i) ∧ (∀ k r, rs[k]? = some r → k ≠ j → isCell r = false) ∧ ownOf (fun f _ => some1 (fun ds => S ds fun r out => ioOk ρ1 i f (fun d ρ2 => Q (.val d) ρ2) r out) (rdL ρ1 rs)) ρ1[i]?) : qCallIo j i S pa ρ Q := h
theorem w_parNN {ρ : PSt} {P : PEnds} {i j : Nat} {p q : QN} (h : p ρ fun ds ρ1 => q ρ1 fun es ρ2 => P.nx ((ρ2.set i (.own true ds)).set j (.own true es))) : sParNN i j p q P ρ := h
end
end L3
namespace L3
open PySem PySem.Spec PyProof.Rows L2 TB LamX
section
variable {X : Sx} {c : Ct} {F H F' H' : Hp} {σ σ' : L2.St} {ρ ρ' : PSt} {A : Addr} {acc : List D}
theorem NewL.kept (n : NewL c F H σ ρ A acc) (R : Rel c F H σ ρ) (R' : Rel (c.at F H (ownB σ ρ)) F' H' σ' ρ') : NewL c F' H' σ' ρ' A acc := by
  have nobA : A ∉ ownB σ ρ := by
    intro z
    obtain ⟨j, f, o, g1, g2⟩ := mem_ownB.mp z
    exact n.o j f o g1 g2
  obtain ⟨ws, hA, rA⟩ := n.l
  have ntb : NoTb c A := R.notab hA (fun ps => by simp)
  have hA' : H' A = some (.lst ws) := R'.kp A _ hA nobA ntb
  refine ⟨⟨ws, hA', rA.mono R'.fr⟩, ?_, n.n, n.b, fun j f o hj ej => ?_⟩
  · cases e : F' A with
    | none => rfl
    | some o =>
      rcases R'.nw A o e with z | z | ⟨z, _⟩ | z
      · have z2 : F A = some o := z
        rw [n.f] at z2
        exact nomatch z2
      · have z2 : H A = none := z
        rw [hA] at z2
        exact nomatch z2
      · exact absurd z nobA
      · have z2 := R'.sub _ _ e
        rw [hA'] at z2
        cases z2
        exact z.elim
  · obtain ⟨p, us, ep, _, _, _, _, hb⟩ := R'.slot j _ hj
    rw [ej] at ep
    obtain rfl : A = p := by injection ep with ep; injection ep with ep; injection ep
    rcases hb with z | z
    · exact nobA z
    · have z2 : H A = none := z
      rw [hA] at z2
      exact nomatch z2
end
end L3
namespace L3
open PySem PySem.Spec PyProof.Rows L2 TB LamX
end L3
namespace L3
open PySem PySem.Spec PyProof.Rows L2 TB LamX
theorem run3' {X : Sx} {H : Hp} {t : TS} {N : List Str} {io : Option Nat} {P : PSp} {vs : List V} {Q : VK} {E : XK} (hp : ∃ p, LiS X t p ∧ ∀ ds Q3, P ds Q3 → p (ends3 io Q3) (start3 N ds io)) (h : lsp X io P vs H Q E) : t { nx := fun _ H' => Q .non H', rt := Q } (L2.start N vs) H := by
  obtain ⟨p, h1, h2⟩ := hp
  exact run3 h1 h2 h
end L3
namespace L3
open PySem PySem.Spec PyProof.Rows L2 TB LamX
section
variable {α : Type} {xs : List α} {enc : α → D} {g : QG} {pt : QT} {pe : QD} {vs : List Nat} {ρ0 : PSt} {Q : List D → PSt → Prop}
theorem LcP_fm (f : α → Option D) (hz : xs.length < sizeLine)
    (hs : ∀ x ∈ xs, ∀ (Y : D → PSt → Prop) (N : PSt → Prop), (∀ e ρ4, f x = some e → backP ρ0 ρ4 vs = ρ0 → Y e ρ4) → (∀ ρ3, f x = none → backP ρ0 ρ3 vs = ρ0 → N ρ3) → g (enc x) (wipeP ρ0 vs) fun ρ2 => pt ρ2 fun b ρ3 => if b = true then pe ρ3 Y else N ρ3)
    (hq : Q (xs.filterMap f) ρ0) : LcP (xs.map enc) g pt pe vs ρ0 Q := by
  refine ⟨fun i acc ρ => ρ = ρ0 ∧ acc = (xs.take i).filterMap f, ⟨rfl, rfl⟩, ?_⟩
  rintro i acc ρ ⟨rfl, rfl⟩
  refine ⟨fun e => ?_, fun d e => ?_⟩
  · have h1 := List.getElem?_eq_none_iff.mp e
    rw [List.length_map] at h1
    rw [List.take_of_length_le h1]
    exact hq
  · rw [List.getElem?_map] at e
    cases e2 : xs[i]? with
    | none => rw [e2] at e; exact nomatch e
    | some x =>
      rw [e2] at e
      obtain rfl : enc x = d := Option.some.inj e
      refine hs x (List.mem_of_getElem? e2) _ _ (fun y ρ4 hf hb => ⟨?_, hb, ?_⟩) (fun ρ3 hf hb => ⟨hb, ?_⟩)
      · have h1 := List.length_filterMap_le f (xs.take i)
        rw [List.length_take] at h1
        omega
      · rw [take_next e2, List.filterMap_append]
        simp [hf]
      · rw [take_next e2, List.filterMap_append]
        simp [hf]
theorem LcP_map (f : α → D) (hz : xs.length < sizeLine)
    (hs : ∀ x ∈ xs, ∀ (Y : D → PSt → Prop) (N : PSt → Prop), (∀ ρ4, backP ρ0 ρ4 vs = ρ0 → Y (f x) ρ4) → g (enc x) (wipeP ρ0 vs) fun ρ2 => pt ρ2 fun b ρ3 => if b = true then pe ρ3 Y else N ρ3)
    (hq : Q (xs.map f) ρ0) : LcP (xs.map enc) g pt pe vs ρ0 Q := by
  refine LcP_fm (fun x => some (f x)) hz (fun x hx Y N hY _ => hs x hx Y N fun ρ4 hb => hY _ ρ4 rfl hb) ?_
  have e : xs.filterMap (fun x => some (f x)) = xs.map f := by
    induction xs with
    | nil => rfl
    | cons a r ih => simp
  rw [e]
  exact hq
/-- those that are kept -/
theorem LcP_filter (k : α → Bool) (f : α → D) (hz : xs.length < sizeLine)
    (hs : ∀ x ∈ xs, ∀ (Y : D → PSt → Prop) (N : PSt → Prop), (∀ ρ4, k x = true → backP ρ0 ρ4 vs = ρ0 → Y (f x) ρ4) → (∀ ρ3, k x = false → backP ρ0 ρ3 vs = ρ0 → N ρ3) → g (enc x) (wipeP ρ0 vs) fun ρ2 => pt ρ2 fun b ρ3 => if b = true then pe ρ3 Y else N ρ3)
    (hq : Q ((xs.filter k).map f) ρ0) : LcP (xs.map enc) g pt pe vs ρ0 Q := by
  refine LcP_fm (fun x => if k x = true then some (f x) else none) hz (fun x hx Y N hY hN => hs x hx Y N (fun ρ4 hk hb => hY _ ρ4 (if_pos hk) hb) (fun ρ3 hk hb => hN ρ3 (if_neg (by rw [hk]; decide)) hb)) ?_
  have e : xs.filterMap (fun x => if k x = true then some (f x) else none) = (xs.filter k).map f := by
    clear hs hz hq
    induction xs with
    | nil => rfl
    | cons a r ih =>
      rw [List.filterMap_cons, List.filter_cons]
      by_cases h : k a = true
      · rw [if_pos h, if_pos h, List.map_cons, ih]
      · rw [if_neg h, if_neg h, ih]
  rw [e]
  exact hq
end
end L3
namespace L3
open PySem PySem.Spec PyProof.Rows L2 TB LamX
theorem pdL_map {α : Type} {f : α → D} {g : α → PyData} (h : ∀ x, pd (f x) = some (g x)) : ∀ l : List α, pdL (l.map f) = some (l.map g)
  | [] => rfl
  | x :: l => by
    show consO (pd (f x)) (pdL (l.map f)) = _
    rw [h x, pdL_map h l]
    rfl
theorem pd_ints (ns : List Int) : pd (.lst (ns.map D.int)) = some (dInts ns) := by
  show (pdL (ns.map D.int)).map PyData.list = _
  rw [pdL_map (g := PyData.int) (fun _ => rfl)]
  rfl
theorem pd_strs (ns : List Str) : pd (.lst (ns.map D.str)) = some (dStrs ns) := by
  show (pdL (ns.map D.str)).map PyData.list = _
  rw [pdL_map (g := PyData.str) (fun _ => rfl)]
  rfl
theorem eqvAll_map {α : Type} [DecidableEq α] {g : α → PyData} (h : ∀ x y, PyData.eqv (g x) (g y) = decide (x = y)) : ∀ l m : List α, PyData.eqvAll (l.map g) (m.map g) = decide (l = m)
  | [], [] => by simp [PyData.eqvAll]
  | [], y :: m => by simp [PyData.eqvAll]
  | x :: l, [] => by simp [PyData.eqvAll]
  | x :: l, y :: m => by
    simp only [List.map_cons, PyData.eqvAll]
    rw [h x y, eqvAll_map h l m]
    by_cases e : x = y
    · subst e
      by_cases e2 : l = m
      · subst e2
        simp
      · simp [e2]
    · simp [e]
theorem eqv_ints2 (a b : List Int) : PyData.eqv (dInts a) (dInts b) = decide (a = b) := by
  simp only [dInts, PyData.eqv]
  refine eqvAll_map (g := PyData.int) (fun x y => ?_) a b
  simp only [PyData.eqv]
  rw [Bool.eq_iff_iff]
  simp
theorem w_neNilI {a : List Int} {F : D → Prop} (h : F (.bl (!decide (a = [])))) : oEqD true (.lst (a.map D.int)) (.lst []) F :=
  ⟨_, _, pd_ints a, pd_ints [], sh_ints a, sh_ints [], by rw [eqv_ints2]; exact h⟩
theorem enum_map {α : Type} (f : α → D) (l : List α) : ((l.map f).zipIdx.map fun p => D.tup [.int (p.2 : Nat), p.1]) = l.zipIdx.map fun p => D.tup [.int (p.2 : Nat), f p.1] := by
  have h : ∀ (l : List α) (k : Nat), (l.map f).zipIdx k = (l.zipIdx k).map fun p => (f p.1, p.2) := by
    intro l
    induction l with
    | nil => intro k; rfl
    | cons a r ih => intro k; rw [List.map_cons, List.zipIdx_cons, List.zipIdx_cons, List.map_cons, ih]
  rw [h, List.map_map]
  rfl
/-- of each two the lower one and the upper one are a pair -/
def RiseP (ps : List Pr) (zs : List Str) : Prop := ∀ (k j : Nat) (a b : Str), k < j → zs[k]? = some a → zs[j]? = some b → (a, b) ∈ ps
end L3
namespace L3
open PySem PySem.Spec PyProof.Rows L2 TB LamX
theorem shown_listG_le {B : Nat} {ds : List PyData} (h : ∀ d ∈ ds, d.shown.length ≤ B) : (PyData.list ds).shown.length ≤ ds.length * B + 2 * ds.length + 3 := by
  have := shown_list_le (f := id) (B := B) (l := ds) (fun x hx => h x hx)
  rw [List.map_id] at this
  exact this
theorem RiseP.mono {ps qs : List Pr} {zs : List Str} (h : RiseP ps zs) (s : ∀ p ∈ ps, p ∈ qs) : RiseP qs zs := fun k j a b hkj ha hb => s _ (h k j a b hkj ha hb)
theorem RiseP.take {ps : List Pr} {zs : List Str} (h : RiseP ps zs) (n : Nat) : RiseP ps (zs.take n) := by
  intro k j a b hkj ha hb
  rw [List.getElem?_take] at ha hb
  by_cases h1 : k < n
  · by_cases h2 : j < n
    · rw [if_pos h1] at ha
      rw [if_pos h2] at hb
      exact h k j a b hkj ha hb
    · rw [if_neg h2] at hb
      exact nomatch hb
  · rw [if_neg h1] at ha
    exact nomatch ha
theorem RiseP.tail {ps : List Pr} {y : Str} {r : List Str} (h : RiseP ps (y :: r)) : RiseP ps r ∧ ∀ w ∈ r, (y, w) ∈ ps := by
  refine ⟨fun k j a b hkj ha hb => h (k + 1) (j + 1) a b (by omega) (by simpa using ha) (by simpa using hb), fun w hw => ?_⟩
  obtain ⟨i, hi, e⟩ := List.getElem_of_mem hw
  exact h 0 (i + 1) y w (by omega) rfl (by rw [List.getElem?_cons_succ, List.getElem?_eq_getElem hi, e])
theorem RiseP.nodup {ps : List Pr} (h0 : ∀ a, ¬ Rch ps a a) : ∀ {zs : List Str}, RiseP ps zs → zs.Nodup
  | [], _ => List.nodup_nil
  | y :: r, h => by
    obtain ⟨h1, h2⟩ := h.tail
    exact List.nodup_cons.mpr ⟨fun m => h0 y (.one (h2 y m)), RiseP.nodup h0 h1⟩
end L3
namespace L3
open PySem PySem.Spec PyProof.Rows L2 TB LamX
end L3
namespace L3
open PySem PySem.Spec PyProof.Rows L2 TB LamX
end L3
namespace L3
open PySem PySem.Spec PyProof.Rows L2 TB LamX
theorem fng_imp {P : Program} {w : World} {K : PySem.W.Frag} {mg : Str → Option Value} {base : Heap} {CX : CXT} {k : Nat} {f : Addr} {fd : FuncData} {ps : List Str} {sp sp' : Sp} (F : FnG P w K mg base CX k f fd ps sp) (h : ∀ vs H Q E, sp' vs H Q E → sp vs H Q E) : FnG P w K mg base CX k f fd ps sp' :=
  ⟨fun vs H Q E q => F.lenG vs H Q E (h _ _ _ _ q), fun A outer s H args us vs Q E g hr he hb hv hs => F.runG A outer s H args us vs Q E g hr he hb hv (h _ _ _ _ hs)⟩
end L3
namespace PySem
open Sem (wp)
open AutoSeq1 (wpAny_loadPart')
end PySem
namespace TB
open PySem PySem.Spec PyProof.Rows L2
end TB
namespace PySem
end PySem
namespace TB
open PySem PySem.Spec PyProof.Rows L2
end TB
namespace TB
open PySem PySem.Spec PyProof.Rows L2
end TB
namespace L3
open PySem PySem.Spec PyProof.Rows L2 TB LamX
section
variable {X : Sx} {K : PySem.W.Frag}
/-- isinstance(x, str) of a text -/
def oIsStr : OL := fun as Q => ∃ z, as = [.str z, .ty "str"] ∧ Q (.bl true)
theorem lc_isStr : LiC X rIsStr oIsStr := by
  intro c hX σ F H ρ xs dxs Q Q3 R rx hq h
  obtain ⟨z, rfl, h⟩ := h
  obtain ⟨v, t, rfl, rv, v2, t2, rfl, rv2, e⟩ := rx
  obtain rfl : t2 = [] := e
  obtain rfl : v = .str z := rv
  obtain rfl : v2 = .ty "str" := rv2
  exact ⟨z, rfl, hq (.bl _) _ F H R (Same.refl F) rfl h⟩
theorem w_isStr {z : Str} {F : D → Prop} (h : F (.bl true)) : oIsStr [.str z, .ty "str"] F := ⟨z, rfl, h⟩
theorem w_cT {n : String} {ρ : PSt} {Q : Rv → PSt → Prop} (h : Q (.val (.ty n)) ρ) : qC (.ty n) ρ Q := h
end
end L3
namespace L3
open PySem PySem.Spec PyProof.Rows L2 TB LamX
/-- all that stand ahead of z by a pair are among xs -/
def freeB (ps : List Pr) (z : Str) (xs : List Str) : Bool := ((ps.filter fun p => decide (p.2 = z)).map fun p => decide (p.1 ∈ xs)).all id
theorem freeB_iff {ps : List Pr} {z : Str} {xs : List Str} : freeB ps z xs = true ↔ ∀ a, (a, z) ∈ ps → a ∈ xs := by
  unfold freeB
  rw [List.all_map, List.all_eq_true]
  constructor
  · intro h a ha
    have := h (a, z) (List.mem_filter.mpr ⟨ha, decide_eq_true rfl⟩)
    simpa using this
  · intro h p hp
    obtain ⟨h1, h2⟩ := List.mem_filter.mp hp
    have e := of_decide_eq_true h2
    have := h p.1 (by rw [← e]; exact h1)
    simpa using this
def nextL (ls : List Str) (ps : List Pr) (fs : List Str) : List Str := ls.filter fun y => !decide (y ∈ fs) && freeB ps y fs
/-- a line so far: begun with xs, then always the first that may stand -/
structure GL (ls : List Str) (ps : List Pr) (xs fs : List Str) : Prop where
  nd : fs.Nodup
  mem : ∀ z ∈ fs, z ∈ ls
  pre : fs.take xs.length = xs
  len : xs.length ≤ fs.length
  free : ∀ i z, fs[i]? = some z → freeB ps z (fs.take i) = true
  least : ∀ i z, xs.length ≤ i → fs[i]? = some z → (nextL ls ps (fs.take i)).head? = some z
theorem GL.start {ls : List Str} {ps : List Pr} {xs : List Str} (nd : xs.Nodup) (mem : ∀ z ∈ xs, z ∈ ls) (free : ∀ i z, xs[i]? = some z → freeB ps z (xs.take i) = true) : GL ls ps xs xs :=
  ⟨nd, mem, List.take_length, Nat.le_refl _, free, fun i z h e => absurd (List.getElem?_eq_some_iff.mp e).1 (by omega)⟩
def PreOk (ps : List Pr) (xs : List Str) : Prop := ∀ i z, xs[i]? = some z → freeB ps z (xs.take i) = true
end L3
namespace L3
open PySem PySem.Spec PyProof.Rows L2 TB LamX
def tyD : D → Option String
  | .non => some "NoneType"
  | .bl _ => some "bool"
  | .int _ => some "int"
  | .str _ => some "str"
  | .lst _ => some "list"
  | .tup _ => some "tuple"
  | .dic _ _ => some "dict"
  | _ => none
def oIsi : OL := fun as Q => ∃ (d : D) (n t : String) (b : Bool), as = [d, .ty n] ∧ tyD d = some t ∧ kitB t n = some b ∧ Q (.bl b)
section
variable {X : Sx} {K : PySem.W.Frag}
theorem tyD_ok {K : PySem.W.Frag} {F H : Hp} (s : Same F H) {d : D} {v : V} {t : String} (h : Rn K F H d v) (e : tyD d = some t) : TyX K H v (.type t) := by
  cases d with
  | non => obtain rfl := Option.some.inj e; obtain rfl : v = .non := h; exact .base .non
  | bl b => obtain rfl := Option.some.inj e; obtain rfl : v = .bl b := h; exact .base (.bl b)
  | int b => obtain rfl := Option.some.inj e; obtain rfl : v = .int b := h; exact .base (.int b)
  | str b => obtain rfl := Option.some.inj e; obtain rfl : v = .str b := h; exact .base (.str b)
  | ty b => exact nomatch e
  | ins _ _ _ => exact nomatch e
  | op _ => exact nomatch e
  | lst ds =>
    obtain rfl := Option.some.inj e
    obtain ⟨a, vs, rfl, q, _⟩ := h
    exact .base (.lst q)
  | dic ks ds =>
    obtain rfl := Option.some.inj e
    obtain ⟨a, vs, rfl, q, _⟩ := h
    exact .base (.dK (s _ _ q))
  | tup ds =>
    obtain rfl := Option.some.inj e
    obtain ⟨a, vs, rfl, q, _⟩ := h
    rcases q with (q | ⟨o, q⟩) | ⟨o, its, n, q, c, _⟩
    · exact .base (.tup (s _ _ q))
    · exact .fTuple (s _ _ q)
    · exact .kTuple q c
theorem lc_isi (hK : X.K = K := by rfl) : LiC X (rIsi K) oIsi := by
  subst hK
  intro c hX σ F H ρ xs dxs Q Q3 R rx hq h
  subst hX
  obtain ⟨d, n, t, b, rfl, e1, e2, h⟩ := h
  obtain ⟨v, u, rfl, rv, v2, u2, rfl, rv2, eu⟩ := rx
  obtain rfl : u2 = [] := eu
  obtain rfl : v2 = .ty n := rv2
  exact ⟨v, .ty n, .type t, .type n, b, rfl, .ty n, tyD_ok R.sub rv e1, kit_ty e2, hq (.bl b) _ F H R (Same.refl F) rfl h⟩
theorem call_isiX {Y : Cx} (K : PySem.W.Frag) (hK : Y.K = K := by rfl) : CallR Y (.builtin "isinstance") (rIsi K) := by subst hK; exact call_isi
theorem w_isi {d : D} {n t : String} {b : Bool} {F : D → Prop} (e1 : tyD d = some t) (e2 : kitB t n = some b) (h : F (.bl b)) : oIsi [d, .ty n] F := ⟨d, n, t, b, rfl, e1, e2, h⟩
theorem w_isLL {ds : List D} {F : D → Prop} (h : F (.bl true)) : oIsi [.lst ds, .ty "list"] F := w_isi rfl (by decide +kernel) h
end
def hgt (line some : List Str) : Int := line.foldl (fun a z => 2 * a + (if z ∈ some then 1 else 0)) 0
/-- line is a line of the order -/
structure LineP (ls : List Str) (ps : List Pr) (line : List Str) : Prop where
  pm : line.Perm ls
  free : ∀ i z, line[i]? = some z → freeB ps z (line.take i) = true
theorem GL.line {ls : List Str} {ps : List Pr} {xs line : List Str} (g : GL ls ps xs line) (ok : OrdOk ls ps) (hl : line.length = ls.length) : LineP ls ps line := by
  refine ⟨?_, g.free⟩
  refine (List.perm_ext_iff_of_nodup g.nd ok.nd).mpr fun z => ⟨g.mem z, fun hz => ?_⟩
  by_cases c : z ∈ line
  · exact c
  · have h1 := nodup_le (l := z :: line) (m := ls) (List.nodup_cons.mpr ⟨c, g.nd⟩) (fun u hu => by
      rcases List.mem_cons.mp hu with rfl | hu
      · exact hz
      · exact g.mem u hu)
    rw [List.length_cons] at h1
    omega
end L3
namespace L3
open PySem PySem.Spec PyProof.Rows L2 TB LamX
open C8 (Cal Met Mak)
section
variable {X : Sx} {K : PySem.W.Frag}
theorem RVL.app {c : Ct} {F : Hp} {σ : L2.St} : ∀ {rs ss : List Rv} {vs ws : List V}, RVL c F σ rs vs → RVL c F σ ss ws → RVL c F σ (rs ++ ss) (vs ++ ws)
  | [], ss, vs, ws, h, k => by
    obtain rfl : vs = [] := h
    exact k
  | r :: rs, ss, vs, ws, h, k => by
    obtain ⟨v, t, rfl, q, z⟩ := h
    exact ⟨v, t ++ ws, rfl, q, RVL.app z k⟩
/-- the end of a call -/
theorem call_end {c : Ct} {σ : L2.St} {F1 H1 F : Hp} {ρ1 : PSt} {P : PSp} {rs : List Rv} {vs : List V} {ds : List D} {Q : VK} {E : XK} {Q3 : Rv → PSt → Prop} (R1 : Rel c F1 H1 σ ρ1) (s1 : Same F F1) (rv : RVL c F1 σ rs vs) (e : rdL ρ1 rs = some ds)
    (hq : ∀ r ρ' v F' H', Rel c F' H' σ ρ' → Same F F' → RV c F' σ r v → Q3 r ρ' → Q v H') (q1 : P ds fun r _ => resOk (rs.any isCell) r fun d => Q3 (.val d) ρ1) : lsp c.X none P vs H1 Q E := by
  by_cases nc : rs.any isCell = false
  · refine ⟨F1, ds, _, enterV R1 rv e nc, q1, ?_⟩
    intro r out v F' H' ex q
    have R2 := Step.own ex.step R1
    match r, ex.res, q with
    | .val d, rx, ⟨_, q⟩ => exact hq (.val d) ρ1 v F' H' R2 (tr s1 ex.step.fr) rx q
    | .new es, ⟨p, ws, ev, hF, hn, hp, hr⟩, ⟨_, q⟩ =>
      subst ev
      obtain ⟨vs2, R3, s3, r3⟩ := (new_of R1 R2 hn hp hF hr).keep R2
      exact hq (.val (.lst es)) ρ1 _ _ H' R3 (tr (tr s1 ex.step.fr) s3) r3 q
  · refine ⟨_, ds, _, enter R1 rv e, q1, ?_⟩
    intro r out v F' H' ex q
    have R2 := Step.back ex.step R1
    match r, ex.res, q with
    | .val d, rx, ⟨fl, q⟩ => exact hq (.val d) ρ1 v F1 H' R2 s1 (Rp.flat (fl.resolve_left nc) rx) q
    | .new es, ⟨p, ws, ev, hF, hn, hp, hr⟩, ⟨fl, q⟩ =>
      subst ev
      obtain ⟨vs2, R3, s3, r3⟩ := (new_of R1 R2 hn hp (R1.fnone hn) (RpL.flat (fl.resolve_left nc) hr)).keep R2
      exact hq (.val (.lst es)) ρ1 _ _ H' R3 (tr s1 s3) r3 q
/-- a call with one default, known everywhere -/
def qCallD (d0 : D) (P : PSp) (pa : QA) : QE := fun ρ Q => pa ρ fun rs ρ1 => some1 (fun ds => P ds fun r _ => resOk ((rs ++ [Rv.val d0]).any isCell) r fun d => Q (.val d) ρ1) (rdL ρ1 (rs ++ [Rv.val d0]))
theorem li_callD {P : PSp} {ta : TA} {pa : QA} {E : XK} {v0 : V} {d0 : D} (hd : ∀ F, Rp X.K F d0 v0) (h1 : LiA X ta pa) : LiE X (tCall (lsp X none P) [v0] E ta) (qCallD d0 P pa) := by
  intro c hX σ F H ρ Q Q3 R hq h
  subst hX
  refine h1 c rfl σ F H ρ _ _ R ?_ h
  intro rs ρ1 vs F1 H1 R1 s1 rv q1
  cases e : rdL ρ1 (rs ++ [Rv.val d0]) with
  | none => rw [e] at q1; exact q1.elim
  | some ds =>
    rw [e] at q1
    exact call_end R1 s1 (RVL.app (ss := [Rv.val d0]) (ws := [v0]) rv ⟨v0, [], rfl, hd F1, rfl⟩) e hq q1
def isNon : D → Bool
  | .non => true
  | _ => false
def knownN : D → Bool
  | .op _ => false
  | _ => true
def oIsN (neg : Bool) : O2 := fun dx dy Q => dy = .non ∧ knownN dx = true ∧ Q (.bl (if neg then !isNon dx else isNon dx))
theorem isNon_ok {K : PySem.W.Frag} {F H : Hp} {d : D} {v : V} (k : knownN d = true) (h : Rn K F H d v) : decide (v = .non) = isNon d := by
  cases d with
  | non => obtain rfl : v = .non := h; rfl
  | bl b => obtain rfl : v = .bl b := h; rfl
  | int b => obtain rfl : v = .int b := h; rfl
  | str b => obtain rfl : v = .str b := h; rfl
  | ty b => obtain rfl : v = .ty b := h; rfl
  | lst ds => obtain ⟨a, vs, rfl, _⟩ := h; rfl
  | tup ds => obtain ⟨a, vs, rfl, _⟩ := h; rfl
  | ins C ns ds => obtain ⟨a, dx, vs, rfl, _⟩ := h; rfl
  | dic ks ds => obtain ⟨a, vs, rfl, _⟩ := h; rfl
  | op p => exact nomatch k
theorem lr_isN : LiR X (fun x y H Q => y = .non ∧ Q (.bl (decide (x = .non))) H) (oIsN false) := by
  intro c hX σ F H ρ x y dx dy Q Q3 R rx ry hq h
  obtain ⟨rfl, k, h⟩ := h
  refine ⟨ry, ?_⟩
  rw [isNon_ok k rx]
  exact hq (.bl _) _ F H R (Same.refl F) rfl h
theorem w_isN {d : D} {F : D → Prop} (k : knownN d = true) (h : F (.bl (isNon d))) : oIsN false d .non F := ⟨rfl, k, h⟩
def rInD (K : PySem.W.Frag) (neg : Bool) : R2 := fun x y H Q => ∃ a ds, Dp K H x a ∧ (Dp K H y (.list ds) ∨ Dp K H y (.tuple ds)) ∧ PyData.canLayAll0 ds = true ∧ a.canLay0 = true ∧ a.depth ≤ 60 ∧ Q (.bl (if neg then !ds.any fun z => PyData.eqv z a else ds.any fun z => PyData.eqv z a)) H
def oInD (neg : Bool) : O2 := fun dx dy Q => ∃ a ds, pd dx = some a ∧ (pd dy = some (.list ds) ∨ pd dy = some (.tuple ds)) ∧ PyData.canLayAll0 ds = true ∧ a.canLay0 = true ∧ a.depth ≤ 60 ∧ Q (.bl (if neg then !ds.any fun z => PyData.eqv z a else ds.any fun z => PyData.eqv z a))
theorem lr_inD (neg : Bool) (hK : X.K = K := by rfl) : LiR X (rInD K neg) (oInD neg) := by
  subst hK
  intro c hX σ F H ρ x y dx dy Q Q3 R rx ry hq h
  subst hX
  obtain ⟨a, ds, e1, e2, l1, l2, l3, q⟩ := h
  exact ⟨a, ds, pd_rn R.sub rx e1, e2.elim (fun e => Or.inl (pd_rn R.sub ry e)) fun e => Or.inr (pd_rn R.sub ry e), l1, l2, l3, hq (.bl _) _ F H R (Same.refl F) rfl q⟩
def scrD (K : PySem.W.Frag) (ns : List Int) : D := .op ⟨fun F v => ∃ a, v = .ref a ∧ SqL K F a (ns.map V.int), fun s h => by
  obtain ⟨a, e, h⟩ := h
  exact ⟨a, e, sqL_mono s h⟩⟩
end
end L3
namespace OwnE
open PySem PySem.W
open Builtin
section
variable {prog : Program} {w : World} {A : Around} {E : Value → Shared → Prop} {s : Shared} {K : Frag} {x C L f : Addr} {ox : Obj} {od : Option Obj} {b tb : Value}
theorem objNe_own {Q : Fin → Shared → Prop} (X : K.In s.heap) (I : InstAt s.heap x ox C od) (he : findIn K (.ref C) "__eq__" = some (some (.ref f))) (hf : isFn K (.ref f) = true) (hu : A.units < cLine)
    (h : wpAny (model prog w) A (call (.ref f) [.ref x, b]) (fun v s' => ∃ r, v = .bool r ∧ Q (.done (.ret (.bool (!r)))) s') E s) : wpAny (model prog w) A (Builtin.«object.__ne__» ⟨[.ref x, b], []⟩) Q E s := by
  unfold Builtin.«object.__ne__»
  repeat (first
    | with_reducible refine wpAny_cRoomFor hu ?_
    | (refine wpAny_bind (m := callSpecialIfBound? (.ref x) (Str.ofString "__eq__") [b])
        (ifBound_K X I he hf (wpAny_mono h (fun r s' hr => by
          obtain ⟨b, rfl, hq⟩ := hr
          repeat (first | exact hq | exact wpAny_pure hq | exact wpAny_truthy_bool hq | (refine wpAny_bind (m := truthy (.bool _)) (wpAny_truthy_bool ?_)) | wp_step)) fun _ _ e => e)))
    | wp_step)
theorem ifBound_ne {Q : Option Value → Shared → Prop} (X : K.In s.heap) (I : InstAt s.heap x ox C od) (hs : findIn K (.ref C) "__ne__" = some (some (.builtin "object.__ne__"))) (hob : subIn K (.ref C) (.type "object") = some true)
    (he : findIn K (.ref C) "__eq__" = some (some (.ref f))) (hf : isFn K (.ref f) = true) (hu : A.units + 1 < cLine)
    (h : wpAny (model prog w) A.in1 (call (.ref f) [.ref x, b]) (fun v s' => ∃ r, v = .bool r ∧ Q (some (.bool (!r))) s') E s) : wpAny (model prog w) A (callSpecialIfBound? (.ref x) "__ne__" [b]) Q E s := by
  simp only [callSpecialIfBound?, bindSpecialIfBound?]
  refine wpAny_holding (wpAny_bind (wpAny_bind (wpAny_bind (I.type.here ((looks_findIn X hs).here ?_)))))
  simp only [F.cmp_object.ne.bind]
  refine wpAny_bind (wpAny_askSetting (wpAny_ite ?_))
  have fin : wpAny (model prog w) A (call (.builtin "object.__ne__") ([.ref x] ++ [b]) >>= fun v => pure (some v)) Q E s := by
    refine wpAny_bind (wpAny_call (codeAny_call_builtin F.cmp_object.ne.plain F.cmpEntry_ne (@check_slot (model prog w) _ _ s "object.__ne__" "object" "__ne__" (.ref x) [b] [] _ F.cmpKind_ne F.cmpSplit_ne (I.type.andThen (looks_subIn X hob)) (F.cmpArgs_ne _ _) ?_)))
    refine objNe_own (A := A.in1) X I he hf hu (wpAny_mono h (fun v s' z => ?_) fun _ _ e => e)
    obtain ⟨r, rfl, q⟩ := z
    exact ⟨r, rfl, wpAny_pure q⟩
  split
  · exact wpAny_bind (wpAny_pure (wpAny_pure fin))
  · exact wpAny_tryCatch (wpAny_bind (wpAny_pure (wpAny_pure fin)))
theorem ne_own {Q : Value → Shared → Prop} (hu : A.units + 1 < cLine) (X : K.In s.heap) (I : InstAt s.heap x ox C od) (hb : Looks (model prog w) s.heap (typeOf b) tb) (hn : notFirst K C tb = true) (hs : findIn K (.ref C) "__ne__" = some (some (.builtin "object.__ne__"))) (hob : subIn K (.ref C) (.type "object") = some true)
    (he : findIn K (.ref C) "__eq__" = some (some (.ref f))) (hf : isFn K (.ref f) = true)
    (h : wpAny (model prog w) A.in1 (call (.ref f) [.ref x, b]) (fun v s' => ∃ r, v = .bool r ∧ Q (.bool (!r)) s') E s) : wpAny (model prog w) A (richCompare .NotEq (.ref x) b) Q E s := by
  have one : wpAny (model prog w) A (tryCompare (.ref x) (cmpInfo .NotEq).2.1 b) (fun r s' => ∃ v, r = some v ∧ Q v s') E s := by
    unfold tryCompare
    refine wpAny_bind (ifBound_ne X I hs hob he hf hu (wpAny_mono h (fun v s' hv => ?_) fun _ _ e => e))
    obtain ⟨r, rfl, q⟩ := hv
    exact ⟨r, rfl, wpAny_pure ⟨_, rfl, q⟩⟩
  unfold richCompare
  simp only [oneThing_ref]
  refine wpAny_holding (wpAny_bind (wpAny_cRoomFor (Nat.lt_of_succ_lt hu) ?_))
  refine wpAny_bind (I.type.here (wpAny_bind (hb.here ?_)))
  split
  · rename_i q
    have e : subIn K tb (.ref C) = some false := by
      rcases Bool.or_eq_true_iff.mp hn with e | e
      · rw [beq_iff_eq.mp e] at q; simp at q
      · exact beq_iff_eq.mp e
    refine wpAny_bind ((looks_subIn X e).here ?_)
    simp only [Bool.false_eq_true, if_false]
    refine wpAny_bind (wpAny_mono one (fun r s' z => ?_) fun _ _ e => e)
    obtain ⟨v, rfl, hq⟩ := z
    exact wpAny_pure hq
  · refine wpAny_bind (wpAny_pure ?_)
    simp only [Bool.false_eq_true, if_false]
    refine wpAny_bind (wpAny_mono one (fun r s' z => ?_) fun _ _ e => e)
    obtain ⟨v, rfl, hq⟩ := z
    exact wpAny_pure hq
/-- a thing of a built-in type ahead of the instance: it declines, the instance answers -/
theorem rc_back {op : CmpOp} {a : Value} {T id : String} {Q : Value → Shared → Prop} (hu : A.units < cLine) (X : K.In s.heap) (I : InstAt s.heap x ox C od) (ha : s.TypeIs a T) (hsub : subIn K (.ref C) (.type T) = some false) (h1 : Slot T (cmpInfo op).2.1 id)
    (hc1 : ∀ Q' : Value → Shared → Prop, Q' .notImplemented s → wpAny (model prog w) A (call (.builtin id) [a, .ref x]) Q' E s)
    (h : wpAny (model prog w) A (tryCompare (.ref x) (cmpInfo op).2.2 a) (fun r s' => ∃ v, r = some v ∧ Q v s') E s) : wpAny (model prog w) A (richCompare op a (.ref x)) Q E s := by
  rcases hi : cmpInfo op with ⟨sym, f, r⟩
  rw [hi] at h1 h
  simp only [richCompare, hi, ha.oneThing_none]
  try with_reducible refine wpAny_holding ?_
  refine wpAny_bind (wpAny_cRoomFor_or (.inr hu) ?_)
  refine wpAny_bind (wpAny_typeOf ha (wpAny_bind (I.type.here ?_)))
  have hne : (Value.type T != Value.ref C) = true := by simp
  simp only [hne, if_true]
  refine wpAny_bind ((looks_subIn X hsub).here ?_)
  simp only [Bool.false_eq_true, if_false, Bool.not_false, if_true]
  refine wpAny_bind (m := tryCompare a _ (.ref x)) (wpAny_tryCompare_declines ha h1 (hc1 _ ⟨rfl, ?_⟩))
  refine wpAny_bind (m := tryCompare (.ref x) _ a) (wpAny_mono h (fun r s' z => ?_) fun _ _ e => e)
  obtain ⟨v, rfl, q⟩ := z
  exact wpAny_pure q
theorem ne_back {a : Value} {T id : String} {Q : Value → Shared → Prop} (hu : A.units + 1 < cLine) (X : K.In s.heap) (I : InstAt s.heap x ox C od) (ha : s.TypeIs a T) (hsub : subIn K (.ref C) (.type T) = some false) (h1 : Slot T (cmpInfo .NotEq).2.1 id)
    (hc1 : ∀ Q' : Value → Shared → Prop, Q' .notImplemented s → wpAny (model prog w) A (call (.builtin id) [a, .ref x]) Q' E s) (hs : findIn K (.ref C) "__ne__" = some (some (.builtin "object.__ne__"))) (hob : subIn K (.ref C) (.type "object") = some true) (he : findIn K (.ref C) "__eq__" = some (some (.ref f))) (hf : isFn K (.ref f) = true)
    (h : wpAny (model prog w) A.in1 (call (.ref f) [.ref x, a]) (fun v s' => ∃ r, v = .bool r ∧ Q (.bool (!r)) s') E s) : wpAny (model prog w) A (richCompare .NotEq a (.ref x)) Q E s := by
  refine rc_back (Nat.lt_of_succ_lt hu) X I ha hsub h1 hc1 ?_
  unfold tryCompare
  refine wpAny_bind (ifBound_ne X I hs hob he hf hu (wpAny_mono h (fun v s' hv => ?_) fun _ _ e => e))
  obtain ⟨r, rfl, q⟩ := hv
  exact ⟨r, rfl, wpAny_pure ⟨_, rfl, q⟩⟩
end
open AutoSeq1 (wpAny_loadPart')
theorem tuple_ne_ins (l x : Addr) (items : Array Value) (n : Nat) (dd : Option Addr) (sl : Array (Option Value)) :
    Meets (Builtin.«tuple.__ne__» ⟨[.ref l, .ref x], []⟩) (fun A R s => s.heap.get? l = some { cls := .type "tuple", dict := dd, data := .seq items n, slots := sl } ∧ (∀ M : Model, Looks M s.heap (isInstance (.ref x) (.type "tuple")) false) ∧ R (.ok (.ret .notImplemented)) s) :=
  .of_wp fun prog w A R s h => by obtain ⟨hp, g, d, tk, os⟩ := s; obtain ⟨hl, hx, h⟩ := h; wp_walk using wpAny_loadPart' hl, Looks.here (hx _); exact ⟨_, rfl, h⟩
theorem list_ne_ins (l x : Addr) (items : Array Value) (n : Nat) (dd : Option Addr) (sl : Array (Option Value)) :
    Meets (Builtin.«list.__ne__» ⟨[.ref l, .ref x], []⟩) (fun A R s => s.heap.get? l = some { cls := .type "list", dict := dd, data := .seq items n, slots := sl } ∧ (∀ M : Model, Looks M s.heap (isInstance (.ref x) (.type "list")) false) ∧ R (.ok (.ret .notImplemented)) s) :=
  .of_wp fun prog w A R s h => by obtain ⟨hp, g, d, tk, os⟩ := s; obtain ⟨hl, hx, h⟩ := h; wp_walk using wpAny_loadPart' hl, Looks.here (hx _); exact ⟨_, rfl, h⟩
theorem int_ne_ins (b : Int) (u : Tok) (x C dx : Addr) :
    Meets (Builtin.«int.__ne__» ⟨[.int b u, .ref x], []⟩) (fun _ R s => s.heap.get? x = some (instObj C dx) ∧ R (.ok (.ret .notImplemented)) s) :=
  .of_wp fun prog w A R s h => by obtain ⟨hp, g, d, tk, os⟩ := s; obtain ⟨hl, h⟩ := h; unfold instObj at hl; wp_walk using wpAny_loadPart' hl, wpAny_load hl; exact ⟨_, rfl, h⟩
theorem str_ne_ins (b : Str) (u : Tok) (x C dx : Addr) :
    Meets (Builtin.«str.__ne__» ⟨[.str b u, .ref x], []⟩) (fun _ R s => s.heap.get? x = some (instObj C dx) ∧ R (.ok (.ret .notImplemented)) s) :=
  .of_wp fun prog w A R s h => by obtain ⟨hp, g, d, tk, os⟩ := s; obtain ⟨hl, h⟩ := h; unfold instObj at hl; wp_walk using wpAny_loadPart' hl, wpAny_load hl; exact ⟨_, rfl, h⟩
theorem bool_ne_ins (b : Bool) (x C dx : Addr) :
    Meets (Builtin.«int.__ne__» ⟨[.bool b, .ref x], []⟩) (fun _ R s => s.heap.get? x = some (instObj C dx) ∧ R (.ok (.ret .notImplemented)) s) :=
  .of_wp fun prog w A R s h => by obtain ⟨hp, g, d, tk, os⟩ := s; obtain ⟨hl, h⟩ := h; unfold instObj at hl; wp_walk using wpAny_loadPart' hl, wpAny_load hl; exact ⟨_, rfl, h⟩
end OwnE
namespace OwnE
open PySem PySem.Spec PyProof.Rows L2
/-- plain things that are no instances -/
def OthV (K : PySem.W.Frag) (H : Hp) : V → Prop
  | .non => True
  | .bl _ => True
  | .int _ => True
  | .str _ => True
  | .ref a => (∃ xs, H a = some (.lst xs)) ∨ ∃ xs, SqT K H a xs
  | _ => False
def tys : List String := ["NoneType", "bool", "int", "str", "list", "tuple"]
/-- the class at C has an own == and no own != -/
structure EqCls (K : PySem.W.Frag) (C f : Addr) : Prop where
  eq : PySem.W.findIn K (.ref C) "__eq__" = some (some (.ref f))
  fn : PySem.W.isFn K (.ref f) = true
  ne : PySem.W.findIn K (.ref C) "__ne__" = some (some (.builtin "object.__ne__"))
  ob : PySem.W.subIn K (.ref C) (.type "object") = some true
  no : ∀ T ∈ tys, PySem.W.subIn K (.ref C) (.type T) = some false
  nf : ∀ T ∈ tys, PySem.W.notFirst K C (.type T) = true
section
variable {X : Cx} {pins : List (Addr × Obj)} {σ : L2.St} {H : Hp} {s : Shared} {A : Around} {E : Value → Shared → Prop} {C f a dx : Addr} {od : Option Obj} {x : V} {u : Value}
theorem oth_type (I : Inv X pins σ H s) (o : OthV X.K H x) (rx : RelV x u) : ∃ T ∈ tys, s.TypeIs u T := by
  cases x with
  | non => cases (show u = Value.none from rx); exact ⟨"NoneType", by decide, rfl⟩
  | bl i => cases (show u = Value.bool i from rx); exact ⟨"bool", by decide, rfl⟩
  | int i => obtain ⟨t, q⟩ := (show ∃ t, u = Value.int i t from rx); cases q; exact ⟨"int", by decide, rfl⟩
  | str i => obtain ⟨t, q⟩ := (show ∃ t, u = Value.str i t from rx); cases q; exact ⟨"str", by decide, rfl⟩
  | ref b =>
    cases (show u = Value.ref b from rx)
    rcases o with ⟨xs, h⟩ | ⟨xs, h⟩
    · obtain ⟨_, its, k, _, e⟩ := (show ObjOk X.prog X.w H s.heap b (.lst xs) from I.hok b _ h)
      exact ⟨"list", by decide, _, e, rfl⟩
    · obtain ⟨its, r, ⟨o, h1, h2, _⟩, z⟩ := I.tuple h
      exact ⟨"tuple", by decide, o, h1, h2⟩
  | _ => exact o.elim
theorem looks_of {M : Model} {T : String} (h : s.TypeIs u T) : PySem.W.Looks M s.heap (typeOf u) (.type T) := by
  cases u with
  | ref b =>
    obtain ⟨o, h1, h2⟩ := h
    exact h2 ▸ (PySem.W.Looks.ld h1).andThen .now
  | _ => exact PySem.W.Looks.of_pure h
theorem oth_ne (c : EqCls X.K C f) (hu : A.units + 1 < cLine) (I : Inv X pins σ H s) (o : OthV X.K H x) (rx : RelV x u) (J : PySem.W.InstAt s.heap a (PySem.W.instObj C dx) C od) {Q : Value → Shared → Prop}
    (h : wpAny (model X.prog X.w) A.in1 (call (.ref f) [.ref a, u]) (fun v s' => ∃ r, v = .bool r ∧ Q (.bool (!r)) s') E s) : wpAny (model X.prog X.w) A (richCompare .NotEq u (.ref a)) Q E s := by
  have k := I.kIn
  cases x with
  | non =>
    cases (show u = Value.none from rx)
    exact ne_back (T := "NoneType") hu k J rfl (c.no _ (by decide)) F.slot_NoneType_ne (fun _ hq => call_gives F.slot_NoneType_ne rfl F.entry_NoneType_ne (F.args_NoneType_ne_2 _ _) (SeqAt.NoneType___ne___none_ref_0 a) hq) c.ne c.ob c.eq c.fn h
  | bl i =>
    cases (show u = Value.bool i from rx)
    exact ne_back (T := "bool") hu k J rfl (c.no _ (by decide)) F.slot_bool_ne (fun _ hq => call_meets F.slot_bool_ne rfl F.entry_int_ne (F.args_int_ne_2 _ _) (bool_ne_ins i a C dx) ⟨J.at_, hq⟩) c.ne c.ob c.eq c.fn h
  | int i =>
    obtain ⟨t, q⟩ := (show ∃ t, u = Value.int i t from rx); cases q
    exact ne_back (T := "int") hu k J rfl (c.no _ (by decide)) F.slot_int_ne (fun _ hq => call_meets F.slot_int_ne (typeIs_int s i t) F.entry_int_ne (F.args_int_ne_2 _ _) (int_ne_ins i t a C dx) ⟨J.at_, hq⟩) c.ne c.ob c.eq c.fn h
  | str i =>
    obtain ⟨t, q⟩ := (show ∃ t, u = Value.str i t from rx); cases q
    exact ne_back (T := "str") hu k J rfl (c.no _ (by decide)) F.slot_str_ne (fun _ hq => call_meets F.slot_str_ne (typeIs_str s i t) F.entry_str_ne (F.args_str_ne_2 _ _) (str_ne_ins i t a C dx) ⟨J.at_, hq⟩) c.ne c.ob c.eq c.fn h
  | ref b =>
    cases (show u = Value.ref b from rx)
    rcases o with ⟨xs, o⟩ | ⟨xs, o⟩
    · obtain ⟨_, its, n, _, e⟩ := (show ObjOk X.prog X.w H s.heap b (.lst xs) from I.hok b _ o)
      exact ne_back (T := "list") hu k J ⟨_, e, rfl⟩ (c.no _ (by decide)) F.slot_list_ne (fun _ hq => call_meets F.slot_list_ne ⟨_, e, rfl⟩ F.entry_list_ne (F.args_list_ne_2 _ _) (list_ne_ins b a _ n _ _) ⟨e, fun M => J.type.andThen (PySem.W.looks_subIn k (c.no _ (by decide))), hq⟩) c.ne c.ob c.eq c.fn h
    · obtain ⟨its, r, ⟨⟨oc, odi, oda, osl⟩, h1, h2, n, h3⟩, z⟩ := I.tuple o
      simp only at h2 h3
      subst h2 h3
      exact ne_back (T := "tuple") hu k J ⟨_, h1, rfl⟩ (c.no _ (by decide)) F.slot_tuple_ne (fun _ hq => call_meets F.slot_tuple_ne ⟨_, h1, rfl⟩ F.entry_tuple_ne (F.args_tuple_ne_2 _ _) (tuple_ne_ins b a _ n _ _) ⟨h1, fun M => J.type.andThen (PySem.W.looks_subIn k (c.no _ (by decide))), hq⟩) c.ne c.ob c.eq c.fn h
  | _ => exact o.elim
/-- the own == called -/
theorem call_own {CX : CXT} {n : Nat} {fd : FuncData} {ps : List Str} {sp : Sp} {Ex : XK} {y : V} {v : Value} {Q : VK} (F : FnOk X.prog X.w X.K X.mg X.base CX n f fd ps sp) (hb : Binds X.K fd ps []) (hx : Passes CX X Ex) (sb : Sub X n A) (I : Inv X pins σ H s) (rx : RelV x u) (ry : RelV y v)
    (h : sp [x, y] H Q Ex) : wpAny (model X.prog X.w) A (call (.ref f) [u, v]) (fun r s' => ∃ z H', Inv X pins σ H' s' ∧ RelV z r ∧ Q z H') X.xe s := by
  have e0 : Env0 X.prog X.w X.K X.mg X.base A X.stack s H := by
    have e := I.env0
    exact ⟨by rw [sb.fr]; exact e.frames, e.mod, e.bs, e.bsz, e.funs, e.frf, e.hok, e.bare⟩
  have hl := F.len _ _ _ _ h
  have r2 : Vals [x, y] [u, v] := .cons rx (.cons ry .nil)
  refine wpAny_call (codeAny_mono (F.run A X.stack s H ⟨[u, v], []⟩ [u, v] [x, y] _ Ex sb.room e0 (by
    have := hb s [u, v] I.kIn (by simpa using hl)
    simpa using this) r2 h) fun r s' hq => ?_)
  cases r with
  | error e => exact hx pins σ H s e s' I hq
  | ok fl =>
    cases fl with
    | ret w =>
      obtain ⟨z, H', I', rz, q⟩ := I.after hq
      exact ⟨z, H', I', rz, q⟩
    | next => exact False.elim hq
    | brk => exact False.elim hq
    | cont => exact False.elim hq
end
structure EqOwn (P : Program) (w : World) (K : PySem.W.Frag) (mg : Str → Option Value) (base : Heap) (k : Nat) (C : Addr) (sp : Sp) : Prop where
  ex : ∃ (f : Addr) (fd : FuncData) (ps : List Str), EqCls K C f ∧ FnOk P w K mg base C8.CX0 k f fd ps sp ∧ Binds K fd ps []
def rOwn (K : PySem.W.Frag) (C : Addr) (neg : Bool) (sp : Sp) : R2 := fun x y H Q =>
  (∃ a dx fs, x = .ref a ∧ H a = some (.ins C dx fs) ∧ ((∃ b dy gs, y = .ref b ∧ H b = some (.ins C dy gs)) ∨ OthV K H y) ∧ sp [x, y] H (fun v H' => ∃ r, v = .bl r ∧ Q (.bl (if neg then !r else r)) H') C8.E0) ∨
  (∃ a dx fs, y = .ref a ∧ H a = some (.ins C dx fs) ∧ OthV K H x ∧ sp [y, x] H (fun v H' => ∃ r, v = .bl r ∧ Q (.bl (if neg then !r else r)) H') C8.E0)
section
variable {X : Cx} {k : Nat} {C : Addr} {sp : Sp}
theorem op_neOwn (c : EqOwn X.prog X.w X.K X.mg X.base k C sp) (hr : Room (k + 1) X.A) : OpR X (compareOp .NotEq) (rOwn X.K C true sp) := by
  intro pins s σ H x y v u Q I rx ry h
  obtain ⟨f, fd, ps, c, F, hb⟩ := c.ex
  have sb : Sub X k X.A.in1 := Sub.in1 ⟨hr, rfl⟩
  show wpAny (model X.prog X.w) X.A (richCompare .NotEq v u) (EP X pins σ Q) X.xe s
  rcases h with ⟨a, dx, fs, rfl, ha, o, h⟩ | ⟨a, dx, fs, rfl, ha, o, h⟩
  · cases (show v = Value.ref a from rx)
    obtain ⟨mA, J, _⟩ := ins_get I.hok ha
    obtain ⟨od, J, _⟩ := J.look
    have go : wpAny (model X.prog X.w) X.A.in1 (call (.ref f) [.ref a, u]) (fun v s' => ∃ r, v = .bool r ∧ EP X pins σ Q (.bool (!r)) s') X.xe s := by
      refine wpAny_mono (call_own F hb C8.pass0 sb I (x := .ref a) rfl ry h) (fun r s' z => ?_) fun _ _ e => e
      obtain ⟨z, H', I', rz, b, rfl, q⟩ := z
      cases rz
      exact ⟨b, rfl, .bl (!b), H', I', rfl, q⟩
    rcases o with ⟨b, dy, gs, rfl, hb'⟩ | o
    · cases (show u = Value.ref b from ry)
      obtain ⟨mB, J', _⟩ := ins_get I.hok hb'
      obtain ⟨od', J', _⟩ := J'.look
      exact ne_own sb.room.units0 I.kIn J J'.type (by simp [PySem.W.notFirst]) c.ne c.ob c.eq c.fn go
    · obtain ⟨T, hT, t⟩ := oth_type I o ry
      exact ne_own sb.room.units0 I.kIn J (looks_of t) (c.nf T hT) c.ne c.ob c.eq c.fn go
  · cases (show u = Value.ref a from ry)
    obtain ⟨mA, J, _⟩ := ins_get I.hok ha
    obtain ⟨od, J, _⟩ := J.look
    refine oth_ne c sb.room.units0 I o rx J (wpAny_mono (call_own F hb C8.pass0 sb I (x := .ref a) rfl rx h) (fun r s' z => ?_) fun _ _ e => e)
    obtain ⟨z, H', I', rz, b, rfl, q⟩ := z
    cases rz
    exact ⟨b, rfl, .bl (!b), H', I', rfl, q⟩
theorem kNeOwn (K : PySem.W.Frag) {j : Nat} (c : EqOwn X.prog X.w X.K X.mg X.base k C sp) (hr : Room j X.A) (hk : k + 1 ≤ j) (hK : X.K = K := by rfl) : OpR X (compareOp .NotEq) (rOwn K C true sp) := by subst hK; exact op_neOwn c (hr.mono hk)
end
end OwnE
namespace HT
open PySem PySem.Spec PyProof.Rows
open PySem.SeqAt
end HT
namespace L2
open PySem PySem.Spec PyProof.Rows HT
end L2
namespace L3
open PySem PySem.Spec PyProof.Rows L2 TB LamX OwnE
open C8 (Cal Met Mak)
def othD : D → Bool
  | .non => true
  | .bl _ => true
  | .int _ => true
  | .str _ => true
  | .lst _ => true
  | .tup _ => true
  | _ => false
section
variable {X : Sx} {K : PySem.W.Frag}
theorem oth_ok {K : PySem.W.Frag} {F H : Hp} (s : Same F H) {d : D} {v : V} (h : Rn K F H d v) (e : othD d = true) : OthV K H v := by
  cases d with
  | non => obtain rfl : v = .non := h; trivial
  | bl b => obtain rfl : v = .bl b := h; trivial
  | int i => obtain rfl : v = .int i := h; trivial
  | str i => obtain rfl : v = .str i := h; trivial
  | lst ds => obtain ⟨a, vs, rfl, q, _⟩ := h; exact Or.inl ⟨vs, q⟩
  | tup ds => obtain ⟨a, vs, rfl, q, _⟩ := h; exact Or.inr ⟨vs, sqT_mono s q⟩
  | _ => exact nomatch e
def oOwn (C : Addr) (neg : Bool) (P : PSp) (c1 c2 : Bool) (dx dy : D) (Q : Bool → Prop) : Prop :=
  ((∃ ns es, dx = .ins C ns es) ∧ ((∃ ns es, dy = .ins C ns es) ∨ othD dy = true) ∧ P [dx, dy] fun r _ => resOk c1 r fun d => ∃ b, Rv.val d = .val (.bl b) ∧ Q (if neg then !b else b)) ∨
  ((∃ ns es, dy = .ins C ns es) ∧ othD dx = true ∧ P [dy, dx] fun r _ => resOk c2 r fun d => ∃ b, Rv.val d = .val (.bl b) ∧ Q (if neg then !b else b))
def qOwn (C : Addr) (neg : Bool) (P : PSp) (pa pb : QE) : QE := fun ρ Q => pa ρ fun x ρ1 => pb ρ1 fun y ρ2 => some2 (fun dx dy => oOwn C neg P ([x, y].any isCell) ([y, x].any isCell) dx dy fun b => Q (.val (.bl b)) ρ2) (rdR ρ2 x) (rdR ρ2 y)
theorem ins_at {K : PySem.W.Frag} {F H : Hp} (s : Same F H) {C : Addr} {ns : List Str} {es : List D} {v : V} (h : Rn K F H (.ins C ns es) v) : ∃ a dx fs, v = .ref a ∧ H a = some (.ins C dx fs) := by
  obtain ⟨a, dx, vs, rfl, q, _⟩ := h
  exact ⟨a, dx, _, rfl, s _ _ q⟩
theorem li_own {C : Addr} {neg : Bool} {P : PSp} {ta tb : TE} {pa pb : QE} (ha : LiE X ta pa) (hb : LiE X tb pb) (hK : X.K = K := by rfl) : LiE X (tOp (rOwn K C neg (lsp X none P)) ta tb) (qOwn C neg P pa pb) := by
  subst hK
  intro c hX σ F H ρ Q Q3 R hq h
  subst hX
  refine ha c rfl σ F H ρ _ _ R ?_ h
  intro x ρ1 v F1 H1 R1 s1 rv q1
  refine hb c rfl σ F1 H1 ρ1 _ _ R1 ?_ q1
  intro y ρ2 u F2 H2 R2 s2 ru q2
  cases e1 : rdR ρ2 x with
  | none => rw [e1] at q2; exact q2.elim
  | some dx =>
    cases e2 : rdR ρ2 y with
    | none => rw [e1, e2] at q2; exact q2.elim
    | some dy =>
      rw [e1, e2] at q2
      have rv2 := rv.mono s2
      have nx := RV.rn R2 rv2 e1
      have ny := RV.rn R2 ru e2
      have fin : ∀ (r : Rv) (ρ' : PSt) (z : V) (F' H' : Hp), Rel c F' H' σ ρ' → Same F2 F' → RV c F' σ r z → (∃ b, r = .val (.bl b) ∧ Q3 (.val (.bl (if neg then !b else b))) ρ') → ∃ b, z = .bl b ∧ Q (.bl (if neg then !b else b)) H' := by
        rintro r ρ' z F' H' R' s' rz ⟨b, rfl, q⟩
        obtain rfl : z = .bl b := rz
        exact ⟨b, rfl, hq (.val (.bl _)) ρ' _ F' H' R' (tr (tr s1 s2) s') rfl q⟩
      rcases q2 with ⟨⟨ns, es, rfl⟩, o, q⟩ | ⟨⟨ns, es, rfl⟩, o, q⟩
      · obtain ⟨a, dx, fs, rfl, hA⟩ := ins_at R2.sub nx
        refine Or.inl ⟨a, dx, fs, rfl, hA, ?_, ?_⟩
        · rcases o with ⟨ms, gs, rfl⟩ | o
          · obtain ⟨b, dy, gs, rfl, hB⟩ := ins_at R2.sub ny
            exact Or.inl ⟨b, dy, gs, rfl, hB⟩
          · exact Or.inr (oth_ok R2.sub ny o)
        · exact call_end (rs := [x, y]) (Q3 := fun r ρ' => ∃ b, r = .val (.bl b) ∧ Q3 (.val (.bl (if neg then !b else b))) ρ') R2 (Same.refl F2) ⟨_, _, rfl, rv2, _, _, rfl, ru, rfl⟩ (by
            show cons2 (rdR ρ2 x) (cons2 (rdR ρ2 y) (some [])) = _
            rw [e1, e2]
            rfl) fin q
      · obtain ⟨a, dy, fs, rfl, hA⟩ := ins_at R2.sub ny
        refine Or.inr ⟨a, dy, fs, rfl, hA, oth_ok R2.sub nx o, ?_⟩
        exact call_end (rs := [y, x]) (Q3 := fun r ρ' => ∃ b, r = .val (.bl b) ∧ Q3 (.val (.bl (if neg then !b else b))) ρ') R2 (Same.refl F2) ⟨_, _, rfl, ru, _, _, rfl, rv2, rfl⟩ (by
            show cons2 (rdR ρ2 y) (cons2 (rdR ρ2 x) (some [])) = _
            rw [e1, e2]
            rfl) fin q
theorem w_eqOwn {ρ : PSt} {Q : Rv → PSt → Prop} {C : Addr} {neg : Bool} {P : PSp} {pa pb : QE} (h : pa ρ fun x ρ1 => pb ρ1 fun y ρ2 => some2 (fun dx dy => oOwn C neg P ([x, y].any isCell) ([y, x].any isCell) dx dy fun b => Q (.val (.bl b)) ρ2) (rdR ρ2 x) (rdR ρ2 y)) : qOwn C neg P pa pb ρ Q := h
theorem w_eqOwn1 {C : Addr} {neg : Bool} {P : PSp} {c1 c2 : Bool} {ns : List Str} {es : List D} {dy : D} {Q : Bool → Prop} (o : (∃ ns es, dy = .ins C ns es) ∨ othD dy = true) (h : P [.ins C ns es, dy] fun r _ => resOk c1 r fun d => ∃ b, Rv.val d = .val (.bl b) ∧ Q (if neg then !b else b)) : oOwn C neg P c1 c2 (.ins C ns es) dy Q := Or.inl ⟨⟨ns, es, rfl⟩, o, h⟩
end
end L3
namespace L3
open PySem PySem.Spec PyProof.Rows L2 TB LamX OwnE
open C8 (Cal Met Mak)
section
variable {X : Sx} {K : PySem.W.Frag}
def qFld (C : Addr) (f : Str) (pe : QE) : QE := fun ρ Q => pe ρ fun r ρ1 => some1 (fun d => ∃ ns es e, d = .ins C ns es ∧ ns.length = es.length ∧ (ns.zip es).lookup f = some e ∧ Q (.val e) ρ1) (rdR ρ1 r)
theorem look_zip {F : Hp} {f : Str} : ∀ {ns : List Str} {es : List D} {vs : List V} {e : D}, ns.length = es.length → RpL K F es vs → (ns.zip es).lookup f = some e → ∃ v, (ns.zip vs).lookup f = some v ∧ Rp K F e v
  | [], es, vs, e, l, h, k => by
    rw [List.zip_nil_left] at k
    exact nomatch k
  | n :: ns, [], vs, e, l, h, k => nomatch l
  | n :: ns, d :: es, vs, e, l, h, k => by
    obtain ⟨v, t, rfl, q, z⟩ := h
    rw [List.zip_cons_cons, List.lookup_cons] at k ⊢
    cases hb : f == n with
    | true =>
      rw [hb] at k
      obtain rfl := Option.some.inj k
      exact ⟨v, rfl, q⟩
    | false =>
      rw [hb] at k
      exact look_zip (Nat.succ.inj l) z k
theorem li_fld {C : Addr} {f : Str} {te : TE} {pe : QE} (h1 : LiE X te pe) (hc : Cls X.K C) (hn : NoAttr X.K C f) (hK : X.K = K := by rfl) : LiE X (tFld K te f) (qFld C f pe) := by
  subst hK
  intro c hX σ F H ρ Q Q3 R hq h
  subst hX
  refine h1 c rfl σ F H ρ _ _ R ?_ h
  intro r ρ1 v F1 H1 R1 s1 rv q1
  cases e : rdR ρ1 r with
  | none => rw [e] at q1; exact q1.elim
  | some d =>
    rw [e] at q1
    obtain ⟨ns, es, e9, rfl, ln, lk, q⟩ := q1
    obtain ⟨a, dx, vs, rfl, ha, _, hr⟩ := RV.rn R1 rv e
    obtain ⟨u, hu, ru⟩ := look_zip ln hr lk
    exact ⟨a, C, dx, _, u, rfl, R1.sub _ _ ha, hc, hn, hu, hq (.val e9) ρ1 u F1 H1 R1 s1 ru q⟩
theorem w_fld {ρ : PSt} {C : Addr} {f : Str} {pe : QE} {Q : Rv → PSt → Prop} (h : pe ρ fun r ρ1 => some1 (fun d => ∃ ns es e, d = .ins C ns es ∧ ns.length = es.length ∧ (ns.zip es).lookup f = some e ∧ Q (.val e) ρ1) (rdR ρ1 r)) : qFld C f pe ρ Q := h
abbrev lifeD (C : Addr) (a b c d : D) : D := .ins C ["place", "hand", "drafts", "called"] [a, b, c, d]
theorem life_made {c : Ct} {F H : Hp} {σ : L2.St} {ρ : PSt} {C x dx : Addr} {v1 v2 v3 v4 : V} {a b e d : D} (R : Rel c F H σ ρ) (nx : H x = none) (ndx : H dx = none) (nxx : dx ≠ x) (h1 : Rp c.K F a v1) (h2 : Rp c.K F b v2) (h3 : Rp c.K F e v3) (h4 : Rp c.K F d v4) :
    ∃ F', Rel c F' (upd (upd (upd H dx (.own x)) x (.ins C dx [])) x (.ins C dx [("place", v1), ("hand", v2), ("drafts", v3), ("called", v4)])) σ ρ ∧ Same F F' ∧ Rp c.K F' (lifeD C a b e d) (.ref x) := by
  have ndx2 : upd H dx (.own x) x = none := by
    rw [upd_ne (fun z => nxx z.symm)]
    exact nx
  rw [upd_upd]
  have Ra := R.alloc (o := .own x) ndx trivial
  have Rb := Ra.alloc (o := .ins C dx [("place", v1), ("hand", v2), ("drafts", v3), ("called", v4)]) ndx2 trivial
  have fx : upd F dx (.own x) x = none := Ra.fnone ndx2
  have s2 : Same F (upd (upd F dx (.own x)) x (.ins C dx [("place", v1), ("hand", v2), ("drafts", v3), ("called", v4)])) := fun _ _ z => old_upd fx (old_upd (R.fnone ndx) z)
  refine ⟨_, Rb, s2, x, dx, [v1, v2, v3, v4], rfl, upd_same, ?_, _, _, rfl, h1.mono s2, _, _, rfl, h2.mono s2, _, _, rfl, h3.mono s2, _, _, rfl, h4.mono s2, rfl⟩
  exact old_upd fx upd_same
def qMkL (C : Addr) (g3 : List D → Option (List D)) (pk : QA) : QE := fun ρ Q => pk ρ fun rs ρ1 => ∃ ds a b c d, rs = ds.map Rv.val ∧ g3 ds = some [a, b, c, d] ∧ Q (.val (lifeD C a b c d)) ρ1
theorem rvl_vals {c : Ct} {F : Hp} {σ : L2.St} : ∀ {ds : List D} {vs : List V}, RVL c F σ (ds.map Rv.val) vs → RpL c.K F ds vs
  | [], vs, h => h
  | d :: ds, vs, h => by
    obtain ⟨v, t, rfl, q, z⟩ := h
    exact ⟨v, t, rfl, q, rvl_vals z⟩
theorem li_mkL {n : Nat} {C : Addr} {gV : List V → List V → List V} {E : XK} {tk : TA} {pk : QA} {g3 : List D → Option (List D)} (h1 : LiA X tk pk) (hn : ∀ ds e, g3 ds = some e → ds.length = n)
    (hg : ∀ (F : Hp) (x : V) (ds : List D) (zs : List V) (a b c d : D), RpL X.K F ds zs → g3 ds = some [a, b, c, d] → ∃ v1 v2 v3 v4, gV [x] zs = [x, v1, v2, v3, v4] ∧ Rp X.K F a v1 ∧ Rp X.K F b v2 ∧ Rp X.K F c v3 ∧ Rp X.K F d v4) : LiE X (tMakeK C 0 n (spLifeI C) gV E tNil tk) (qMkL C g3 pk) := by
  intro c hX σ F H ρ Q Q3 R hq h
  subst hX
  refine h1 c rfl σ F H ρ _ _ R ?_ h
  rintro rs ρ1 zs F1 H1 R1 s1 rv ⟨ds, a, b, e, d, rfl, hgd, q⟩
  have rl := rvl_vals rv
  refine ⟨rfl, by rw [rl.len]; exact hn _ _ hgd, fun x dx nx ndx nxx => ?_⟩
  obtain ⟨v1, v2, v3, v4, e1, r1, r2, r3, r4⟩ := hg F1 (.ref x) ds zs a b e d rl hgd
  rw [e1]
  obtain ⟨F', R', s', r'⟩ := life_made (C := C) R1 nx ndx nxx r1 r2 r3 r4
  exact ⟨x, dx, v1, v2, v3, v4, rfl, upd_same, rfl, hq (.val (lifeD C a b e d)) ρ1 (.ref x) F' _ R' (tr s1 s') r' q⟩
def oNeg : O1 := fun d Q => ∃ i, d = .int i ∧ Q (.int (-i))
theorem lu_neg : LiU X (rU fun i => .int (-i)) oNeg := by
  intro c hX σ F H ρ x dx Q Q3 R rx hq h
  obtain ⟨i, rfl, h⟩ := h
  obtain rfl : x = .int i := rx
  exact ⟨i, rfl, hq (.int _) _ F H R (Same.refl F) rfl h⟩
def clsD (C : Addr) : D := .op ⟨fun _ v => v = .ref C, fun _ h => h⟩
def qCls (C : Addr) : QE := fun ρ Q => Q (.val (clsD C)) ρ
theorem li_cRef {C : Addr} : LiE X (tC (.ref C)) (qCls C) := by
  intro c hX σ F H ρ Q Q3 R hq h
  exact hq (.val (clsD C)) ρ _ F H R (Same.refl F) rfl h
theorem w_cls {ρ : PSt} {C : Addr} {Q : Rv → PSt → Prop} (h : Q (.val (clsD C)) ρ) : qCls C ρ Q := h
theorem oth_ty {K : PySem.W.Frag} {F H : Hp} (s : Same F H) {d : D} {v : V} (h : Rn K F H d v) (e : othD d = true) : ∃ T ∈ tys, TyX K H v (.type T) := by
  cases d with
  | bl b => exact ⟨_, by decide, tyD_ok s h rfl⟩
  | non => exact ⟨_, by decide, tyD_ok s h rfl⟩
  | int i => exact ⟨_, by decide, tyD_ok s h rfl⟩
  | str i => exact ⟨_, by decide, tyD_ok s h rfl⟩
  | lst ds => exact ⟨_, by decide, tyD_ok s h rfl⟩
  | tup ds => exact ⟨_, by decide, tyD_ok s h rfl⟩
  | _ => exact nomatch e
def oIsiC (C : Addr) : OL := fun as Q => (∃ ns es, as = [.ins C ns es, clsD C] ∧ Q (.bl true)) ∨ ∃ d, as = [d, clsD C] ∧ othD d = true ∧ Q (.bl false)
end
end L3
namespace L3
open PySem PySem.Spec PyProof.Rows L2 TB LamX OwnE
open C8 (Cal Met Mak)
section
variable {X : Sx} {K : PySem.W.Frag} {C : Addr} {te : TE} {pe : QE}
/-- how names stand for the four -/
structure GLif (K : PySem.W.Frag) (n : Nat) (gV : List V → List V → List V) (g3 : List D → Option (List D)) : Prop where
  len : ∀ ds e, g3 ds = some e → ds.length = n
  ok : ∀ (F : Hp) (x : V) (ds : List D) (zs : List V) (a b c d : D), RpL K F ds zs → g3 ds = some [a, b, c, d] → ∃ v1 v2 v3 v4, gV [x] zs = [x, v1, v2, v3, v4] ∧ Rp K F a v1 ∧ Rp K F b v2 ∧ Rp K F c v3 ∧ Rp K F d v4
theorem li_mkG {n : Nat} {gV : List V → List V → List V} {E : XK} {tk : TA} {pk : QA} {g3 : List D → Option (List D)} (g : GLif K n gV g3) (h1 : LiA X tk pk) (hK : X.K = K := by rfl) : LiE X (tMakeK C 0 n (spLifeI C) gV E tNil tk) (qMkL C g3 pk) := by
  subst hK
  exact li_mkL h1 g.len g.ok
theorem w_mkG {ρ : PSt} {g3 : List D → Option (List D)} {pk : QA} {Q : Rv → PSt → Prop} (h : pk ρ fun rs ρ1 => ∃ ds a b c d, rs = ds.map Rv.val ∧ g3 ds = some [a, b, c, d] ∧ Q (.val (lifeD C a b c d)) ρ1) : qMkL C g3 pk ρ Q := h
def g3phdc : List D → Option (List D)
  | [p, h, d, c] => some [p, h, d, c]
  | _ => none
structure Four where
  place : Int
  hand : Int
  drafts : List (Str × Int)
  called : List Str
deriving DecidableEq
abbrev nD (p : Str × Int) : D := .tup [.str p.1, .int p.2]
def dN (p : Str × Int) : PyData := .tuple [.str p.1, .int p.2]
def dFour (f : Four) : PyData := .tuple [.int f.place, .int f.hand, .tuple (f.drafts.map dN), .tuple (f.called.map .str)]
/-- of texts and numbers that can be shown -/
structure FourOk (f : Four) : Prop where
  p0 : 0 ≤ f.place ∧ f.place ≤ 10 ^ 19
  h0 : -(10 ^ 19) ≤ f.hand ∧ f.hand ≤ 10 ^ 19
  d0 : ∀ p ∈ f.drafts, Nm p.1 ∧ -(10 ^ 19) ≤ p.2 ∧ p.2 ≤ 10 ^ 19
  c0 : ∀ z ∈ f.called, Nm z
  dl : f.drafts.length ≤ 20
  cl : f.called.length ≤ 20
theorem shown_int20 {i : Int} (h : i.natAbs < 10 ^ 20) : (PyData.int i).shown.length ≤ 21 := by
  have e := int_text_length_le10 (k := 20) (by decide) h
  show (Str.ofString (toString i)).length ≤ 21
  rw [PySem.ofString_length]; exact e
theorem FourOk.len {f : Four} (ok : FourOk f) : (dFour f).shown.length ≤ 14000 := by
  have e18 : ((10 : Int) ^ 19) = 10000000000000000000 := by decide
  have a1 := ok.p0
  have a2 := ok.h0
  rw [e18] at a1 a2
  have s1 := shown_int20 (i := f.place) (by omega)
  have s2 := shown_int20 (i := f.hand) (by omega)
  have n1 : ∀ x ∈ f.drafts, (dN x).shown.length ≤ 171 := fun x hx => by
    have b := ok.d0 x hx
    rw [e18] at b
    have l1 := shown_nm b.1
    have l2 := shown_int20 (i := x.2) (by omega)
    have := shown_tuple_le (B := 82) (ds := [.str x.1, .int x.2]) (fun d hd => by
      simp only [List.mem_cons, List.not_mem_nil, or_false] at hd
      rcases hd with rfl | rfl <;> omega)
    simp only [List.length_cons, List.length_nil] at this
    unfold dN
    omega
  have s3 := shown_tuple_le (B := 171) (ds := f.drafts.map dN) (fun d hd => by
    obtain ⟨x, hx, rfl⟩ := List.mem_map.mp hd
    exact n1 x hx)
  have s4 := shown_tuple_le (B := 82) (ds := f.called.map PyData.str) (fun d hd => by
    obtain ⟨x, hx, rfl⟩ := List.mem_map.mp hd
    exact shown_nm (ok.c0 x hx))
  rw [List.length_map] at s3 s4
  have c1 := ok.dl
  have c2 := ok.cl
  have s5 := shown_tuple_le (B := 3463) (ds := [.int f.place, .int f.hand, .tuple (f.drafts.map dN), .tuple (f.called.map .str)]) (fun d hd => by
    simp only [List.mem_cons, List.not_mem_nil, or_false] at hd
    rcases hd with rfl | rfl | rfl | rfl <;> omega)
  simp only [List.length_cons, List.length_nil] at s5
  unfold dFour
  omega
theorem w_life {m : Str} {a b c d : D} {F : D → Prop} (e : (m == ("place" : Str)) = false ∧ (m == ("hand" : Str)) = false ∧ (m == ("drafts" : Str)) = false ∧ (m == ("called" : Str)) = false) (h : F (lifeD C a b c d)) : ∃ d', Rv.val (lifeD C a b c d) = .val d' ∧ IsI K C m d' ∧ F d' := by
  refine ⟨_, rfl, ?_, h⟩
  rintro G v ⟨x, dx, vs, rfl, hx, _, v1, r1, rfl, _, v2, r2, rfl, _, v3, r3, rfl, _, v4, r4, rfl, _, er⟩
  obtain rfl : r4 = [] := er
  refine ⟨x, dx, _, rfl, hx, ?_⟩
  show List.lookup m [(("place" : Str), v1), ("hand", v2), ("drafts", v3), ("called", v4)] = none
  simp only [List.lookup_cons, e.1, e.2.1, e.2.2.1, e.2.2.2, List.lookup_nil]
end
end L3
namespace L3
open PySem PySem.Spec PyProof.Rows L2 TB LamX OwnE
end L3
namespace L3
open PySem PySem.Spec PyProof.Rows L2 TB LamX OwnE
open C8 (Cal Met Mak)
/-- positional values, then each one of the keywords' values or of those that lack -/
def gS {α : Type} (sel : List (Bool × Nat)) (us mv ws : List α) : List α := us ++ sel.filterMap fun p => if p.1 then ws[p.2]? else mv[p.2]?
theorem vals_get : ∀ {vs : List V} {us : List Value}, Vals vs us → ∀ i : Nat, (vs[i]? = none ∧ us[i]? = none) ∨ ∃ v u, vs[i]? = some v ∧ us[i]? = some u ∧ RelV v u
  | _, _, .nil, i => Or.inl ⟨rfl, rfl⟩
  | _, _, .cons h t, 0 => Or.inr ⟨_, _, rfl, rfl, h⟩
  | _, _, .cons h t, i + 1 => by
    rcases vals_get t i with ⟨a, b⟩ | ⟨v, u, a, b, c⟩
    · exact Or.inl ⟨by simpa using a, by simpa using b⟩
    · exact Or.inr ⟨v, u, by simpa using a, by simpa using b, c⟩
theorem vals_sel {mz zs : List V} {mv ws : List Value} (h2 : Vals mz mv) (h3 : Vals zs ws) : ∀ sel : List (Bool × Nat), Vals (sel.filterMap fun p => if p.1 then zs[p.2]? else mz[p.2]?) (sel.filterMap fun p => if p.1 then ws[p.2]? else mv[p.2]?)
  | [] => .nil
  | (true, i) :: sel => by
    rcases vals_get h3 i with ⟨a, b⟩ | ⟨v, u, a, b, c⟩
    · rw [List.filterMap_cons_none (by simpa using a), List.filterMap_cons_none (by simpa using b)]
      exact vals_sel h2 h3 sel
    · rw [List.filterMap_cons_some (b := v) (by simpa using a), List.filterMap_cons_some (b := u) (by simpa using b)]
      exact .cons c (vals_sel h2 h3 sel)
  | (false, i) :: sel => by
    rcases vals_get h2 i with ⟨a, b⟩ | ⟨v, u, a, b, c⟩
    · rw [List.filterMap_cons_none (by simpa using a), List.filterMap_cons_none (by simpa using b)]
      exact vals_sel h2 h3 sel
    · rw [List.filterMap_cons_some (b := v) (by simpa using a), List.filterMap_cons_some (b := u) (by simpa using b)]
      exact .cons c (vals_sel h2 h3 sel)
theorem gS_rel {sel : List (Bool × Nat)} {vs mz zs : List V} {us mv ws : List Value} (h1 : Vals vs us) (h2 : Vals mz mv) (h3 : Vals zs ws) : Vals (gS sel vs mz zs) (gS sel us mv ws) := h1.append (vals_sel h2 h3 sel)
section
variable {K : PySem.W.Frag} {d c : Addr}
theorem rpl4 {F : Hp} {vs : List V} {d d2 d3 d4 : D} (h : RpL K F [d, d2, d3, d4] vs) : ∃ v v2 v3 v4, vs = [v, v2, v3, v4] ∧ Rp K F d v ∧ Rp K F d2 v2 ∧ Rp K F d3 v3 ∧ Rp K F d4 v4 := by
  obtain ⟨v, t, rfl, q, h⟩ := h
  obtain ⟨v2, v3, v4, rfl, q2, q3, q4⟩ := rpl3 h
  exact ⟨v, v2, v3, v4, rfl, q, q2, q3, q4⟩
theorem glif_phdc : GLif K 4 (fun vs zs => gS [(true, 0), (true, 1), (true, 2), (true, 3)] vs [] zs) g3phdc := by
  refine ⟨fun ds e h => ?_, fun F x ds zs a b c d r h => ?_⟩
  · match ds, h with
    | [_, _, _, _], _ => rfl
  · match ds, h with
    | [_, _, _, _], h =>
      cases h
      obtain ⟨v, v2, v3, v4, rfl, q, q2, q3, q4⟩ := rpl4 r
      exact ⟨_, _, _, _, rfl, q, q2, q3, q4⟩
end
def eqClsB (K : PySem.W.Frag) (C : Addr) : Bool := He.eqO (PySem.W.findIn K (.ref C) "__ne__") (some (some (.builtin "object.__ne__"))) && (decide (PySem.W.subIn K (.ref C) (.type "object") = some true) && (tys.all (fun T => decide (PySem.W.subIn K (.ref C) (.type T) = some false)) && tys.all (fun T => PySem.W.notFirst K C (.type T))))
theorem eqCls_of {K : PySem.W.Frag} {C f : Addr} (h : eqClsB K C = true) (e : PySem.W.findIn K (.ref C) "__eq__" = some (some (.ref f))) (fn : PySem.W.isFn K (.ref f) = true) : EqCls K C f := by
  unfold eqClsB at h
  simp only [Bool.and_eq_true, List.all_eq_true, decide_eq_true_eq] at h
  obtain ⟨h1, h2, h3, h4⟩ := h
  exact ⟨e, fn, He.eqO_ok h1, h2, h3, h4⟩
def insCB (K : PySem.W.Frag) (C : Addr) : Bool := He.eqO (PySem.W.findIn K (.ref C) "__class__") (some (some (.builtin "object.__class__"))) && (He.eqO (PySem.W.specialIn K (.builtin "object.__class__") "__get__") (some (some (.builtin "getset_descriptor.__get__"))) && (decide (PySem.W.takesIn K (.builtin "object.__class__") = some true) && (decide (PySem.W.mroIn K C (.type "object") = some true) && (decide (PySem.W.kitOne K (.ref C) (.ref C) = some true) && tys.all (fun T => decide (PySem.W.kitOne K (.type T) (.ref C) = some false))))))
theorem insC_of {K : PySem.W.Frag} {C : Addr} (h : insCB K C = true) (c : Cls K C) : C8.InsC K C ∧ ∀ T ∈ tys, PySem.W.kitOne K (.type T) (.ref C) = some false := by
  unfold insCB at h
  simp only [Bool.and_eq_true, List.all_eq_true, decide_eq_true_eq] at h
  obtain ⟨h1, h2, h3, h4, h5, h6⟩ := h
  exact ⟨⟨c, He.eqO_ok h1, He.eqO_ok h2, h3, h4, h5⟩, h6⟩
theorem entry1 {K : PySem.W.Frag} {F H : Hp} {v : V} {d : D} (s : Same F H) (nt : NoT H) (r : Rp K F d v) : Entry ⟨K, []⟩ none F H [v] [d] :=
  { sub := s, nt := nt, tab := (fun _ z => nomatch z), tabF := (fun _ z => nomatch z), len := rfl, ioA := (fun _ z => nomatch z),
    arg := by
      intro j d' v' h1 h2 _
      match j, h1, h2 with
      | 0, h1, h2 =>
        cases Option.some.inj h1
        cases Option.some.inj h2
        exact r }
theorem Exit.kept {K : PySem.W.Frag} {F H F' H' : Hp} {vs : List V} {r : Rs} {o : Option (List D)} {v : V} (x : Exit ⟨K, []⟩ none F H vs F' H' r o v) : Same H H' := fun b ob e => x.step.kp b ob e (by intro z; exact nomatch z) (by intro z zz; exact nomatch zz)
end L3
namespace TB
open PySem PySem.Spec PyProof.Rows L2
theorem only_noT {H : Hp} (h : Only H) : NoT H := fun a o e => by
  rcases h a with z | ⟨ob, xs, z⟩
  · rw [z] at e
    exact nomatch e
  · rw [z] at e
    cases e
    exact trivial
end TB
namespace L3
open PySem PySem.Spec PyProof.Rows L2 TB LamX OwnE
open C8 (Cal Met Mak)
structure RIn (qs : List Pr) (a : Str) (fs lf : List Str) (h : Str) (i : Nat) : Prop where
  nd : fs.Nodup
  sub : ∀ z ∈ fs, Rch qs a z
  lft : ∀ z ∈ lf, z = a ∨ z ∈ fs
  hr : h = a ∨ h ∈ fs
  cl : ∀ z, z = a ∨ z ∈ fs → z ∈ lf ∨ z = h ∨ ∀ c, (z, c) ∈ qs → c ∈ fs
  dn : ∀ (j : Nat) c, j < i → qs[j]? = some (h, c) → c ∈ fs
structure RInv (qs : List Pr) (a : Str) (fs lf : List Str) : Prop where
  nd : fs.Nodup
  sub : ∀ z ∈ fs, Rch qs a z
  lft : ∀ z ∈ lf, z = a ∨ z ∈ fs
  cl : ∀ z, z = a ∨ z ∈ fs → z ∈ lf ∨ ∀ c, (z, c) ∈ qs → c ∈ fs
theorem RInv.done {qs : List Pr} {a : Str} {fs : List Str} (b : RInv qs a fs []) (z : Str) : z ∈ fs ↔ Rch qs a z := by
  refine ⟨b.sub z, fun h => ?_⟩
  induction h with
  | one m => exact (b.cl _ (Or.inl rfl)).elim (fun e => nomatch e) (fun e => e _ m)
  | step _ m ih => exact (b.cl _ (Or.inr ih)).elim (fun e => nomatch e) (fun e => e _ m)
theorem RIn.skip {qs : List Pr} {a h l z : Str} {fs lf : List Str} {i : Nat} (b : RIn qs a fs lf h i) (e : qs[i]? = some (l, z)) (n : l ≠ h ∨ z ∈ fs) : RIn qs a fs lf h (i + 1) := by
  refine ⟨b.nd, b.sub, b.lft, b.hr, b.cl, fun j c hj ej => ?_⟩
  by_cases c1 : j < i
  · exact b.dn j c c1 ej
  · obtain rfl : j = i := by omega
    rw [e] at ej
    cases Option.some.inj ej
    exact n.elim (fun n => absurd rfl n) id
theorem RIn.add {qs : List Pr} {a h z : Str} {fs lf : List Str} {i : Nat} (b : RIn qs a fs lf h i) (e : qs[i]? = some (h, z)) (n : z ∉ fs) : RIn qs a (fs ++ [z]) (lf ++ [z]) h (i + 1) := by
  have hm : (h, z) ∈ qs := List.mem_of_getElem? e
  have ap : ∀ {u}, u ∈ fs → u ∈ fs ++ [z] := fun m => List.mem_append_left _ m
  have az : z ∈ fs ++ [z] := List.mem_append_right _ (List.mem_singleton.mpr rfl)
  refine ⟨List.nodup_append.mpr ⟨b.nd, by simp, fun u hu v hv e2 => n (by rw [List.mem_singleton.mp hv] at e2; rw [← e2]; exact hu)⟩, fun u hu => ?_, fun u hu => ?_, b.hr.imp id ap, fun u hu => ?_, fun j c hj ej => ?_⟩
  · rcases List.mem_append.mp hu with m | m
    · exact b.sub u m
    · rw [List.mem_singleton.mp m]
      rcases b.hr with e2 | e2
      · rw [e2] at hm
        exact .one hm
      · exact .step (b.sub h e2) hm
  · rcases List.mem_append.mp hu with m | m
    · exact (b.lft u m).imp id ap
    · rw [List.mem_singleton.mp m]
      exact Or.inr az
  · have hu2 : (u = a ∨ u ∈ fs) ∨ u = z := by
      rcases hu with e2 | e2
      · exact Or.inl (Or.inl e2)
      · rcases List.mem_append.mp e2 with m | m
        · exact Or.inl (Or.inr m)
        · exact Or.inr (List.mem_singleton.mp m)
    rcases hu2 with e2 | e2
    · rcases b.cl u e2 with m | m | m
      · exact Or.inl (List.mem_append_left _ m)
      · exact Or.inr (Or.inl m)
      · exact Or.inr (Or.inr fun c hc => ap (m c hc))
    · rw [e2]
      exact Or.inl (List.mem_append_right _ (List.mem_singleton.mpr rfl))
  · by_cases c1 : j < i
    · exact ap (b.dn j c c1 ej)
    · obtain rfl : j = i := by omega
      rw [e] at ej
      cases Option.some.inj ej
      exact az
theorem RIn.out {qs : List Pr} {a h : Str} {fs lf : List Str} (b : RIn qs a fs lf h qs.length) : RInv qs a fs lf := by
  refine ⟨b.nd, b.sub, b.lft, fun z hz => ?_⟩
  rcases b.cl z hz with e | e | e
  · exact Or.inl e
  · refine Or.inr fun c hc => ?_
    rw [e] at hc
    obtain ⟨j, hj, ej⟩ := List.getElem_of_mem hc
    exact b.dn j c hj (by rw [List.getElem?_eq_getElem hj, ej])
  · exact Or.inr e
/-- pairs, one behind another, none of which closes a ring -/
structure LP (ls : List Str) (qs : List Pr) : Prop where
  mem : ∀ p ∈ qs, p.1 ∈ ls ∧ p.2 ∈ ls
  ne : ∀ p ∈ qs, p.1 ≠ p.2
  nd : qs.Nodup
  nr : ∀ (i : Nat) p, qs[i]? = some p → ¬ Rch (qs.take i) p.2 p.1
theorem LP.nil {ls : List Str} : LP ls [] := ⟨(fun _ z => nomatch z), (fun _ z => nomatch z), List.nodup_nil, fun i p e => by simp at e⟩
theorem LP.take {ls : List Str} {qs : List Pr} (h : LP ls qs) (n : Nat) : LP ls (qs.take n) := by
  refine ⟨fun u hu => h.mem u (List.mem_of_mem_take hu), fun u hu => h.ne u (List.mem_of_mem_take hu), h.nd.sublist (List.take_sublist _ _), fun i u e => ?_⟩
  have hi : i < n := by
    have := (List.getElem?_eq_some_iff.mp e).1
    rw [List.length_take] at this
    omega
  rw [List.getElem?_take_of_lt hi] at e
  rw [List.take_take, Nat.min_eq_left (Nat.le_of_lt hi)]
  exact h.nr i u e
/-- one pair more: ways that did not go before pass by it -/
theorem rch_snoc {qs : List Pr} {p : Pr} {a b : Str} (h : Rch (qs ++ [p]) a b) : Rch qs a b ∨ ((a = p.1 ∨ Rch qs a p.1) ∧ (b = p.2 ∨ Rch qs p.2 b)) ∨ Rch qs p.2 p.1 := by
  induction h with
  | @one b m =>
    rcases List.mem_append.mp m with m | m
    · exact Or.inl (.one m)
    · have e := List.mem_singleton.mp m
      subst e
      exact Or.inr (Or.inl ⟨Or.inl rfl, Or.inl rfl⟩)
  | @step b c _ m ih =>
    rcases List.mem_append.mp m with m | m
    · rcases ih with ih | ⟨h1, h2⟩ | ih
      · exact Or.inl (.step ih m)
      · refine Or.inr (Or.inl ⟨h1, Or.inr ?_⟩)
        rcases h2 with h2 | h2
        · rw [← h2]
          exact .one m
        · exact .step h2 m
      · exact Or.inr (Or.inr ih)
    · have e := List.mem_singleton.mp m
      subst e
      rcases ih with ih | ⟨h1, h2⟩ | ih
      · exact Or.inr (Or.inl ⟨Or.inr ih, Or.inl rfl⟩)
      · rcases h2 with h2 | h2
        · exact Or.inr (Or.inl ⟨h1, Or.inl rfl⟩)
        · exact Or.inr (Or.inr h2)
      · exact Or.inr (Or.inr ih)
theorem LP.ac {ls : List Str} : ∀ {n : Nat} {qs : List Pr}, qs.length = n → LP ls qs → ∀ a, ¬ Rch qs a a
  | 0, qs, e, h, a, r => by
    rw [List.eq_nil_of_length_eq_zero e] at r
    cases r with
    | one m => exact nomatch m
    | step _ m => exact nomatch m
  | n + 1, qs, e, h, a, r => by
    have hn : n < qs.length := by omega
    have e2 : qs = qs.take n ++ [qs[n]] := by
      rw [List.take_append_getElem hn, ← e, List.take_length]
    have hg : qs[n]? = some qs[n] := List.getElem?_eq_getElem hn
    have nr := h.nr n _ hg
    have ne := h.ne qs[n] (List.getElem_mem hn)
    have ih := LP.ac (n := n) (qs := qs.take n) (by rw [List.length_take]; omega) (h.take n)
    rw [e2] at r
    rcases rch_snoc r with r | ⟨h1, h2⟩ | r
    · exact ih a r
    · rcases h1 with h1 | h1
      · rcases h2 with h2 | h2
        · exact ne (h1.symm.trans h2)
        · rw [h1] at h2
          exact nr h2
      · rcases h2 with h2 | h2
        · rw [h2] at h1
          exact nr h1
        · exact nr (h2.trans h1)
    · exact nr r
theorem Rch.same {ps qs : List Pr} (h : ∀ z, z ∈ ps ↔ z ∈ qs) {a b : Str} : Rch ps a b ↔ Rch qs a b := ⟨fun r => r.mono fun p hp => (h p).mp hp, fun r => r.mono fun p hp => (h p).mpr hp⟩
theorem freeB_same {ps qs : List Pr} (h : ∀ z, z ∈ ps ↔ z ∈ qs) (z : Str) (xs : List Str) : freeB ps z xs = freeB qs z xs := by
  rw [Bool.eq_iff_iff, freeB_iff, freeB_iff]
  exact ⟨fun k a ha => k a ((h _).mpr ha), fun k a ha => k a ((h _).mp ha)⟩
theorem nextL_same {ps qs : List Pr} (h : ∀ z, z ∈ ps ↔ z ∈ qs) (ls fs : List Str) : nextL ls ps fs = nextL ls qs fs := by
  unfold nextL
  refine List.filter_congr fun y _ => ?_
  rw [freeB_same h]
theorem GL.swap {ls : List Str} {ps qs : List Pr} {xs fs : List Str} (h : ∀ z, z ∈ ps ↔ z ∈ qs) (g : GL ls qs xs fs) : GL ls ps xs fs :=
  ⟨g.nd, g.mem, g.pre, g.len, fun i z e => by rw [freeB_same h]; exact g.free i z e, fun i z l e => by rw [nextL_same h]; exact g.least i z l e⟩
section
variable {X : Sx} {K : PySem.W.Frag}
theorem w_callD {ρ : PSt} {Q : Rv → PSt → Prop} {d0 : D} {P : PSp} {pa : QA} (h : pa ρ fun rs ρ1 => some1 (fun ds => P ds fun r _ => resOk ((rs ++ [Rv.val d0]).any isCell) r fun d => Q (.val d) ρ1) (rdL ρ1 (rs ++ [Rv.val d0]))) : qCallD d0 P pa ρ Q := h
end
end L3
namespace L3
open PySem PySem.Spec PyProof.Rows L2 TB LamX OwnE
open C8 (Cal Met Mak)
section
variable {X : Sx} {K : PySem.W.Frag}
def oLenS (K : PySem.W.Frag) : OL := fun as Q => ∃ ns : List Int, as = [scrD K ns] ∧ Q (.int ns.length)
theorem lc_lenS (hK : X.K = K := by rfl) : LiC X (rLenL K) (oLenS K) := by
  subst hK
  intro c hX σ F H ρ xs dxs Q Q3 R rx hq h
  subst hX
  obtain ⟨ns, rfl, h⟩ := h
  obtain ⟨v, t, rfl, ⟨a, rfl, ha⟩, et⟩ := rx
  obtain rfl : t = [] := et
  refine ⟨a, ns.map V.int, rfl, Or.inl (sqL_mono R.sub ha), ?_⟩
  rw [List.length_map]
  exact hq (.int _) _ F H R (Same.refl F) rfl h
theorem w_lenS {ns : List Int} {F : D → Prop} (h : F (.int ns.length)) : oLenS K [scrD K ns] F := ⟨ns, rfl, h⟩
/-- the script's length -/
def tScr (r : List V → Hp → VK → Prop) (ta : TA) : TE := tCB r ta
theorem toScr {Y : Cx} {e : Expr} {r : List V → Hp → VK → Prop} {ta : TA} (h : PE Y e (tCB r ta)) : PE Y e (tScr r ta) := h
theorem li_scr {ta : TA} {pa : QA} (ha : LiA X ta pa) (hK : X.K = K := by rfl) : LiE X (tScr (rLenL K) ta) (qCB (oLenS K) pa) := li_cb (lc_lenS hK) ha
def oMM (f : Int → Int → Int) : OL := fun as Q => ∃ i j, as = [.int i, .int j] ∧ Q (.int (f i j))
theorem lc_mm (f : Int → Int → Int) : LiC X (fun xs H Q => ∃ i j, xs = [.int i, .int j] ∧ Q (.int (f i j)) H) (oMM f) := by
  intro c hX σ F H ρ xs dxs Q Q3 R rx hq h
  obtain ⟨i, j, rfl, h⟩ := h
  obtain ⟨v, t, rfl, e1, v2, t2, rfl, e2, et⟩ := rx
  obtain rfl : t2 = [] := et
  obtain rfl : v = .int i := e1
  obtain rfl : v2 = .int j := e2
  exact ⟨i, j, rfl, hq (.int _) _ F H R (Same.refl F) rfl h⟩
theorem lc_max : LiC X (fun xs H Q => ∃ i j, xs = [.int i, .int j] ∧ Q (.int (if j > i then j else i)) H) (oMM fun i j => if j > i then j else i) := lc_mm _
theorem lc_min : LiC X (fun xs H Q => ∃ i j, xs = [.int i, .int j] ∧ Q (.int (if j < i then j else i)) H) (oMM fun i j => if j < i then j else i) := lc_mm _
theorem w_mm {f : Int → Int → Int} {i j : Int} {F : D → Prop} (h : F (.int (f i j))) : oMM f [.int i, .int j] F := ⟨i, j, rfl, h⟩
structure CalN (P : Program) (w : World) (K : PySem.W.Frag) (mg : Str → Option Value) (base : Heap) (k : Nat) (x : Str) (sp : Sp) (n m : Nat) (ks : List Str) (gV : List V → List V → List V) : Prop where
  nl : ks.length = m
  nex : ∃ (f : Addr) (fd : FuncData) (ps : List Str) (g : List Value → List Value → List Value), FnOk P w K mg base C8.CX0 k f fd ps sp ∧ mg x = some (.ref f) ∧ PySem.W.keepIn K (.ref f) = true ∧ KBn K fd ps n ks g gV
theorem pe_cN {Y : Cx} {k j n m : Nat} {x : Str} {sp : Sp} {ks : List Str} {gV : List V → List V → List V} {e : Expr} {es : List Expr} {kws : List Keyword} {t tk : TA} {p pos : Pos} (c : CalN Y.prog Y.w Y.K Y.mg Y.base k x sp n m ks gV) (hr : Room j Y.A) (hk : k ≤ j) (hg : Gl Y x) (ha : PA Y (e :: es) t) (hkw : PK Y kws tk)
    (hall : (backToKw pos (keywordEach kws Y.env)).all (·.1.isSome) = true := by rfl) (hks : (backToKw pos (keywordEach kws Y.env)).filterMap (·.1) = ks := by rfl) (hdb : (x == ("__debug__" : Str)) = false := by decide)
    (he : starEach (e :: es) Y.env = (false, eval e Y.env) :: starEach es Y.env := by rfl) (hpl : ((backTo pos (starEach (e :: es) Y.env)).any (·.1) || (backToKw pos (keywordEach kws Y.env)).any (·.1.isNone)) = false := by rfl) : PE Y (.Call (.Name x p) (e :: es) kws pos) (tCallN n m sp gV C8.E0 t tk) := by
  rw [← c.nl]
  obtain ⟨f, fd, ps, g, F, hm, kp, hb⟩ := c.nex
  exact pe_callN F (hr.mono hk) hg hm kp hb pass0 ha hkw hall hks hdb he hpl
/-- names that stand as they come -/
structure InRow (n m : Nat) (gV : List V → List V → List V) : Prop where
  row : ∀ vs zs : List V, vs.length = n → zs.length = m → gV vs zs = vs ++ zs
def andLen (rs : List Rv) (n : Nat) (ss : List Rv) (m : Nat) (G : Prop) : Prop := rs.length = n ∧ ss.length = m ∧ G
def qCallV (n m : Nat) (P : PSp) (pa pk : QA) : QE := fun ρ Q => pa ρ fun rs ρ0 => pk ρ0 fun ss ρ1 => rs.length = n ∧ ss.length = m ∧ some1 (fun ds => P ds fun r _ => resOk ((rs ++ ss).any isCell) r fun d => Q (.val d) ρ1) (rdL ρ1 (rs ++ ss))
theorem li_callV {n m : Nat} {P : PSp} {ta tk : TA} {pa pk : QA} {E : XK} {gV : List V → List V → List V} (hg : InRow n m gV) (h1 : LiA X ta pa) (h2 : LiA X tk pk) : LiE X (tCallN n m (lsp X none P) gV E ta tk) (qCallV n m P pa pk) := by
  intro c hX σ F H ρ Q Q3 R hq h
  subst hX
  refine h1 c rfl σ F H ρ _ _ R ?_ h
  intro rs ρ0 vs F0 H0 R0 s0 rv0 q0
  refine h2 c rfl σ F0 H0 ρ0 _ _ R0 ?_ q0
  intro ss ρ1 zs F1 H1 R1 s1 rv1 ⟨l1, l2, q1⟩
  have l3 := rv0.len
  have l4 := rv1.len
  refine ⟨by omega, by omega, ?_⟩
  rw [hg.row vs zs (by omega) (by omega)]
  cases e : rdL ρ1 (rs ++ ss) with
  | none => rw [e] at q1; exact q1.elim
  | some ds =>
    rw [e] at q1
    exact call_end R1 (tr s0 s1) (RVL.app (rv0.mono s1) rv1) e hq q1
theorem w_callV {ρ : PSt} {n m : Nat} {Q : Rv → PSt → Prop} {P : PSp} {pa pk : QA} (h : pa ρ fun rs ρ0 => pk ρ0 fun ss ρ1 => andLen rs n ss m (some1 (fun ds => P ds fun r _ => resOk ((rs ++ ss).any isCell) r fun d => Q (.val d) ρ1) (rdL ρ1 (rs ++ ss)))) : qCallV n m P pa pk ρ Q := h
theorem w_andLen {rs ss : List Rv} {n m : Nat} {G : Prop} (e1 : rs.length = n) (e2 : ss.length = m) (h : G) : andLen rs n ss m G := ⟨e1, e2, h⟩
def pPot (K : PySem.W.Frag) : PSp := fun ds Q => ∃ (ns : List Int) (k : Int), ds = [scrD K ns, .int k] ∧ 0 ≤ k ∧ k < 1000 ∧ Q (.val potD) none
theorem i_pot {spD : Sp} (hs : ∀ (l : Addr) (ns : List Int) (k : Int) (H : Hp) (Q : VK) (E : XK), SqL X.K H l (ns.map V.int) → 0 ≤ k → k < 1000 → NoT H → (∀ p : Addr, H p = none → Q (.ref p) (upd H p (PotO p))) → spD [.ref l, .int k] H Q E) : ∀ vs H Q E, lsp X none (pPot X.K) vs H Q E → spD vs H Q E := by
  rintro vs H Q E ⟨F, ds, Q3, en, ⟨ns, k, rfl, h0, h1, h⟩, hQ⟩
  obtain ⟨v1, v2, rfl, ⟨a, rfl, ha⟩, e2⟩ := rpl2 en.rpl
  obtain rfl : v2 = .int k := e2
  refine hs a ns k H Q E (sqL_mono en.sub ha) h0 h1 en.nt fun p np => ?_
  exact hQ (.val potD) none (.ref p) (upd F p (PotO p)) (upd H p (PotO p)) ⟨(en.rel []).alloc np trivial, ⟨p, rfl, upd_same⟩, fun _ _ z => nomatch z⟩ h
end
def pLaw (K : PySem.W.Frag) : PSp := fun ds Q => ∃ ns : List Int, ds = [scrD K ns] ∧ ns.length ≤ 63 ∧ Q (.val (.bl true)) none
def spLaw0 (K : PySem.W.Frag) : Sp := fun vs H Q _ => ∃ (a : Addr) (ns : List Int), vs = [.ref a] ∧ SqL K H a (ns.map V.int) ∧ ns.length ≤ 63 ∧ NoT H ∧ ∀ H', Q (.bl true) H'
theorem law_imp0 {K : PySem.W.Frag} : ∀ vs H Q E, spLaw0 K vs H Q E → lsp ⟨K, []⟩ none (pLaw K) vs H Q E := by
  rintro vs H Q E ⟨a, ns, rfl, ha, hn, nt, k⟩
  refine ⟨H, [scrD K ns], fun r _ => r = .val (.bl true), entry1 (fun _ _ e => e) nt ⟨a, rfl, ha⟩, ⟨ns, rfl, hn, rfl⟩, ?_⟩
  rintro r out v F' H' ex rfl
  obtain rfl : v = .bl true := ex.res
  exact k H'
theorem range_at {m i : Nat} {d : D} (e : ((List.range m).map fun i : Nat => D.int (0 + (i : Int)))[i]? = some d) : i < m ∧ d = .int (i : Int) := by
  have h1 := (List.getElem?_eq_some_iff.mp e).1
  rw [List.length_map, List.length_range] at h1
  rw [List.getElem?_map, List.getElem?_range h1] at e
  refine ⟨h1, ?_⟩
  have e2 : d = D.int (0 + (i : Int)) := (Option.some.inj e).symm
  rw [Int.zero_add] at e2
  exact e2
/-- how many cells are gone through -/
theorem cells_at {n : Nat} {m : Int} (hm : 1 ≤ m) (hm2 : m ≤ 100) : ∃ k : Nat, (if (if m < (n : Int) then m else (n : Int)) > 1 then (if m < (n : Int) then m else (n : Int)) else 1) = (k : Int) ∧ k ≤ 100 := by
  by_cases h1 : m < (n : Int)
  · rw [if_pos h1]
    by_cases h2 : m > 1
    · rw [if_pos h2]
      exact ⟨m.toNat, by omega, by omega⟩
    · rw [if_neg h2]
      exact ⟨1, rfl, by decide⟩
  · rw [if_neg h1]
    by_cases h2 : (n : Int) > 1
    · rw [if_pos h2]
      exact ⟨n, rfl, by omega⟩
    · rw [if_neg h2]
      exact ⟨1, rfl, by decide⟩
end L3
namespace L3
open PySem PySem.Spec PyProof.Rows L2 TB LamX OwnE
open C8 (Cal Met Mak)
theorem lt_nt {x y z : List Int} (h : ¬ y < x) (k : ¬ z < y) : ¬ z < x := fun l => by
  have h1 : x ≤ y := List.not_lt.mp h
  have h2 : y ≤ z := List.not_lt.mp k
  exact (List.not_lt.mpr (List.le_trans h1 h2)) l
end L3
namespace TB
open PySem PySem.Spec PyProof.Rows L2 L3
end TB
namespace L3
open PySem PySem.Spec PyProof.Rows L2 TB LamX OwnE
end L3
namespace L3
open PySem PySem.Spec PyProof.Rows L2 TB LamX OwnE
end L3
namespace L3
open PySem PySem.Spec PyProof.Rows L2 TB LamX OwnE
abbrev WK := Int × List Int
def kltW (p q : WK) : Prop := p.1 < q.1 ∨ (p.1 = q.1 ∧ p.2 < q.2)
instance (p q : WK) : Decidable (kltW p q) := inferInstanceAs (Decidable (_ ∨ _))
theorem kltW_tr {p q r : WK} (h : ¬ kltW q p) (k : ¬ kltW r q) : ¬ kltW r p := by
  unfold kltW at *
  intro l
  have h1 : ¬ q.1 < p.1 := fun z => h (Or.inl z)
  have k1 : ¬ r.1 < q.1 := fun z => k (Or.inl z)
  rcases l with l | ⟨l, m⟩
  · omega
  · have e1 : q.1 = p.1 := by omega
    have e2 : r.1 = q.1 := by omega
    exact lt_nt (fun z => h (Or.inr ⟨e1, z⟩)) (fun z => k (Or.inr ⟨e2, z⟩)) m
theorem kltW_as {p q : WK} (h : kltW p q) : ¬ kltW q p := by
  unfold kltW at *
  intro l
  rcases h with h | ⟨h, m⟩ <;> rcases l with l | ⟨l, n⟩
  · omega
  · omega
  · omega
  · exact List.lt_asymm m n
end L3
namespace L3
open PySem PySem.Spec PyProof.Rows L2 TB LamX OwnE
def placesOf (ls line : List Str) : List Int := line.map fun z => (ixS ls z : Int)
theorem ixS_of {ls : List Str} (nd : ls.Nodup) {k : Nat} {z : Str} (h : ls[k]? = some z) : ixS ls z = k := by
  obtain ⟨h1, h2⟩ := ixS_at (List.mem_of_getElem? h)
  obtain ⟨hk, e⟩ := List.getElem?_eq_some_iff.mp h
  obtain ⟨hj, e2⟩ := List.getElem?_eq_some_iff.mp h1
  exact (List.getElem_inj nd).mp (e2.trans e.symm)
/-- a full line: all locks -/
structure Full (ls : List Str) (qs : List Pr) (line : List Str) : Prop where
  nd : ls.Nodup
  mem : ∀ p ∈ qs, p.1 ∈ ls ∧ p.2 ∈ ls
  gl : GL ls qs [] line
  len : line.length = ls.length
theorem Full.all {ls : List Str} {qs : List Pr} {line : List Str} (h : Full ls qs line) : ∀ z, z ∈ line ↔ z ∈ ls := by
  intro z
  refine ⟨h.gl.mem z, fun hz => ?_⟩
  by_cases c : z ∈ line
  · exact c
  · have h1 := nodup_le (l := z :: line) (m := ls) (List.nodup_cons.mpr ⟨c, h.gl.nd⟩) (fun u hu => by
      rcases List.mem_cons.mp hu with rfl | hu
      · exact hz
      · exact h.gl.mem u hu)
    have := h.len
    rw [List.length_cons] at h1
    omega
/-- of those that may stand next it is the first -/
theorem head_first {ls : List Str} (nd : ls.Nodup) {P : Str → Bool} {z u : Str} (h : (ls.filter P).head? = some z) (hu : u ∈ ls) (pu : P u = true) : ixS ls z ≤ ixS ls u := by
  induction ls with
  | nil => exact nomatch hu
  | cons a r ih =>
    by_cases c : P a = true
    · rw [List.filter_cons_of_pos c] at h
      obtain rfl : a = z := Option.some.inj h
      rw [ixS_of nd (k := 0) rfl]
      exact Nat.zero_le _
    · rw [List.filter_cons_of_neg c] at h
      have hua : u ≠ a := fun e => c (e ▸ pu)
      have hur : u ∈ r := (List.mem_cons.mp hu).resolve_left hua
      have ndr := (List.nodup_cons.mp nd).2
      have h2 := ih ndr h hur
      have hz : z ∈ r := by
        have := List.mem_of_mem_head? (by rw [h]; rfl : z ∈ (r.filter P).head?)
        exact (List.mem_filter.mp this).1
      have e1 : ixS (a :: r) u = ixS r u + 1 := ixS_of nd (by rw [List.getElem?_cons_succ]; exact (ixS_at hur).1)
      have e2 : ixS (a :: r) z = ixS r z + 1 := ixS_of nd (by rw [List.getElem?_cons_succ]; exact (ixS_at hz).1)
      omega
/-- one that might stand earlier doesn't stand free -/
theorem Full.least {ls : List Str} {qs : List Pr} {line : List Str} (h : Full ls qs line) {k : Nat} {z u : Str} (hk : line[k]? = some z) (hu : u ∈ ls) (n : u ∉ line.take k) (f : freeB qs u (line.take k) = true) : ixS ls z ≤ ixS ls u := by
  have h1 := h.gl.least k z (Nat.zero_le _) hk
  refine head_first h.nd h1 hu ?_
  rw [f, decide_eq_false n]
  rfl
theorem GL.bare {ls : List Str} (nd : ls.Nodup) : GL ls [] [] ls := by
  refine ⟨nd, fun _ h => h, rfl, Nat.zero_le _, (fun i z _ => freeB_iff.mpr fun a ha => nomatch ha), fun i z _ e => ?_⟩
  unfold nextL
  have e1 : ls = ls.take i ++ ls.drop i := (List.take_append_drop i ls).symm
  have e2 : (ls.filter fun y => !decide (y ∈ ls.take i) && freeB [] y (ls.take i)) = ls.drop i := by
    have f0 : ∀ y, freeB [] y (ls.take i) = true := fun y => freeB_iff.mpr fun a ha => nomatch ha
    have h1 : (ls.take i ++ ls.drop i).filter (fun y => !decide (y ∈ ls.take i) && freeB [] y (ls.take i)) = ls.drop i := by
      rw [List.filter_append]
      have a1 : (ls.take i).filter (fun y => !decide (y ∈ ls.take i) && freeB [] y (ls.take i)) = [] := List.filter_eq_nil_iff.mpr fun y hy => by
        rw [decide_eq_true hy]
        simp
      have a2 : (ls.drop i).filter (fun y => !decide (y ∈ ls.take i) && freeB [] y (ls.take i)) = ls.drop i := List.filter_eq_self.mpr fun y hy => by
        have nin : y ∉ ls.take i := fun hm => by
          rw [e1] at nd
          exact (List.nodup_append.mp nd).2.2 y hm y hy rfl
        rw [decide_eq_false nin, f0 y]
        rfl
      rw [a1, a2]
      rfl
    rw [List.take_append_drop] at h1
    exact h1
  rw [e2, List.head?_drop]
  exact e
end L3
namespace L3
open PySem PySem.Spec PyProof.Rows L2 TB LamX OwnE
/-- w is a way by pairs from a -/
inductive Way (ps : List Pr) (a : Str) : List Str → Prop
  | one : Way ps a [a]
  | step {w : List Str} {u v : Str} : Way ps a w → w.getLast? = some u → (u, v) ∈ ps → Way ps a (w ++ [v])
theorem Way.ne {ps : List Pr} {a : Str} {w : List Str} (h : Way ps a w) : w ≠ [] := by
  cases h with
  | one => simp
  | step _ _ _ => simp
theorem last_snoc (w : List Str) (v : Str) : (w ++ [v]).getLast? = some v := by simp
theorem Way.mem {ls : List Str} {ps : List Pr} (hm : ∀ p ∈ ps, p.1 ∈ ls ∧ p.2 ∈ ls) {a : Str} (ha : a ∈ ls) {w : List Str} (h : Way ps a w) : ∀ z ∈ w, z ∈ ls := by
  induction h with
  | one =>
    intro z hz
    rw [List.mem_singleton.mp hz]
    exact ha
  | step _ _ m ih =>
    intro z hz
    rcases List.mem_append.mp hz with h | h
    · exact ih z h
    · rw [List.mem_singleton.mp h]
      exact (hm _ m).2
/-- the key of a way -/
def keyW (ls : List Str) (w : List Str) : WK := ((w.length : Int), placesOf ls w)
def kLt (ls : List Str) (u w : List Str) : Prop := kltW (keyW ls u) (keyW ls w)
theorem placesOf_len (ls w : List Str) : (placesOf ls w).length = w.length := by
  unfold placesOf
  rw [List.length_map]
theorem placesOf_snoc (ls w : List Str) (v : Str) : placesOf ls (w ++ [v]) = placesOf ls w ++ [(ixS ls v : Int)] := by
  unfold placesOf
  rw [List.map_append]
  rfl
theorem lt_app {p q : List Int} (hl : p.length = q.length) (h : p < q) (i j : Int) : p ++ [i] < q ++ [j] := by
  rcases List.lt_iff_exists.mp h with ⟨_, l⟩ | ⟨k, h1, h2, same, less⟩
  · omega
  · refine List.lt_iff_exists.mpr (Or.inr ⟨k, by rw [List.length_append]; omega, by rw [List.length_append]; omega, fun j hj => ?_, ?_⟩)
    · rw [List.getElem_append_left (by omega), List.getElem_append_left (by omega)]
      exact same j hj
    · rw [List.getElem_append_left h1, List.getElem_append_left h2]
      exact less
theorem lt_last (p : List Int) {i j : Int} (h : i < j) : p ++ [i] < p ++ [j] := by
  refine List.lt_iff_exists.mpr (Or.inr ⟨p.length, by simp, by simp, fun k hk => ?_, ?_⟩)
  · rw [List.getElem_append_left hk, List.getElem_append_left hk]
  · simp
    exact h
theorem kLt_snoc {ls u w : List Str} (h : kLt ls u w) (x y : Str) : kLt ls (u ++ [x]) (w ++ [y]) := by
  unfold kLt kltW keyW at *
  simp only [List.length_append, List.length_singleton, placesOf_snoc] at *
  rcases h with h | ⟨h, l⟩
  · exact Or.inl (by omega)
  · refine Or.inr ⟨by omega, lt_app (by rw [placesOf_len, placesOf_len]; omega) l _ _⟩
theorem kLt_last {ls : List Str} (w : List Str) {x y : Str} (h : ixS ls x < ixS ls y) : kLt ls (w ++ [x]) (w ++ [y]) := by
  unfold kLt kltW keyW
  simp only [List.length_append, List.length_singleton, placesOf_snoc]
  exact Or.inr ⟨trivial, lt_last _ (by omega)⟩
theorem kLt_len {ls u w : List Str} (h : u.length < w.length) : kLt ls u w := Or.inl (by show (u.length : Int) < w.length; omega)
theorem kLt_irr {ls u : List Str} : ¬ kLt ls u u := fun h => kltW_as h h
theorem kLt_tr {ls u v w : List Str} (h : kLt ls u v) (k : kLt ls v w) : kLt ls u w := by
  by_cases c : kLt ls u w
  · exact c
  · exact absurd h (kltW_tr (kltW_as k) c)
theorem kLt_le {ls u v w : List Str} (h : ¬ kLt ls v u) (k : kLt ls v w) : kLt ls u w := by
  by_cases c : kLt ls u w
  · exact c
  · exact absurd k (kltW_tr c h)
def endOf (w : List Str) : Str := w.getLast?.getD Str.empty
theorem endOf_snoc (w : List Str) (v : Str) : endOf (w ++ [v]) = v := by
  unfold endOf
  rw [last_snoc]
  rfl
theorem endOf_last {w : List Str} (h : w ≠ []) : w.getLast? = some (endOf w) := by
  unfold endOf
  obtain ⟨v, e⟩ : ∃ v, w.getLast? = some v := ⟨w.getLast h, List.getLast?_eq_some_getLast h⟩
  rw [e]
  rfl
structure Bfs (ls : List Str) (ps : List Pr) (a : Str) (W : List (List Str)) (i : Nat) : Prop where
  way : ∀ w ∈ W, Way ps a w
  nd : (W.map endOf).Nodup
  srt : W.Pairwise (kLt ls)
  st : [a] ∈ W
  cl : ∀ (j : Nat) w, j < i → W[j]? = some w → ∀ v, (endOf w, v) ∈ ps → v ∈ W.map endOf
  min : ∀ w ∈ W, ∀ q, Way ps a q → endOf q = endOf w → ¬ kLt ls q w
/-- in the midst of a round: cs is what has been gone through -/
structure BfsM (ls : List Str) (ps : List Pr) (a : Str) (W : List (List Str)) (i : Nat) (wi : List Str) (cs : List Str) : Prop where
  b : Bfs ls ps a W i
  at_ : W[i]? = some wi
  dn : ∀ v ∈ cs, v ∈ W.map endOf
  low : ∀ w ∈ W, w = [a] ∨ ∃ u x, w = u ++ [x] ∧ (kLt ls u wi ∨ (u = wi ∧ x ∈ cs))
theorem Bfs.get_lt {ls : List Str} {ps : List Pr} {a : Str} {W : List (List Str)} {i j k : Nat} {u w : List Str} (h : Bfs ls ps a W i) (hj : W[j]? = some u) (hk : W[k]? = some w) (l : kLt ls u w) : j < k := by
  by_cases c : j < k
  · exact c
  · exfalso
    obtain ⟨h1, e1⟩ := List.getElem?_eq_some_iff.mp hj
    obtain ⟨h2, e2⟩ := List.getElem?_eq_some_iff.mp hk
    by_cases c2 : k = j
    · subst c2
      rw [e1] at e2
      rw [e2] at l
      exact kLt_irr l
    · have := List.pairwise_iff_getElem.mp h.srt k j h2 h1 (by omega)
      rw [e1, e2] at this
      exact kltW_as l this
/-- what is less than the way at i has its end among those found -/
theorem Bfs.below {ls : List Str} {ps : List Pr} {a : Str} {W : List (List Str)} {i : Nat} {wi : List Str} (h : Bfs ls ps a W i) (hi : W[i]? = some wi) {q : List Str} (hq : Way ps a q) : kLt ls q wi → endOf q ∈ W.map endOf := by
  induction hq with
  | one => exact fun _ => List.mem_map.mpr ⟨[a], h.st, rfl⟩
  | @step q u v hq hu m ih =>
    intro l
    have l1 : kLt ls q wi := kLt_tr (kLt_len (by rw [List.length_append, List.length_singleton]; omega)) l
    obtain ⟨w, hw, e⟩ := List.mem_map.mp (ih l1)
    obtain ⟨j, hj, ej⟩ := List.getElem_of_mem hw
    have gj : W[j]? = some w := by rw [List.getElem?_eq_getElem hj, ej]
    have l2 : kLt ls w wi := kLt_le (h.min w hw q hq e.symm) l1
    have hji := h.get_lt gj hi l2
    rw [endOf_snoc]
    refine h.cl j w hji gj v ?_
    have eu : endOf q = u := by
      unfold endOf
      rw [hu]
      rfl
    rw [e, eu]
    exact m
theorem BfsM.add {ls : List Str} {ps : List Pr} {a : Str} {W : List (List Str)} {i : Nat} {wi cs : List Str} {v : Str} (h : BfsM ls ps a W i wi cs) (hm : (endOf wi, v) ∈ ps) (hn : v ∉ W.map endOf) (hc : ∀ x ∈ cs, ixS ls x < ixS ls v) :
    BfsM ls ps a (W ++ [wi ++ [v]]) i wi (cs ++ [v]) := by
  have hwi : wi ∈ W := List.mem_of_getElem? h.at_
  have hil : i < W.length := (List.getElem?_eq_some_iff.mp h.at_).1
  have wy := h.b.way wi hwi
  have wnew : Way ps a (wi ++ [v]) := .step wy (endOf_last wy.ne) hm
  have me : ∀ {x}, x ∈ W.map endOf → x ∈ (W ++ [wi ++ [v]]).map endOf := fun hx => by rw [List.map_append]; exact List.mem_append_left _ hx
  have mv : v ∈ (W ++ [wi ++ [v]]).map endOf := List.mem_map.mpr ⟨wi ++ [v], List.mem_append_right _ (List.mem_singleton.mpr rfl), endOf_snoc _ _⟩
  have wpos : 1 ≤ wi.length := by
    have := wy.ne
    cases wi with
    | nil => exact absurd rfl this
    | cons _ _ => rw [List.length_cons]; omega
  refine ⟨⟨fun w hw => ?_, ?_, ?_, List.mem_append_left _ h.b.st, fun j w hj e x hx => ?_, fun w hw q hq e => ?_⟩, by rw [List.getElem?_append_left hil]; exact h.at_, fun x hx => ?_, fun w hw => ?_⟩
  · rcases List.mem_append.mp hw with m | m
    · exact h.b.way w m
    · rw [List.mem_singleton.mp m]
      exact wnew
  · rw [List.map_append, List.nodup_append]
    refine ⟨h.b.nd, by simp, fun x hx y hy e => hn ?_⟩
    have ey : y = v := by
      have := List.mem_singleton.mp hy
      rw [this, endOf_snoc]
    rw [← ey, ← e]
    exact hx
  · rw [List.pairwise_append]
    refine ⟨h.b.srt, by simp, fun w hw y hy => ?_⟩
    rw [List.mem_singleton.mp hy]
    rcases h.low w hw with e | ⟨u, x, e, l | ⟨e2, hx⟩⟩
    · rw [e]
      exact kLt_len (by rw [List.length_append, List.length_singleton, List.length_singleton]; omega)
    · rw [e]
      exact kLt_snoc l x v
    · rw [e, e2]
      exact kLt_last wi (hc x hx)
  · have hj2 : j < W.length := by omega
    rw [List.getElem?_append_left hj2] at e
    exact me (h.b.cl j w hj e x hx)
  · rcases List.mem_append.mp hw with m | m
    · exact h.b.min w m q hq e
    · have ew := List.mem_singleton.mp m
      subst ew
      rw [endOf_snoc] at e
      intro l
      cases hq with
      | one =>
        have : endOf [a] = v := e
        exact hn (List.mem_map.mpr ⟨[a], h.b.st, this⟩)
      | @step q u v' hq hu m2 =>
        rw [endOf_snoc] at e
        subst e
        have l1 : kLt ls q wi := by
          unfold kLt kltW keyW at l ⊢
          simp only [List.length_append, List.length_singleton, placesOf_snoc] at l
          rcases l with l | ⟨l, p⟩
          · exact Or.inl (by show (q.length : Int) < wi.length; omega)
          · have el : (placesOf ls q).length = (placesOf ls wi).length := by
              rw [placesOf_len, placesOf_len]
              omega
            refine Or.inr ⟨by show (q.length : Int) = wi.length; omega, ?_⟩
            by_cases c : placesOf ls q < placesOf ls wi
            · exact c
            · exfalso
              by_cases c2 : placesOf ls wi < placesOf ls q
              · exact List.lt_asymm p (lt_app el.symm c2 _ _)
              · have ep : placesOf ls q = placesOf ls wi := List.le_antisymm (List.not_lt.mp c2) (List.not_lt.mp c)
                rw [ep] at p
                exact List.lt_irrefl _ p
        obtain ⟨w, hw2, e2⟩ := List.mem_map.mp (h.b.below h.at_ hq l1)
        obtain ⟨j, hj, ej⟩ := List.getElem_of_mem hw2
        have gj : W[j]? = some w := by rw [List.getElem?_eq_getElem hj, ej]
        have l2 : kLt ls w wi := kLt_le (h.b.min w hw2 q hq e2.symm) l1
        have eu : endOf q = u := by
          unfold endOf
          rw [hu]
          rfl
        exact hn (h.b.cl j w (h.b.get_lt gj h.at_ l2) gj _ (by rw [e2, eu]; exact m2))
  · rcases List.mem_append.mp hx with m | m
    · exact me (h.dn x m)
    · rw [List.mem_singleton.mp m]
      exact mv
  · rcases List.mem_append.mp hw with m | m
    · rcases h.low w m with e | ⟨u, x, e, l | ⟨e2, hx⟩⟩
      · exact Or.inl e
      · exact Or.inr ⟨u, x, e, Or.inl l⟩
      · exact Or.inr ⟨u, x, e, Or.inr ⟨e2, List.mem_append_left _ hx⟩⟩
    · exact Or.inr ⟨wi, v, List.mem_singleton.mp m, Or.inr ⟨rfl, List.mem_append_right _ (List.mem_singleton.mpr rfl)⟩⟩
theorem BfsM.skip {ls : List Str} {ps : List Pr} {a : Str} {W : List (List Str)} {i : Nat} {wi cs : List Str} {v : Str} (h : BfsM ls ps a W i wi cs) (hn : v ∈ W.map endOf) : BfsM ls ps a W i wi (cs ++ [v]) := by
  refine ⟨h.b, h.at_, fun x hx => ?_, fun w hw => ?_⟩
  · rcases List.mem_append.mp hx with m | m
    · exact h.dn x m
    · rw [List.mem_singleton.mp m]
      exact hn
  · rcases h.low w hw with e | ⟨u, x, e, l | ⟨e2, hx⟩⟩
    · exact Or.inl e
    · exact Or.inr ⟨u, x, e, Or.inl l⟩
    · exact Or.inr ⟨u, x, e, Or.inr ⟨e2, List.mem_append_left _ hx⟩⟩
/-- as long as the goal hasn't been met there is a further way -/
theorem Bfs.more {ls : List Str} {ps : List Pr} {a b : Str} {W : List (List Str)} {i : Nat} (h : Bfs ls ps a W i) (hr : Rch ps a b) (hb : ∀ (j : Nat) w, j < i → W[j]? = some w → endOf w ≠ b) : i < W.length := by
  by_cases c : i < W.length
  · exact c
  · exfalso
    have cl : ∀ w ∈ W, ∀ v, (endOf w, v) ∈ ps → v ∈ W.map endOf := fun w hw v hv => by
      obtain ⟨j, hj, ej⟩ := List.getElem_of_mem hw
      exact h.cl j w (by omega) (by rw [List.getElem?_eq_getElem hj, ej]) v hv
    have key : ∀ {x}, Rch ps a x → x ∈ W.map endOf := by
      intro x r
      induction r with
      | one m => exact cl [a] h.st _ m
      | step _ m ih =>
        obtain ⟨w, hw, e⟩ := List.mem_map.mp ih
        exact cl w hw _ (by rw [e]; exact m)
    obtain ⟨w, hw, e⟩ := List.mem_map.mp (key hr)
    obtain ⟨j, hj, ej⟩ := List.getElem_of_mem hw
    exact hb j w (by omega) (by rw [List.getElem?_eq_getElem hj, ej]) e
/-- the least of the shortest ways from a to b -/
structure Best (ls : List Str) (ps : List Pr) (a b : Str) (w : List Str) : Prop where
  way : Way ps a w
  last : w.getLast? = some b
  min : ∀ q, Way ps a q → q.getLast? = some b → ¬ kLt ls q w
end L3
namespace L3
open PySem PySem.Spec PyProof.Rows L2 TB LamX OwnE
end L3
namespace L3
open PySem PySem.Spec PyProof.Rows L2 TB LamX OwnE
/-- the ways as they stand: the list at wa of lists, none of them met before -/
structure WAt (H0 H : Hp) (wa ma : Addr) (as : List Addr) (W : List (List Str)) : Prop where
  len : as.length = W.length
  at_ : ∀ (j : Nat) p w, as[j]? = some p → W[j]? = some w → H p = some (.lst (w.map V.str)) ∧ H0 p = none ∧ p ≠ wa ∧ p ≠ ma
theorem WAt.keep {H0 H H' : Hp} {wa ma : Addr} {as : List Addr} {W : List (List Str)} (h : WAt H0 H wa ma as W) (k : ∀ b o, H b = some o → b ≠ wa → b ≠ ma → H' b = some o) : WAt H0 H' wa ma as W :=
  ⟨h.len, fun j p w h1 h2 => by
    obtain ⟨a, b, c, d⟩ := h.at_ j p w h1 h2
    exact ⟨k p _ a c d, b, c, d⟩⟩
theorem Way.len {ls : List Str} {ps : List Pr} {a : Str} {W : List (List Str)} {i : Nat} (ok : OrdOk ls ps) (ha : a ∈ ls) (h : Bfs ls ps a W i) : W.length ≤ ls.length := by
  have := nodup_le (l := W.map endOf) (m := ls) h.nd fun z hz => by
    obtain ⟨w, hw, rfl⟩ := List.mem_map.mp hz
    have wy := h.way w hw
    exact wy.mem ok.mem ha _ (List.mem_of_getLast? (endOf_last wy.ne))
  rw [List.length_map] at this
  exact this
/-- a way is no longer than there are locks -/
theorem Best.len {ls : List Str} {ps : List Pr} {a : Str} (ok : OrdOk ls ps) (ac : ∀ z, ¬ Rch ps z z) (ha : a ∈ ls) {w : List Str} (h : Way ps a w) : w.Nodup ∧ ∀ x ∈ w, ∀ v, w.getLast? = some v → x = v ∨ Rch ps x v := by
  induction h with
  | one => exact ⟨by simp, fun x hx v e => by
      obtain rfl : a = v := by simpa using e
      exact Or.inl (List.mem_singleton.mp hx)⟩
  | @step w u v hw hu m ih =>
    obtain ⟨nd, ih⟩ := ih
    have hx2 : ∀ x ∈ w, Rch ps x v := fun x hx => by
      rcases ih x hx u hu with rfl | r
      · exact .one m
      · exact .step r m
    refine ⟨List.nodup_append.mpr ⟨nd, by simp, fun x hx y hy e => ?_⟩, fun x hx y e => ?_⟩
    · rw [List.mem_singleton.mp hy] at e
      rw [← e] at hx2
      exact ac x (hx2 x hx)
    · rw [last_snoc] at e
      obtain rfl := Option.some.inj e
      rcases List.mem_append.mp hx with h | h
      · exact Or.inr (hx2 x h)
      · exact Or.inl (List.mem_singleton.mp h)
end L3
namespace L3
open PySem PySem.Spec PyProof.Rows L2 TB LamX OwnE
end L3
namespace L3
open PySem PySem.Spec PyProof.Rows L2 TB LamX OwnE
open C8 (Cal Met Mak)
section
variable {X : Sx} {K : PySem.W.Frag}
theorem RVL.at {c : Ct} {F : Hp} {σ : L2.St} : ∀ {rs : List Rv} {vs : List V}, RVL c F σ rs vs → ∀ i : Nat, (rs[i]? = none ∧ vs[i]? = none) ∨ ∃ r v, rs[i]? = some r ∧ vs[i]? = some v ∧ RV c F σ r v
  | [], _, h, i => by
    rw [show _ = [] from h]
    exact Or.inl ⟨rfl, rfl⟩
  | r :: rs, _, h, 0 => by
    obtain ⟨v, t, rfl, q, z⟩ := h
    exact Or.inr ⟨r, v, rfl, rfl, q⟩
  | r :: rs, _, h, i + 1 => by
    obtain ⟨v, t, rfl, q, z⟩ := h
    rcases RVL.at z i with ⟨a, b⟩ | ⟨r', v', a, b, e⟩
    · exact Or.inl ⟨by simpa using a, by simpa using b⟩
    · exact Or.inr ⟨r', v', by simpa using a, by simpa using b, e⟩
end
end L3
namespace L3
open PySem PySem.Spec PyProof.Rows L2 TB LamX OwnE
theorem Way.head {ps : List Pr} {a : Str} {w : List Str} (h : Way ps a w) : ∃ r, w = a :: r := by
  induction h with
  | one => exact ⟨[], rfl⟩
  | step _ _ _ ih =>
    obtain ⟨r, rfl⟩ := ih
    exact ⟨r ++ [_], rfl⟩
theorem Way.cons {ps : List Pr} {a c : Str} {w : List Str} (m : (a, c) ∈ ps) (h : Way ps c w) : Way ps a (a :: w) := by
  induction h with
  | one => exact .step (w := [a]) .one (by simp) m
  | @step w u v hw hu m2 ih =>
    refine .step (w := a :: w) ih ?_ m2
    obtain ⟨r, rfl⟩ := hw.head
    rw [List.getLast?_cons_cons]
    exact hu
theorem Way.tail {ps : List Pr} {a : Str} {w : List Str} (h : Way ps a w) : w = [a] ∨ ∃ c r, w = a :: r ∧ (a, c) ∈ ps ∧ Way ps c r := by
  induction h with
  | one => exact Or.inl rfl
  | @step w u v hw hu m ih =>
    rcases ih with rfl | ⟨c, r, rfl, hc, hr⟩
    · obtain rfl : a = u := by simpa using hu
      exact Or.inr ⟨v, [v], rfl, m, .one⟩
    · refine Or.inr ⟨c, r ++ [v], rfl, hc, .step hr ?_ m⟩
      obtain ⟨r', rfl⟩ := hr.head
      rw [List.getLast?_cons_cons] at hu
      exact hu
end L3
namespace L2
open PySem PySem.Spec PyProof.Rows
end L2
namespace L3
open PySem PySem.Spec PyProof.Rows L2 TB LamX
/-- a pile that rises by ps, of locks among ls -/
def PilOk (ls : List Str) (ps : List Pr) (zs : List Str) : Prop := (∀ e ∈ zs, e ∈ ls) ∧ RiseP ps zs
theorem PilOk.nil {ls : List Str} {ps : List Pr} : PilOk ls ps [] := ⟨(fun _ z => nomatch z), (fun k j a b _ ha _ => nomatch ha)⟩
theorem PilOk.len {ls : List Str} {ps : List Pr} {zs : List Str} (h : PilOk ls ps zs) (h0 : ∀ a, ¬ Rch ps a a) : zs.length ≤ ls.length :=
  nodup_le (m := ls) (RiseP.nodup h0 h.2) h.1
theorem PilOk.mono {ls : List Str} {ps qs : List Pr} {zs : List Str} (h : PilOk ls ps zs) (s : ∀ p ∈ ps, p ∈ qs) : PilOk ls qs zs := ⟨h.1, h.2.mono s⟩
/-- one ask of a pile: from a to b -/
def StepOk (ws : List Str) (qs : List Pr) (a b : List Str) : Prop := ∃ n z, n ≤ a.length ∧ b = a.take n ++ [z] ∧ z ∈ ws ∧ z ∉ a ∧ ∀ u ∈ a.drop n, Rch qs z u
/-- a walk of a pile from none on -/
structure WalkOk (ws : List Str) (qs : List Pr) (wk : List (List Str)) : Prop where
  sub : ∀ zs ∈ wk, zs.Nodup ∧ ∀ z ∈ zs, z ∈ ws
  stp : ∀ (i : Nat) (a b : List Str), wk[i]? = some a → wk[i + 1]? = some b → StepOk ws qs a b
theorem StepOk.mono {ws : List Str} {ps qs : List Pr} {a b : List Str} (h : StepOk ws ps a b) (s : ∀ p ∈ ps, p ∈ qs) : StepOk ws qs a b := by
  obtain ⟨n, z, h1, h2, h3, h4, h5⟩ := h
  exact ⟨n, z, h1, h2, h3, h4, fun u hu => (h5 u hu).mono s⟩
theorem WalkOk.mono {ws : List Str} {ps qs : List Pr} {wk : List (List Str)} (h : WalkOk ws ps wk) (s : ∀ p ∈ ps, p ∈ qs) : WalkOk ws qs wk :=
  ⟨h.sub, fun i a b h1 h2 => (h.stp i a b h1 h2).mono s⟩
theorem WalkOk.one {ws : List Str} {ps : List Pr} : WalkOk ws ps [[]] := by
  refine ⟨fun zs h => ?_, fun i a b _ h2 => by simp at h2⟩
  rw [List.mem_singleton.mp h]
  exact ⟨List.nodup_nil, fun _ z => nomatch z⟩
end L3
namespace L3
open PySem PySem.Spec PyProof.Rows L2 TB LamX
section
variable {X : Sx} {c : Ct} {F H F' H' : Hp} {σ σ' : L2.St} {ρ ρ' : PSt}
/-- a list at w of own lists at ps -/
structure Nest (c : Ct) (F H : Hp) (σ : L2.St) (ρ : PSt) (w : Addr) (ps : List Addr) (dss : List (List D)) : Prop where
  top : F w = some (.lst (ps.map V.ref))
  nd : ps.Nodup
  len : ps.length = dss.length
  cell : ∀ (i : Nat) (p : Addr) (ds : List D), ps[i]? = some p → dss[i]? = some ds → NewL c F H σ ρ p ds
/-- one told, one more at its end -/
theorem Nest.app {w p : Addr} {ps : List Addr} {dss : List (List D)} {k : Nat} {ds : List D} {d : D} {v : V} {vs : List V} (n : Nest c F H σ ρ w ps dss) (hk : ps[k]? = some p) (hd : dss[k]? = some ds) (hp : H p = some (.lst vs)) (hr : RpL c.K F ds vs) (hv : Rp c.K F d v) : Nest c F (upd H p (.lst (vs ++ [v]))) σ ρ w ps (dss.set k (ds ++ [d])) := by
  have hkl := (List.getElem?_eq_some_iff.mp hd).1
  refine ⟨n.top, n.nd, by rw [List.length_set]; exact n.len, fun i q es h1 h2 => ?_⟩
  by_cases e : k = i
  · subst e
    rw [hk] at h1
    obtain rfl := Option.some.inj h1
    rw [List.getElem?_set_self hkl] at h2
    obtain rfl := Option.some.inj h2
    have m := n.cell k p ds hk hd
    exact ⟨⟨_, upd_same, hr.app ⟨v, [], rfl, hv, rfl⟩⟩, m.f, m.n, m.b, m.o⟩
  · rw [List.getElem?_set_ne e] at h2
    have m := n.cell i q es h1 h2
    have ne : q ≠ p := by
      rintro rfl
      obtain ⟨l1, e1⟩ := List.getElem?_eq_some_iff.mp h1
      obtain ⟨l2, e2⟩ := List.getElem?_eq_some_iff.mp hk
      exact e ((List.getElem?_inj l2 n.nd).mp (hk.trans h1.symm))
    obtain ⟨us, g1, g2⟩ := m.l
    exact ⟨⟨us, by rw [upd_ne ne]; exact g1, g2⟩, m.f, m.n, m.b, m.o⟩
theorem keepAll : ∀ {ps : List Addr} {dss : List (List D)} {F : Hp}, Rel c F H σ ρ → ps.Nodup → ps.length = dss.length → (∀ (i : Nat) (p : Addr) (ds : List D), ps[i]? = some p → dss[i]? = some ds → NewL c F H σ ρ p ds) → ∃ F', Rel c F' H σ ρ ∧ Same F F' ∧ RpL c.K F' (dss.map D.lst) (ps.map V.ref)
  | [], [], F, R, _, _, _ => ⟨F, R, Same.refl F, rfl⟩
  | [], _ :: _, _, _, _, l, _ => nomatch l
  | _ :: _, [], _, _, _, l, _ => nomatch l
  | p :: ps, ds :: dss, F, R, nd, l, h => by
    obtain ⟨vs, R1, s1, r1⟩ := (h 0 p ds rfl rfl).keep R
    obtain ⟨hn, nd2⟩ := List.nodup_cons.mp nd
    obtain ⟨F2, R2, s2, r2⟩ := keepAll (ps := ps) (dss := dss) R1 nd2 (by simpa using l) (fun i q es h1 h2 => by
      have m := h (i + 1) q es h1 h2
      have ne : q ≠ p := by
        rintro rfl
        exact hn (List.mem_of_getElem? h1)
      obtain ⟨us, g1, g2⟩ := m.l
      exact ⟨⟨us, g1, g2.mono s1⟩, by rw [upd_ne ne]; exact m.f, m.n, m.b, m.o⟩)
    exact ⟨F2, R2, tr s1 s2, _, _, rfl, r1.mono s2, r2⟩
theorem Nest.keep {w : Addr} {ps : List Addr} {dss : List (List D)} (R : Rel c F H σ ρ) (n : Nest c F H σ ρ w ps dss) : ∃ F', Rel c F' H σ ρ ∧ Same F F' ∧ Rp c.K F' (.lst (dss.map D.lst)) (.ref w) := by
  obtain ⟨F2, R2, s2, r2⟩ := keepAll R n.nd n.len n.cell
  exact ⟨F2, R2, s2, w, _, rfl, s2 _ _ n.top, r2⟩
end
end L3
namespace L2
open PySem PySem.Spec PyProof.Rows
end L2
namespace L3
open PySem PySem.Spec PyProof.Rows L2 TB LamX
end L3
namespace L3
open PySem PySem.Spec PyProof.Rows L2 TB LamX
theorem hgt_from (so : List Str) : ∀ (l : List Str) (c : Int), l.foldl (fun a z => 2 * a + (if z ∈ so then 1 else 0)) c = c * 2 ^ l.length + hgt l so
  | [], c => by simp [hgt]
  | z :: l, c => by
    unfold hgt
    rw [List.foldl_cons, List.foldl_cons, hgt_from so l, hgt_from so l (2 * 0 + _), List.length_cons, Int.pow_succ]
    have e : (2 : Int) ^ l.length * 2 = 2 ^ l.length + 2 ^ l.length := by omega
    generalize (2 : Int) ^ l.length = p at e ⊢
    rw [e]
    simp only [Int.mul_zero, Int.zero_add, Int.add_mul, Int.mul_add, Int.two_mul]
    omega
theorem hgt_cons (so : List Str) (z : Str) (l : List Str) : hgt (z :: l) so = (if z ∈ so then 1 else 0) * 2 ^ l.length + hgt l so := by
  have h := hgt_from so l (2 * 0 + (if z ∈ so then 1 else 0))
  unfold hgt at h ⊢
  rw [List.foldl_cons, h]
  simp
theorem hgt_lo (so : List Str) : ∀ l : List Str, 0 ≤ hgt l so ∧ hgt l so < 2 ^ l.length
  | [] => by simp [hgt]
  | z :: l => by
    obtain ⟨h1, h2⟩ := hgt_lo so l
    rw [hgt_cons, List.length_cons, Int.pow_succ]
    split <;> omega
theorem hgt_lt {a b : List Str} {z : Str} (ha : z ∉ a) (hb : z ∈ b) (post : List Str) : ∀ pre : List Str, (∀ y ∈ pre, y ∈ a ↔ y ∈ b) → hgt (pre ++ z :: post) a < hgt (pre ++ z :: post) b
  | [], _ => by
    rw [List.nil_append, hgt_cons, hgt_cons, if_neg ha, if_pos hb]
    have h1 := hgt_lo a post
    have h2 := hgt_lo b post
    omega
  | y :: pre, h => by
    have ih := hgt_lt ha hb post pre (fun x hx => h x (List.mem_cons_of_mem _ hx))
    rw [List.cons_append, hgt_cons, hgt_cons]
    have e : (if y ∈ a then (1 : Int) else 0) = if y ∈ b then 1 else 0 := by
      by_cases c : y ∈ a
      · rw [if_pos c, if_pos ((h y List.mem_cons_self).mp c)]
      · rw [if_neg c, if_neg (fun c2 => c ((h y List.mem_cons_self).mpr c2))]
    rw [e]
    omega
theorem line_rch {ls : List Str} {ps : List Pr} {line : List Str} (L : LineP ls ps line) {z u : Str} (h : Rch ps z u) : ∀ i, line[i]? = some u → z ∈ line.take i := by
  induction h with
  | one m => intro i hi; exact freeB_iff.mp (L.free i _ hi) _ m
  | step _ m ih =>
    intro i hi
    have h1 := freeB_iff.mp (L.free i _ hi) _ m
    obtain ⟨j, hj, e⟩ := List.mem_iff_getElem.mp h1
    rw [List.length_take] at hj
    rw [List.getElem_take] at e
    have h2 := ih j (by rw [List.getElem?_eq_getElem (by omega), e])
    obtain ⟨k, hk, e2⟩ := List.mem_iff_getElem.mp h2
    rw [List.length_take] at hk
    rw [List.getElem_take] at e2
    exact List.mem_iff_getElem.mpr ⟨k, by rw [List.length_take]; omega, by rw [List.getElem_take]; exact e2⟩
theorem StepOk.rise {ws : List Str} {qs : List Pr} {ln a b : List Str} (L : LineP ws qs ln) (ok : OrdOk ws qs) (h : StepOk ws qs a b) : hgt ln a < hgt ln b := by
  obtain ⟨n, z, h1, rfl, h3, h4, h5⟩ := h
  have hz : z ∈ ln := L.pm.mem_iff.mpr h3
  have nd : ln.Nodup := L.pm.nodup_iff.mpr ok.nd
  obtain ⟨pre, post, rfl⟩ := List.append_of_mem hz
  refine hgt_lt h4 (by simp) post pre (fun y hy => ?_)
  rw [List.nodup_append] at nd
  have ny : y ≠ z := fun e => nd.2.2 y hy z List.mem_cons_self e
  rw [List.mem_append, List.mem_singleton]
  constructor
  · intro hya
    rw [← List.take_append_drop n a] at hya
    rcases List.mem_append.mp hya with hya | hya
    · exact Or.inl hya
    · exfalso
      obtain ⟨i, hi, e⟩ := List.mem_iff_getElem.mp hy
      have hm := line_rch L (h5 y hya) i (by rw [List.getElem?_append_left hi, List.getElem?_eq_getElem hi, e])
      rw [List.take_append_of_le_length (Nat.le_of_lt hi)] at hm
      exact nd.2.2 z (List.mem_of_mem_take hm) z List.mem_cons_self rfl
  · rintro (hyt | e)
    · exact List.mem_of_mem_take hyt
    · exact absurd e ny
/-- rising numbers below N are at most N -/
theorem rise_len (N : Int) : ∀ (l : List Int) (c : Int), (∀ x ∈ l, x < N) → (∀ (i : Nat) (x y : Int), (c :: l)[i]? = some x → (c :: l)[i + 1]? = some y → x < y) → c < N → (l.length : Int) < N - c
  | [], c, _, _, h => by simp; omega
  | x :: l, c, h1, h2, h3 => by
    have hx : c < x := h2 0 c x rfl rfl
    have ih := rise_len N l x (fun y hy => h1 y (List.mem_cons_of_mem _ hy)) (fun i y w e1 e2 => h2 (i + 1) y w e1 e2) (h1 x List.mem_cons_self)
    rw [List.length_cons]
    omega
def hgts (ln : List Str) (wk : List (List Str)) : List Int := wk.map (hgt ln)
theorem WalkOk.rises {ws : List Str} {qs : List Pr} {ln : List Str} {wk : List (List Str)} (L : LineP ws qs ln) (ok : OrdOk ws qs) (h : WalkOk ws qs wk) : ∀ (i : Nat) (x y : Int), (hgts ln wk)[i]? = some x → (hgts ln wk)[i + 1]? = some y → x < y := by
  intro i x y e1 e2
  unfold hgts at e1 e2
  rw [List.getElem?_map] at e1 e2
  obtain ⟨a, ha, rfl⟩ := Option.map_eq_some_iff.mp e1
  obtain ⟨b, hb, rfl⟩ := Option.map_eq_some_iff.mp e2
  exact (h.stp i a b ha hb).rise L ok
theorem WalkOk.len {ws : List Str} {qs : List Pr} {ln : List Str} {wk : List (List Str)} (L : LineP ws qs ln) (ok : OrdOk ws qs) (h : WalkOk ws qs wk) : ((wk.length : Nat) : Int) - 1 ≤ 2 ^ ln.length - 1 := by
  have hr := h.rises L ok
  cases wk with
  | nil =>
    have : (0 : Int) < 2 ^ ln.length := Int.pow_pos (by decide)
    simp
    omega
  | cons a wk =>
    have h1 := rise_len (2 ^ ln.length) (hgts ln wk) (hgt ln a) (fun x hx => by
      obtain ⟨b, _, rfl⟩ := List.mem_map.mp hx
      exact (hgt_lo b ln).2) (fun i x y e1 e2 => hr i x y e1 e2) (hgt_lo a ln).2
    have h2 := (hgt_lo a ln).1
    simp only [hgts, List.length_map] at h1
    rw [List.length_cons]
    omega
end L3
namespace L2
open PySem PySem.Spec PyProof.Rows
end L2
namespace L2
open PySem PySem.Spec PyProof.Rows
end L2
namespace L2
open PySem PySem.Spec PyProof.Rows
end L2
namespace L3
open PySem PySem.Spec PyProof.Rows L2 TB LamX
end L3
namespace L3
open PySem PySem.Spec PyProof.Rows L2 TB LamX
def swp (p : Pr) : Pr := (p.2, p.1)
/-- of unlike two locks -/
def UD (p q : Pr) : Prop := q ≠ p ∧ q ≠ swp p
/-- all two of ls, each once, this or that way about -/
structure AllP (ls : List Str) (l : List Pr) : Prop where
  mem : ∀ p ∈ l, p.1 ∈ ls ∧ p.2 ∈ ls ∧ p.1 ≠ p.2
  ud : l.Pairwise UD
  cov : ∀ a ∈ ls, ∀ b ∈ ls, a ≠ b → (a, b) ∈ l ∨ (b, a) ∈ l
theorem AllP.nil : AllP [] [] := ⟨(fun _ z => nomatch z), List.Pairwise.nil, (fun _ z => nomatch z)⟩
end L3
namespace L3
open PySem PySem.Spec PyProof.Rows L2 TB LamX
open Classical in
/-- how many of ls are behind z -/
noncomputable def cnt (ls : List Str) (qs : List Pr) (z : Str) : Nat := (ls.filter fun u => decide (Rch qs z u)).length
/-- whole: of each two one is behind the other -/
structure Whole (ls : List Str) (qs : List Pr) : Prop where
  nd : ls.Nodup
  ac : ∀ a, ¬ Rch qs a a
  tot : ∀ a ∈ ls, ∀ b ∈ ls, a ≠ b → Rch qs a b ∨ Rch qs b a
section
variable {ls : List Str} {qs : List Pr}
theorem Whole.lt (h : Whole ls qs) {a b : Str} (hb : b ∈ ls) (r : Rch qs a b) : cnt ls qs b < cnt ls qs a := by
  classical
  unfold cnt
  have h1 : (b :: ls.filter fun u => decide (Rch qs b u)).length ≤ (ls.filter fun u => decide (Rch qs a u)).length := by
    refine nodup_le (List.nodup_cons.mpr ⟨fun m => ?_, h.nd.sublist List.filter_sublist⟩) (fun x hx => ?_)
    · exact h.ac b (by simpa using (List.mem_filter.mp m).2)
    · rcases List.mem_cons.mp hx with rfl | hx
      · exact List.mem_filter.mpr ⟨hb, decide_eq_true r⟩
      · obtain ⟨m1, m2⟩ := List.mem_filter.mp hx
        exact List.mem_filter.mpr ⟨m1, decide_eq_true (Rch.trans r (by simpa using m2))⟩
  rw [List.length_cons] at h1
  omega
theorem Whole.inj (h : Whole ls qs) {a b : Str} (ha : a ∈ ls) (hb : b ∈ ls) (e : cnt ls qs a = cnt ls qs b) : a = b := by
  by_cases c : a = b
  · exact c
  · rcases h.tot a ha b hb c with r | r
    · have := h.lt hb r
      omega
    · have := h.lt ha r
      omega
theorem Whole.bound (h : Whole ls qs) {a : Str} (ha : a ∈ ls) : cnt ls qs a < ls.length := by
  classical
  unfold cnt
  have h1 : (a :: ls.filter fun u => decide (Rch qs a u)).length ≤ ls.length := by
    refine nodup_le (List.nodup_cons.mpr ⟨fun m => ?_, h.nd.sublist List.filter_sublist⟩) (fun x hx => ?_)
    · exact h.ac a (by simpa using (List.mem_filter.mp m).2)
    · rcases List.mem_cons.mp hx with rfl | hx
      · exact ha
      · exact (List.mem_filter.mp hx).1
  rw [List.length_cons] at h1
  omega
/-- in a line the counts fall one by one -/
theorem Whole.line (h : Whole ls qs) {line : List Str} (L : LineP ls qs line) : ∀ i (hi : i < line.length), cnt ls qs line[i] = ls.length - 1 - i := by
  have len := L.pm.length_eq
  have nd : line.Nodup := L.pm.nodup_iff.mpr h.nd
  have mem : ∀ i (hi : i < line.length), line[i] ∈ ls := fun i hi => L.pm.mem_iff.mp (List.getElem_mem hi)
  have fall : ∀ i j (hi : i < line.length) (hj : j < line.length), i < j → cnt ls qs line[j] < cnt ls qs line[i] := by
    intro i j hi hj hij
    have ne : line[i] ≠ line[j] := fun e => by
      have := (List.getElem_inj nd).mp e
      omega
    rcases h.tot _ (mem i hi) _ (mem j hj) ne with r | r
    · exact h.lt (mem j hj) r
    · exfalso
      have m := line_rch L r i (List.getElem?_eq_getElem hi)
      obtain ⟨k, hk, e⟩ := List.mem_iff_getElem.mp m
      rw [List.length_take] at hk
      rw [List.getElem_take] at e
      have := (List.getElem_inj nd).mp e
      omega
  have up : ∀ i (hi : i < line.length), cnt ls qs line[i] + i ≤ ls.length - 1 := by
    intro i
    induction i with
    | zero =>
      intro hi
      have := h.bound (mem 0 hi)
      omega
    | succ i ih =>
      intro hi
      have h1 := ih (by omega)
      have h2 := fall i (i + 1) (by omega) hi (by omega)
      omega
  have lo : ∀ k i (hi : i < line.length), line.length - 1 - i = k → line.length - 1 - i ≤ cnt ls qs line[i] := by
    intro k
    induction k with
    | zero => intro i hi e; omega
    | succ k ih =>
      intro i hi e
      have h1 := ih (i + 1) (by omega) (by omega)
      have h2 := fall i (i + 1) hi (by omega) (by omega)
      omega
  intro i hi
  have h1 := up i hi
  have h2 := lo _ i hi rfl
  omega
end
end L3
namespace L3
open PySem PySem.Spec PyProof.Rows L2 TB LamX
end L3
namespace L2
open PySem PySem.Spec PyProof.Rows
end L2
namespace L3
open PySem PySem.Spec PyProof.Rows L2 TB LamX
end L3
namespace L3
open PySem PySem.Spec PyProof.Rows L2 TB LamX
end L3
namespace TB
open PySem PySem.Spec PyProof.Rows L2
open PySem.SeqAt PySem.MeetsSeq PySem.MeetsSeq2 PySem.MeetsSeq3 PySem.SeqRoads2
open PySem.AutoSeq1 (wpAny_loadPart')
/-- the object at a is a dict -/
def DictObj (h : Heap) (a : Addr) : Prop := ∃ (o : Obj) (es : Array DictEntry) (n : Nat), h.get? a = some o ∧ o.cls = .type "dict" ∧ o.data = .dict es n
theorem dict_no_str (l : Addr) (es : Array DictEntry) (n : Nat) (dd : Option Addr) (sl : Array (Option Value)) (b : Str) (u : Tok) :
    Meets (Builtin.«dict.__eq__» ⟨[.ref l, .str b u], []⟩) (fun _ R s => s.heap.get? l = some { cls := .type "dict", dict := dd, data := .dict es n, slots := sl } ∧ R (.ok (.ret .notImplemented)) s) :=
  .of_wp fun prog w A R s h => by
    obtain ⟨hp, g, d, tk, os⟩ := s
    obtain ⟨hl, h⟩ := h
    have f1 := F.sub_str_dict
    wp_walk using wpAny_loadPart' hl
    exact ⟨_, rfl, h⟩
theorem str_no_dict (b : Str) (u : Tok) (l : Addr) (es : Array DictEntry) (n : Nat) (dd : Option Addr) (sl : Array (Option Value)) :
    Meets (Builtin.«str.__eq__» ⟨[.str b u, .ref l], []⟩) (fun _ R s => s.heap.get? l = some { cls := .type "dict", dict := dd, data := .dict es n, slots := sl } ∧ R (.ok (.ret .notImplemented)) s) :=
  .of_wp fun prog w A R s h => by
    obtain ⟨hp, g, d, tk, os⟩ := s
    obtain ⟨hl, h⟩ := h
    wp_walk using wpAny_loadPart' hl, wpAny_load hl
    exact ⟨_, rfl, h⟩
section
variable {A : Around} {s : Shared}
theorem eqAt_dict_str {l : Addr} (b : Str) (u : Tok) (hl : DictObj s.heap l) (hu : A.units < cLine) : EqAt A s (.ref l) (.str b u) false := fun prog w E Q h => by
  obtain ⟨⟨cls, dd, data, sl⟩, es, n, ho, hc, hd⟩ := hl
  simp only at hc hd
  subst hc
  subst hd
  unfold eqBool
  refine wpAny_holding (wpAny_ite_split (fun hab => absurd (eq_of_beq hab) nofun) (fun _ => wpAny_bind ?_))
  exact rc_eq_decline_or (k := false) ⟨_, ho, rfl⟩ (typeIs_str s b u) (by decide) F.sub_str_dict F.slot_dict_eq F.slot_str_eq_refl (fun _ hq => call_meets F.slot_dict_eq ⟨_, ho, rfl⟩ F.entry_dict_eq (F.args_dict_eq_2 _ _) (dict_no_str l es n dd sl b u) ⟨ho, hq⟩)
    (fun _ hq => call_meets F.slot_str_eq_refl (typeIs_str s b u) F.entry_str_eq (F.args_str_eq_2 _ _) (str_no_dict b u l es n dd sl) ⟨ho, hq⟩) (fun _ hq => wpAny_of_eq (rfl : isSame (.ref l) (.str b u) = pure false) hq) (.inr hu) (wpAny_truthy_bool h)
theorem eqAt_str_dict {l : Addr} (b : Str) (u : Tok) (hl : DictObj s.heap l) (hu : A.units < cLine) : EqAt A s (.str b u) (.ref l) false := fun prog w E Q h => by
  obtain ⟨⟨cls, dd, data, sl⟩, es, n, ho, hc, hd⟩ := hl
  simp only at hc hd
  subst hc
  subst hd
  unfold eqBool
  refine wpAny_holding (wpAny_ite_split (fun hab => absurd (eq_of_beq hab) nofun) (fun _ => wpAny_bind ?_))
  exact rc_eq_decline_or (k := false) (typeIs_str s b u) ⟨_, ho, rfl⟩ (by decide) F.sub_dict_str F.slot_str_eq F.slot_dict_eq_refl (fun _ hq => call_meets F.slot_str_eq (typeIs_str s b u) F.entry_str_eq (F.args_str_eq_2 _ _) (str_no_dict b u l es n dd sl) ⟨ho, hq⟩)
    (fun _ hq => call_meets F.slot_dict_eq_refl ⟨_, ho, rfl⟩ F.entry_dict_eq (F.args_dict_eq_2 _ _) (dict_no_str l es n dd sl b u) ⟨ho, hq⟩) (fun _ hq => wpAny_of_eq (rfl : isSame (.str b u) (.ref l) = pure false) hq) (.inr hu) (wpAny_truthy_bool h)
end
def keyD : Key → PyData
  | .inl i => .int i
  | .inr x => .str x
mutual
inductive DpX (K : PySem.W.Frag) (H : Hp) : V → PyData → Prop
  | non : DpX K H .non .none
  | bl (b : Bool) : DpX K H (.bl b) (.bool b)
  | int (i : Int) : DpX K H (.int i) (.int i)
  | str (x : Str) : DpX K H (.str x) (.str x)
  | lst {a : Addr} {xs : List V} {ds : List PyData} : SqL K H a xs → DpXA K H xs ds → DpX K H (.ref a) (.list ds)
  | tup {a : Addr} {xs : List V} {ds : List PyData} : SqT K H a xs → DpXA K H xs ds → DpX K H (.ref a) (.tuple ds)
  | dic {a : Addr} {kvs : List (Key × V)} {ds : List PyData} : H a = some (.dK kvs) → DpXA K H (kvs.map (·.2)) ds → DpX K H (.ref a) (.dict ((kvs.map fun p => keyD p.1).zip ds))
inductive DpXA (K : PySem.W.Frag) (H : Hp) : List V → List PyData → Prop
  | nil : DpXA K H [] []
  | cons {v : V} {vs : List V} {d : PyData} {ds : List PyData} : DpX K H v d → DpXA K H vs ds → DpXA K H (v :: vs) (d :: ds)
end
/-- the modules' table is a dict, so no list -/
def SysD (h : Heap) : Prop := ∃ o, h.get? sysModules = some o ∧ o.cls = .type "dict"
theorem dpxa_len {K : PySem.W.Frag} {H : Hp} : ∀ {vs : List V} {ds : List PyData}, DpXA K H vs ds → vs.length = ds.length
  | _, _, .nil => rfl
  | _, _, .cons _ t => by rw [List.length_cons, List.length_cons, dpxa_len t]
theorem zip_fst {α β : Type} : ∀ {as : List α} {bs : List β}, as.length = bs.length → (as.zip bs).map (·.1) = as
  | [], [], _ => rfl
  | a :: as, b :: bs, h => by
    rw [List.zip_cons_cons, List.map_cons, zip_fst (by simpa using h)]
theorem zip_snd {α β : Type} : ∀ {as : List α} {bs : List β}, as.length = bs.length → (as.zip bs).map (·.2) = bs
  | [], [], _ => rfl
  | a :: as, b :: bs, h => by
    rw [List.zip_cons_cons, List.map_cons, zip_snd (by simpa using h)]
theorem keys_read {P : Program} {w : World} {h : Heap} : ∀ {es : List DictEntry} {vs : List (Key × Value)}, Pairs (mixKind P w) es vs → ReadsAll h (es.map (·.key)) (vs.map fun p => keyD p.1) []
  | _, _, .nil => .nil
  | _, _, @Pairs.cons _ _ _ _ _ e kv es kvs hk hv t => by
    rcases keyIs_shape (k := kv.1) (v := e.key) hk with ⟨i, u, e1, e2⟩ | ⟨z, u, e1, e2⟩
    · have r := ReadsAll.cons (as := []) (h := h) (show Reads h e.key (keyD kv.1) [] by rw [e1, e2]; exact Reads.int i u) (keys_read t)
      exact r
    · have r := ReadsAll.cons (as := []) (h := h) (show Reads h e.key (keyD kv.1) [] by rw [e1, e2]; exact Reads.str z u) (keys_read t)
      exact r
theorem vals_of {P : Program} {w : World} : ∀ {es : List DictEntry} {vs : List (Key × Value)}, Pairs (mixKind P w) es vs → es.map (·.val) = vs.map (·.2)
  | _, _, .nil => rfl
  | _, _, .cons _ hv t => by rw [List.map_cons, List.map_cons, hv, vals_of t]
theorem kv_vals : ∀ {kvs : List (Key × V)} {vs : List (Key × Value)}, KV kvs vs → Vals (kvs.map (·.2)) (vs.map (·.2)) ∧ kvs.map (·.1) = vs.map (·.1)
  | _, _, .nil => ⟨.nil, rfl⟩
  | _, _, .cons ⟨e, r⟩ t => by
    obtain ⟨h1, h2⟩ := kv_vals t
    exact ⟨.cons r h1, by rw [List.map_cons, List.map_cons, e, h2]⟩
section
variable {X : Cx} {pins : List (Addr × Obj)} {σ : L2.St} {H : Hp} {s : Shared}
mutual
theorem DpX.reads (I : Inv X pins σ H s) (sy : SysD s.heap) : ∀ {d : PyData} {v : V} {u : Value}, DpX X.K H v d → RelV v u → ∃ as, Reads s.heap u d as ∧ sysModules ∉ as
  | _, _, _, .non, r => by
    cases r
    exact ⟨_, Reads.none, List.not_mem_nil⟩
  | _, _, _, .bl b, r => by
    cases r
    exact ⟨_, Reads.bool b, List.not_mem_nil⟩
  | _, _, _, .int i, r => by
    obtain ⟨t, rfl⟩ := r
    exact ⟨_, Reads.int i t, List.not_mem_nil⟩
  | _, _, _, .str z, r => by
    obtain ⟨t, rfl⟩ := r
    exact ⟨_, Reads.str z t, List.not_mem_nil⟩
  | _, _, _, .lst hs ha, r => by
    cases r
    obtain ⟨its, rv, ⟨o, n, ho, hc, _, hd⟩, _⟩ := I.list hs
    obtain ⟨as, hr, na⟩ := DpXA.reads I sy ha rv
    refine ⟨_, Reads.list ho hc hd hr, fun m => ?_⟩
    rcases List.mem_cons.mp m with e | m
    · obtain ⟨o2, h2, c2⟩ := sy
      rw [e, ho] at h2
      obtain rfl := Option.some.inj h2
      rw [hc] at c2
      exact absurd c2 (by decide)
    · exact na m
  | _, _, _, .tup hs ha, r => by
    cases r
    obtain ⟨its, rv, ⟨o, ho, hc, n, hd⟩, _⟩ := I.tuple hs
    obtain ⟨as, hr, na⟩ := DpXA.reads I sy ha rv
    exact ⟨_, Reads.tuple ho hc hd hr, na⟩
  | _, _, _, @DpX.dic _ _ a kvs ds hs ha, r => by
    cases r
    obtain ⟨_, nsy, vs, kv, o, es, ep, ho, ex, hd, _, pr, _⟩ := dk_of I.hok hs
    obtain ⟨rv, ek⟩ := kv_vals kv
    obtain ⟨as, hr, na⟩ := DpXA.reads I sy ha rv
    have lk : (kvs.map fun p => keyD p.1).length = ds.length := by
      have := dpxa_len ha
      rw [List.length_map] at this ⊢
      exact this
    have e1 : (kvs.map fun p => keyD p.1) = vs.map fun p => keyD p.1 := by
      have := congrArg (List.map keyD) ek
      rw [List.map_map, List.map_map] at this
      exact this
    have rk : ReadsAll s.heap (es.toList.map (·.key)) (((kvs.map fun p => keyD p.1).zip ds).map (·.1)) [] := by
      rw [zip_fst lk, e1]
      exact keys_read pr
    have rd : ReadsAll s.heap (es.toList.map (·.val)) (((kvs.map fun p => keyD p.1).zip ds).map (·.2)) as := by
      rw [zip_snd lk, vals_of pr]
      exact hr
    refine ⟨_, Reads.dict ho ex.1 hd rk rd, fun m => ?_⟩
    rcases List.mem_cons.mp m with e | m
    · rw [← e] at nsy
      exact absurd nsy (by decide)
    · exact na m
theorem DpXA.reads (I : Inv X pins σ H s) (sy : SysD s.heap) : ∀ {ds : List PyData} {vs : List V} {us : List Value}, DpXA X.K H vs ds → Vals vs us → ∃ as, ReadsAll s.heap us ds as ∧ sysModules ∉ as
  | _, _, _, .nil, r => by
    cases r
    exact ⟨_, ReadsAll.nil, List.not_mem_nil⟩
  | _, _, _, .cons h1 h2, r => by
    cases r with
    | cons r1 r2 =>
      obtain ⟨as, q1, n1⟩ := DpX.reads I sy h1 r1
      obtain ⟨bs, q2, n2⟩ := DpXA.reads I sy h2 r2
      exact ⟨_, ReadsAll.cons q1 q2, fun m => (List.mem_append.mp m).elim n1 n2⟩
end
theorem sys_of (hs : He.dictB X.K sysModules = true) (I : Inv X pins σ H s) : SysD s.heap := by
  obtain ⟨es, n, sl, e⟩ := He.dictB_ok hs
  exact ⟨_, I.kIn _ _ e, rfl⟩
end
section
variable {X : Cx}
def rReprX (K : PySem.W.Frag) : List V → Hp → VK → Prop := fun xs H Q => ∃ v d, xs = [v] ∧ DpX K H v d ∧ d.showable = true ∧ d.depth ≤ 50 ∧ d.shown.length ≤ sizeLine ∧ Q (.str d.shown) H
theorem call_reprX (K : PySem.W.Frag) (hs : He.dictB K sysModules = true) (hu : X.A.units + 64 < cLine) (g : X.A.guards = some []) (hK : X.K = K := by rfl) : CallR X (.builtin "repr") (rReprX K) := by
  subst hK
  intro pins s σ H xs us Q I r h
  obtain ⟨v, d, rfl, hd, hsw, hdp, hz, q⟩ := h
  obtain ⟨u, rfl, rv⟩ : ∃ u, us = [u] ∧ RelV v u := by
    cases r with
    | cons r1 r2 => cases r2 with
      | nil => exact ⟨_, rfl, r1⟩
  obtain ⟨as, rd, na⟩ := DpX.reads I (sys_of hs I) hd rv
  have fin : ∀ {a : Addr}, u = .ref a → wpAny (model X.prog X.w) X.A (call (.builtin "repr") [u]) (EP X pins σ Q) X.xe s := by
    rintro a rfl
    exact repr_of_reads' rd hsw (fun _ => na) g (by omega) (fun _ _ e => e) (fun h' t tk hk => ⟨.str _, H, I.kept hk, ⟨_, rfl⟩, q⟩) hz
  cases hd with
  | non =>
    cases rv
    simp only [PyData.shown] at q
    exact PySem.P.repr_of_none ⟨.str _, H, I.tok _, ⟨_, rfl⟩, q⟩
  | bl b =>
    cases rv
    simp only [PyData.shown] at q
    refine PySem.P.repr_of_bool ⟨.str _, H, I.tok _, ⟨_, rfl⟩, ?_⟩
    cases b <;> exact q
  | int i =>
    obtain ⟨t, rfl⟩ := rv
    simp only [PyData.shown] at q
    exact PySem.P.repr_of_int (by simpa [PyData.showable] using hsw) ⟨.str _, H, I.tok _, ⟨_, rfl⟩, q⟩
  | str x =>
    obtain ⟨t, rfl⟩ := rv
    simp only [PyData.shown] at q hz
    exact PySem.P.repr_of_str ⟨.str _, H, I.tok _, ⟨_, rfl⟩, q⟩ hz
  | lst _ _ => exact fin rv
  | tup _ _ => exact fin rv
  | dic _ _ => exact fin rv
end
def EqX (K : PySem.W.Frag) (H : Hp) (i x : V) (b : Bool) : Prop :=
  (∃ d e, Dp K H i d ∧ Dp K H x e ∧ SeqAt.shaped d = true ∧ SeqAt.shaped e = true ∧ b = PyData.eqv d e) ∨
  (∃ (a : Addr) (kvs : List (Key × V)) (z : Str), i = .ref a ∧ H a = some (.dK kvs) ∧ x = .str z ∧ b = false) ∨
  ∃ (a : Addr) (kvs : List (Key × V)) (z : Str), x = .ref a ∧ H a = some (.dK kvs) ∧ i = .str z ∧ b = false
section
variable {X : Cx} {pins : List (Addr × Obj)} {σ : L2.St} {H : Hp} {s : Shared}
theorem dict_at (I : Inv X pins σ H s) {a : Addr} {kvs : List (Key × V)} (h : H a = some (.dK kvs)) : DictObj s.heap a := by
  obtain ⟨_, _, vs, kv, o, es, ep, ho, ex, hd, _⟩ := dk_of I.hok h
  exact ⟨o, es, ep, ho, ex.1, hd⟩
theorem EqX.at (I : Inv X pins σ H s) {A : Around} (hu : A.units + 64 < cLine) {i x : V} {b : Bool} {ui ux : Value} (h : EqX X.K H i x b) (ri : RelV i ui) (rx : RelV x ux) : SeqAt.EqAt A s ui ux b := by
  rcases h with ⟨d, e, h1, h2, s1, s2, rfl⟩ | ⟨a, kvs, z, rfl, ha, rfl, rfl⟩ | ⟨a, kvs, z, rfl, ha, rfl, rfl⟩
  · obtain ⟨as, r1⟩ := Dp.reads I d i ui h1 ri
    obtain ⟨bs, r2⟩ := Dp.reads I e x ux h2 rx
    exact SeqAt.eqAt_reads d e A s ui ux as bs r1 r2 (SeqAt.canLay_of_shaped s1) (SeqAt.canLay_of_shaped s2) (SeqAt.room_of_shaped s1 hu)
  · cases ri
    obtain ⟨t, rfl⟩ := rx
    exact eqAt_dict_str z t (dict_at I ha) (by omega)
  · cases rx
    obtain ⟨t, rfl⟩ := ri
    exact eqAt_str_dict z t (dict_at I ha) (by omega)
end
section
variable {X : Cx}
def rInX (K : PySem.W.Frag) (neg : Bool) : R2 := fun x y H Q => ∃ (p : Addr) (xs : List V) (bs : List Bool), y = .ref p ∧ (SqL K H p xs ∨ SqT K H p xs) ∧ Paired (fun i b => EqX K H i x b) xs bs ∧ Q (.bl (if neg then !bs.any id else bs.any id)) H
end
end TB
namespace L3
open PySem PySem.Spec PyProof.Rows L2 TB LamX
mutual
def pdX : D → Option PyData
  | .non => some .none
  | .bl b => some (.bool b)
  | .int i => some (.int i)
  | .str z => some (.str z)
  | .lst ds => (pdXL ds).map .list
  | .tup ds => (pdXL ds).map .tuple
  | .dic ks ds => if ks.length = ds.length then (pdXL ds).map fun xs => .dict ((ks.map keyD).zip xs) else none
  | _ => none
def pdXL : List D → Option (List PyData)
  | [] => some []
  | d :: ds => consO (pdX d) (pdXL ds)
end
mutual
theorem pdX_dp {K : PySem.W.Frag} {F H : Hp} (s : Same F H) : ∀ {d : D} {v : V} {x : PyData}, Rp K F d v → pdX d = some x → DpX K H v x
  | .non, v, x, h, e => by
    obtain rfl : PyData.none = x := Option.some.inj e
    obtain rfl : v = .non := h
    exact .non
  | .bl b, v, x, h, e => by
    obtain rfl : PyData.bool b = x := Option.some.inj e
    obtain rfl : v = .bl b := h
    exact .bl b
  | .int b, v, x, h, e => by
    obtain rfl : PyData.int b = x := Option.some.inj e
    obtain rfl : v = .int b := h
    exact .int b
  | .str b, v, x, h, e => by
    obtain rfl : PyData.str b = x := Option.some.inj e
    obtain rfl : v = .str b := h
    exact .str b
  | .lst ds, v, x, h, e => by
    obtain ⟨a, vs, rfl, q, r⟩ := h
    have e : (pdXL ds).map PyData.list = some x := e
    obtain ⟨xs, e2, rfl⟩ := Option.map_eq_some_iff.mp e
    exact .lst (sqL_of (s _ _ q)) (pdXL_dp s r e2)
  | .tup ds, v, x, h, e => by
    obtain ⟨a, vs, rfl, q, r⟩ := h
    have e : (pdXL ds).map PyData.tuple = some x := e
    obtain ⟨xs, e2, rfl⟩ := Option.map_eq_some_iff.mp e
    exact .tup (sqT_mono s q) (pdXL_dp s r e2)
  | .dic ks ds, v, x, h, e => by
    obtain ⟨a, vs, rfl, q, r⟩ := h
    have e : (if ks.length = ds.length then (pdXL ds).map fun xs => PyData.dict ((ks.map keyD).zip xs) else none) = some x := e
    by_cases c : ks.length = ds.length
    · rw [if_pos c] at e
      obtain ⟨xs, e2, rfl⟩ := Option.map_eq_some_iff.mp e
      have lv : ks.length = vs.length := by rw [r.len]; exact c
      have h1 := DpX.dic (K := K) (ds := xs) (s _ _ q) (by rw [zip_snd lv]; exact pdXL_dp s r e2)
      have h2 : ((ks.zip vs).map fun p => keyD p.1) = ks.map keyD := by
        have := congrArg (List.map keyD) (zip_fst lv)
        rw [List.map_map] at this
        exact this
      rw [h2] at h1
      exact h1
    · rw [if_neg c] at e
      exact nomatch e
  | .ty _, v, x, h, e => nomatch e
  | .ins _ _ _, v, x, h, e => nomatch e
  | .op _, v, x, h, e => nomatch e
theorem pdXL_dp {K : PySem.W.Frag} {F H : Hp} (s : Same F H) : ∀ {ds : List D} {vs : List V} {xs : List PyData}, RpL K F ds vs → pdXL ds = some xs → DpXA K H vs xs
  | [], vs, xs, h, e => by
    obtain rfl : [] = xs := Option.some.inj e
    obtain rfl : vs = [] := h
    exact .nil
  | d :: ds, vs, xs, h, e => by
    obtain ⟨v, r, rfl, q, t⟩ := h
    have e : consO (pdX d) (pdXL ds) = some xs := e
    cases e1 : pdX d with
    | none => rw [e1] at e; exact nomatch e
    | some y =>
      cases e2 : pdXL ds with
      | none => rw [e1, e2] at e; exact nomatch e
      | some ys =>
        rw [e1, e2] at e
        obtain rfl : y :: ys = xs := Option.some.inj e
        exact .cons (pdX_dp s q e1) (pdXL_dp s t e2)
end
theorem pdX_rn {K : PySem.W.Frag} {F H : Hp} (s : Same F H) {d : D} {v : V} {x : PyData} (h : Rn K F H d v) (e : pdX d = some x) : DpX K H v x := by
  cases d with
  | lst ds =>
    obtain ⟨a, vs, rfl, q, r⟩ := h
    have e : (pdXL ds).map PyData.list = some x := e
    obtain ⟨xs, e2, rfl⟩ := Option.map_eq_some_iff.mp e
    exact .lst (sqL_of q) (pdXL_dp s r e2)
  | _ => exact pdX_dp s h e
section
variable {X : Sx}
def oReprX : OL := fun as Q => ∃ d x, as = [d] ∧ pdX d = some x ∧ x.showable = true ∧ x.depth ≤ 50 ∧ x.shown.length ≤ sizeLine ∧ Q (.str x.shown)
theorem lc_reprX {K : PySem.W.Frag} (hK : X.K = K) : LiC X (rReprX K) oReprX := by
  intro c hX σ F H ρ xs dxs Q Q3 R rx hq h
  subst hX
  subst hK
  obtain ⟨d, x, rfl, e, h1, h2, h3, q⟩ := h
  obtain ⟨v, t, rfl, rv, et⟩ := rx
  obtain rfl : t = [] := et
  exact ⟨v, x, rfl, pdX_rn R.sub rv e, h1, h2, h3, hq (.str _) _ F H R (Same.refl F) rfl q⟩
theorem w_reprX {d : D} {x : PyData} {F : D → Prop} (e : pdX d = some x) (h1 : x.showable = true) (h2 : x.depth ≤ 50) (h3 : x.shown.length ≤ sizeLine) (h : F (.str x.shown)) : oReprX [d] F := ⟨d, x, rfl, e, h1, h2, h3, h⟩
/-- what i == x answers -/
def eqXD (x i : D) (b : Bool) : Prop := (∃ d e, pd i = some d ∧ pd x = some e ∧ SeqAt.shaped d = true ∧ SeqAt.shaped e = true ∧ b = PyData.eqv d e) ∨ (∃ ks vs z, i = .dic ks vs ∧ x = .str z ∧ b = false) ∨ ∃ ks vs z, x = .dic ks vs ∧ i = .str z ∧ b = false
theorem eqXD_eq {K : PySem.W.Frag} {F H : Hp} (s : Same F H) {x i : D} {vx vi : V} {b : Bool} (hx : Rn K F H x vx) (hi : Rp K F i vi) (h : eqXD x i b) : EqX K H vi vx b := by
  rcases h with ⟨d, e, h1, h2, s1, s2, rfl⟩ | ⟨ks, vs, z, rfl, rfl, rfl⟩ | ⟨ks, vs, z, rfl, rfl, rfl⟩
  · exact Or.inl ⟨d, e, pd_dp s hi h1, pd_rn s hx h2, s1, s2, rfl⟩
  · obtain ⟨a, ws, rfl, q, _⟩ := hi
    exact Or.inr (Or.inl ⟨a, _, z, rfl, s _ _ q, hx, rfl⟩)
  · obtain ⟨a, ws, rfl, q, _⟩ := hx
    exact Or.inr (Or.inr ⟨a, _, z, rfl, s _ _ q, hi, rfl⟩)
def oInX (neg : Bool) : O2 := fun dx dy Q => ∃ (ds : List D) (bs : List Bool), (dy = .lst ds ∨ dy = .tup ds) ∧ Paired (eqXD dx) ds bs ∧ Q (.bl (if neg then !bs.any id else bs.any id))
theorem lr_inX {K : PySem.W.Frag} {neg : Bool} (hK : X.K = K) : LiR X (rInX K neg) (oInX neg) := by
  intro c hX σ F H ρ x y dx dy Q Q3 R rx ry hq h
  subst hX
  subst hK
  obtain ⟨ds, bs, hd, hp, q⟩ := h
  have go : ∀ {ds : List D} {bs : List Bool} {vs : List V}, Paired (eqXD dx) ds bs → RpL c.K F ds vs → Paired (fun i b => EqX c.K H i x b) vs bs := by
    intro ds bs vs h
    induction h generalizing vs with
    | nil =>
      intro r
      obtain rfl : vs = [] := r
      exact .nil
    | cons h t ih =>
      rintro ⟨v, r, rfl, q1, q2⟩
      exact .cons (eqXD_eq R.sub rx q1 h) (ih q2)
  rcases hd with rfl | rfl
  · obtain ⟨p, vs, rfl, hv, r⟩ := ry
    exact ⟨p, vs, bs, rfl, Or.inl (sqL_of hv), go hp r, hq (.bl _) _ F H R (Same.refl F) rfl q⟩
  · obtain ⟨p, vs, rfl, hv, r⟩ := ry
    exact ⟨p, vs, bs, rfl, Or.inr (sqT_mono R.sub hv), go hp r, hq (.bl _) _ F H R (Same.refl F) rfl q⟩
end
end L3
namespace He
open PySem PySem.Spec PyProof.Rows L2
/-- K with the modules' table -/
def asS (g : Addr → Option Obj) (n : Nat) : List Addr := asD g n ++ [sysModules]
end He
namespace L3
open PySem PySem.Spec PyProof.Rows L2 TB LamX
end L3
namespace L3
open PySem PySem.Spec PyProof.Rows L2 TB LamX
/-- signs as they are -/
def Sg (z : Str) : Prop := z.length ≤ 100 ∧ ∀ c ∈ z.cps.toList, c < 1114112
theorem Nm.sg {z : Str} (h : Nm z) : Sg z := by
  refine ⟨?_, fun c hc => ?_⟩
  · have := h.2.1
    rw [show tl z = z.cps.toList from rfl, Array.length_toList] at this
    show z.cps.size ≤ 100
    omega
  · have := (h.2.2 c hc).2
    omega
theorem Sg.len {z : Str} (h : Sg z) : (PyData.str z).shown.length ≤ 1002 := by
  simp only [PyData.shown]
  have e := StrLaws.reprText_len z fun c hc => Nat.lt_of_lt_of_le (h.2 c hc) (by decide)
  have := h.1
  omega
/-- an item of a thing -/
inductive It : D → Prop
  | str {z : Str} : Sg z → It (.str z)
  | non : It .non
  | int {i : Int} : i.natAbs < 10 ^ 12 → It (.int i)
  | bl {b : Bool} : It (.bl b)
  | lst {ws : List Str} : ws.length ≤ 8 → (∀ z ∈ ws, Sg z) → It (.lst (strsD ws))
  | tup {ws : List Str} : ws.length ≤ 8 → (∀ z ∈ ws, Sg z) → It (.tup (strsD ws))
  | dic : It (.dic [] [])
theorem shown_tupG_le {B : Nat} {ds : List PyData} (h : ∀ d ∈ ds, d.shown.length ≤ B) : (PyData.tuple ds).shown.length ≤ ds.length * B + 2 * ds.length + 3 := shown_tuple_le h
theorem Sg.ok {z : Str} (h : Sg z) : PyData.strOk z = true := by
  unfold PyData.strOk
  rw [Array.all_eq_true_iff_forall_mem]
  intro c hc
  have h1 := h.2 c (Array.mem_toList_iff.mpr hc)
  exact decide_eq_true (by omega)
theorem strs_lay {ws : List Str} (h : ∀ z ∈ ws, Sg z) : PyData.canLayAll0 (ws.map PyData.str) = true := by
  induction ws with
  | nil => simp [PyData.canLayAll0]
  | cons z r ih => simp [PyData.canLayAll0, PyData.canLay0, (h z List.mem_cons_self).ok, ih fun y hy => h y (List.mem_cons_of_mem _ hy)]
theorem sh_strsG {ws : List Str} (h : ∀ z ∈ ws, Sg z) : SeqAt.shaped (dStrs ws) = true := by
  have h2 := strs_depth ws
  unfold SeqAt.shaped
  rw [Bool.and_eq_true, decide_eq_true_eq]
  refine ⟨?_, by omega⟩
  simp only [dStrs, PyData.canLay0]
  exact strs_lay h
theorem sh_flat {x : PyData} (h1 : x.canLay0 = true) (h2 : x.depth ≤ 64) : SeqAt.shaped x = true := by
  unfold SeqAt.shaped
  rw [h1, decide_eq_true h2]
  rfl
/-- a text held against an item -/
theorem It.eq {d : D} (h : It d) {z : Str} (hz : Sg z) : ∃ b, eqXD (.str z) d b ∧ (b = true ↔ d = .str z) := by
  have sz : SeqAt.shaped (PyData.str z) = true := sh_flat (by simp only [PyData.canLay0]; exact hz.ok) (by simp [PyData.depth])
  cases h with
  | @str y h =>
    refine ⟨decide (y = z), Or.inl ⟨.str y, .str z, rfl, rfl, sh_flat (by simp only [PyData.canLay0]; exact h.ok) (by simp [PyData.depth]), sz, ?_⟩, ?_⟩
    · simp only [PyData.eqv]
      rw [beq_str]
    · rw [decide_eq_true_eq]
      exact ⟨fun e => by rw [e], fun e => by injection e⟩
  | non => exact ⟨false, Or.inl ⟨.none, .str z, rfl, rfl, by decide +kernel, sz, by simp only [PyData.eqv]⟩, (fun e => nomatch e), (fun e => nomatch e)⟩
  | @int i h => exact ⟨false, Or.inl ⟨.int i, .str z, rfl, rfl, sh_flat (by simp only [PyData.canLay0]) (by simp [PyData.depth]), sz, by simp only [PyData.eqv]⟩, (fun e => nomatch e), (fun e => nomatch e)⟩
  | @bl b => exact ⟨false, Or.inl ⟨.bool b, .str z, rfl, rfl, sh_flat (by simp only [PyData.canLay0]) (by simp [PyData.depth]), sz, by simp only [PyData.eqv]⟩, (fun e => nomatch e), (fun e => nomatch e)⟩
  | @lst ws h1 h2 => exact ⟨false, Or.inl ⟨dStrs ws, .str z, pd_strs ws, rfl, sh_strsG h2, sz, by simp only [dStrs, PyData.eqv]⟩, (fun e => nomatch e), (fun e => nomatch e)⟩
  | @tup ws h1 h2 =>
    refine ⟨false, Or.inl ⟨.tuple (ws.map .str), .str z, ?_, rfl, sh_flat ?_ ?_, sz, by simp only [PyData.eqv]⟩, (fun e => nomatch e), (fun e => nomatch e)⟩
    · have e1 : (pdL (strsD ws)).map PyData.list = some (dStrs ws) := pd_strs ws
      obtain ⟨xs, e2, e3⟩ := Option.map_eq_some_iff.mp e1
      obtain rfl : xs = ws.map PyData.str := by injection e3
      show (pdL (strsD ws)).map PyData.tuple = _
      rw [e2]
      rfl
    · simp only [PyData.canLay0]
      exact strs_lay h2
    · simp only [PyData.depth]
      have := depthAll_map (f := PyData.str) (n := 0) (l := ws) fun x _ => by simp only [PyData.depth]; exact Nat.le_refl _
      omega
  | dic => exact ⟨false, Or.inr (Or.inl ⟨[], [], z, rfl, rfl, rfl⟩), (fun e => nomatch e), (fun e => nomatch e)⟩
theorem showAll_of {xs : List PyData} (h : ∀ x ∈ xs, x.showable = true) : PyData.showableAll xs = true := by
  have := showAll_map (f := id) (l := xs) (fun x hx => h x hx)
  rw [List.map_id] at this
  exact this
theorem perm_sub {α : Type} : ∀ {l1 l2 : List α}, l1.Nodup → (∀ x ∈ l1, x ∈ l2) → l2.length ≤ l1.length → l2.Perm l1
  | [], l2, _, _, h => by
    rw [List.eq_nil_of_length_eq_zero (Nat.le_zero.mp h)]
  | x :: r, l2, nd, h, hl => by
    obtain ⟨n1, n2⟩ := List.nodup_cons.mp nd
    obtain ⟨a, b, rfl⟩ := List.append_of_mem (h x List.mem_cons_self)
    have p1 : (a ++ x :: b).Perm (x :: (a ++ b)) := List.perm_middle
    refine p1.trans (List.Perm.cons x (perm_sub n2 (fun y hy => ?_) ?_))
    · have := h y (List.mem_cons_of_mem _ hy)
      rcases List.mem_append.mp this with m | m
      · exact List.mem_append_left _ m
      · rcases List.mem_cons.mp m with rfl | m
        · exact absurd hy n1
        · exact List.mem_append_right _ m
    · rw [List.length_append, List.length_cons] at hl
      rw [List.length_cons] at hl
      rw [List.length_append]
      omega
theorem str_injD {a b : Str} (h : D.str a = D.str b) : a = b := by injection h
theorem LineP.same {ls line : List Str} {ps qs : List Pr} (h : ∀ z, z ∈ ps ↔ z ∈ qs) (l : LineP ls ps line) : LineP ls qs line := ⟨l.pm, fun i z e => by rw [← freeB_same h]; exact l.free i z e⟩
/-- grown by any that may stand -/
structure GA (ls : List Str) (qs : List Pr) (fs : List Str) : Prop where
  nd : fs.Nodup
  mem : ∀ z ∈ fs, z ∈ ls
  pre : PreOk qs fs
theorem GA.nil {ls : List Str} {qs : List Pr} : GA ls qs [] := ⟨List.nodup_nil, (fun _ z => nomatch z), fun i z e => by simp at e⟩
theorem GA.line {ls : List Str} {qs : List Pr} {fs : List Str} (g : GA ls qs fs) (nd : ls.Nodup) (hl : ls.length ≤ fs.length) : LineP ls qs fs := ⟨(perm_sub g.nd g.mem hl).symm, g.pre⟩
/-- told is whether it is a line -/
def IsLn (ls : List Str) (qs : List Pr) (t : D) : Prop := ∃ line, t = .lst (strsD line) ∧ LineP ls qs line
theorem IsLn.same {ls : List Str} {ps qs : List Pr} {t : D} (h : ∀ z, z ∈ ps ↔ z ∈ qs) : IsLn ls ps t ↔ IsLn ls qs t := ⟨fun ⟨l, e, q⟩ => ⟨l, e, q.same h⟩, fun ⟨l, e, q⟩ => ⟨l, e, q.same fun z => (h z).symm⟩⟩
theorem It.ty {d : D} (h : It d) : ∃ ty b, tyD d = some ty ∧ kitB ty "str" = some b ∧ (b = true ↔ ∃ z, d = .str z) := by
  cases h with
  | @str z h => exact ⟨_, true, rfl, by decide +kernel, fun _ => ⟨z, rfl⟩, fun _ => rfl⟩
  | non => exact ⟨_, false, rfl, by decide +kernel, (fun e => nomatch e), fun ⟨z, e⟩ => nomatch e⟩
  | int _ => exact ⟨_, false, rfl, by decide +kernel, (fun e => nomatch e), fun ⟨z, e⟩ => nomatch e⟩
  | bl => exact ⟨_, false, rfl, by decide +kernel, (fun e => nomatch e), fun ⟨z, e⟩ => nomatch e⟩
  | lst _ _ => exact ⟨_, false, rfl, by decide +kernel, (fun e => nomatch e), fun ⟨z, e⟩ => nomatch e⟩
  | tup _ _ => exact ⟨_, false, rfl, by decide +kernel, (fun e => nomatch e), fun ⟨z, e⟩ => nomatch e⟩
  | dic => exact ⟨_, false, rfl, by decide +kernel, (fun e => nomatch e), fun ⟨z, e⟩ => nomatch e⟩
end L3
namespace L3
open PySem PySem.Spec PyProof.Rows L2 TB LamX
theorem seq_at {n j : Nat} (h : j < n) : seqIndex? (j : Int) n = some j := by
  unfold seqIndex?
  have h1 : ¬ ((j : Int) < 0) := by omega
  simp only [if_neg h1]
  rw [if_pos (by simp; omega), Int.toNat_natCast]
end L3
namespace StarT
open PySem PySem.Spec PySem.Calls PyProof.Rows L2
section
variable {P : Program} {w : World} {A : Around} {E : Value → Shared → Prop} {s : Shared}
theorem star2 {l : Addr} {its : Array Value} {Q : List Value → Shared → Prop} (ht : IsTup s.heap l its) (hh : A.handled = none) (h1 : 1 ≤ its.size) (hz : its.size ≤ 16384)
    (h : ∀ (g : Heap) (tk : Nat), (∀ b o, s.heap.get? b = some o → g.get? b = some o) → Q (its.toList.take 1 ++ [.ref g.objs.size]) { s with heap := g.push { cls := .type "list", data := .seq (its.toList.drop 1).toArray }, toks := tk }) :
    wpAny (model P w) A (unpackItems (.ref l) 2 (some 1)) Q E s := by
  have ll : l < s.heap.objs.size := by obtain ⟨o, ho, _⟩ := ht; exact Heap.lt_size ho
  have ne : l ≠ s.heap.objs.size := Nat.ne_of_lt ll
  have lt : (its.toList.take 1).length = 1 := by rw [List.length_take, Array.length_toList]; omega
  have ld : (its.toList.drop 1).length = its.size - 1 := by rw [List.length_drop, Array.length_toList]
  unfold unpackItems notIterableAtAll
  refine wpAny_bind (wpAny_bind (wpAny_specialOf ht.typeIs slot_tuple_iter.lookup (wpAny_pure ?_)))
  simp only [Bool.false_eq_true, if_false]
  refine wpAny_bind (wpAny_holding (iter_tuple ht (wpAny_bind (wpAny_holding ?_))))
  refine draw_tuple ne 1 0 _ _ ⟨_, Heap.get?_push_size _ rfl, rfl, rfl⟩ (ht.push _) (by omega) fun g hi hs => ?_
  rw [List.drop_zero, if_neg (by omega)]
  have hg : IsTup g l its := (ht.push _).extBut hs.extBut ne
  obtain ⟨oi, ei, _⟩ := id hi
  obtain ⟨ol, el, _⟩ := id hg
  refine wpAny_bind (wpAny_holding (PySem.W.kun_collect (s := { s with heap := g }) (T := "tuple_iterator") (Or.inr (Or.inr (Or.inr rfl))) (Walks.tuple (A := A.in1) hh s.heap.objs.size l ne its) (fun _ _ q => q.1.typeIs) (k := 1) h1 ⟨hi, hg⟩ (Heap.lt_size ei) (Heap.lt_size el) (fun g2 tk hk => ?_) (by rw [sizeLine_eq]; omega)))
  have e0 : (its.toList.drop 1).length - (2 - 1 - 1) = its.size - 1 := by rw [ld]; rfl
  show wpAny _ _ (if (its.toList.drop 1).length < 2 - 1 - 1 then _ else _) _ _ _
  rw [if_neg (by omega)]
  show wpAny _ _ (newList ((its.toList.drop 1).take ((its.toList.drop 1).length - (2 - 1 - 1))) >>= fun d => pure (its.toList.take 1 ++ [d] ++ (its.toList.drop 1).drop ((its.toList.drop 1).length - (2 - 1 - 1)))) _ _ _
  rw [e0, ← ld, List.take_length, List.drop_length]
  refine wpAny_bind (wpAny_newList (wpAny_pure ?_) (by rw [ld, sizeLine_eq]; omega))
  rw [List.append_nil]
  exact h g2 tk fun b o e => hk b o (Nat.ne_of_lt (Heap.lt_size e)) (hs.extBut b o (Nat.ne_of_lt (Heap.lt_size e)) (Heap.get?_push_of_some _ e))
end
section
variable {X : Cx}
def gStar (K : PySem.W.Frag) (g1 g2 : TG) : TG := fun v σ H Q => ∃ a x xs, v = .ref a ∧ SqT K H a (x :: xs) ∧ xs.length ≤ 16000 ∧ ∀ p, H p = none → g1 x σ (upd H p (.lst xs)) fun σ1 H1 => g2 (.ref p) σ1 H1 Q
theorem pg_star (K : PySem.W.Frag) {e1 e2 : Expr} {g1 g2 : TG} {k : Nat} {p pos : Pos} (hc : X.calm = true) (h1 : PG X e1 g1) (h2 : PG X e2 g2) (hn : assignEach [e1, .Starred e2 p] X.env = [(false, assign e1 X.env), (true, assign e2 X.env)] := by rfl) (hK : X.K = K := by rfl) : PG X (.Tuple [e1, .Starred e2 p] k pos) (gStar K g1 g2) := by
  subst hK
  refine ⟨fun pins s σ H v u Q I r hw => ?_⟩
  obtain ⟨a, x, xs, rfl, hq, hl, hw⟩ := hw
  cases r
  obtain ⟨its, rv, ht, hz⟩ := I.tuple hq
  have hlen := rv.length
  cases rv with
  | @cons _ u _ us r1 r2 =>
    rw [assign_Tuple]
    refine wpAny_bind (wpAny_standAt ?_)
    unfold unpack
    rw [hn]
    refine wpAny_bind (wpAny_holding (star2 (P := X.prog) (w := X.w) ht (I.ok.hd hc) (by simp) (by simp at hlen ⊢; omega) fun g tk hk => ?_))
    have I1 : Inv X pins σ (upd H g.objs.size (.lst xs)) { s with heap := g.push { cls := .type "list", data := .seq us.toArray }, toks := tk } :=
      (I.kept (t' := tk) hk).laid (t' := tk) (fun b o e => Heap.get?_push_of_some _ e) (Nat.le_refl _) ⟨by simp at hz; omega, us, 0, r2, Heap.get?_push_size _ rfl⟩
    refine assignInOrder_cons (thn (h1.run pins _ σ _ _ _ _ I1 r1 (hw _ ((I.kept (t' := tk) hk).hok.fresh (Nat.le_refl _)))) fun _ s1 ⟨σ1, H1, I2, q1⟩ => ?_)
    refine assignInOrder_cons (thn (h2.run pins s1 σ1 H1 (.ref g.objs.size) _ _ I2 rfl q1) fun _ s2 ⟨σ2, H2, I3, q2⟩ => ?_)
    exact assignInOrder_nil ⟨σ2, H2, I3, q2⟩
end
end StarT
namespace He
open PySem PySem.Spec PyProof.Rows L2
def obsU (n : Nat) (fa : List Fa) (fn : List DefD) (ts : List Tab) (tf : List Defn) (ex : PySem.W.Frag → Bool) (g : Addr → Option Obj) : AlX := (obsT fa fn ts (frT g (asS g n)), ex (frT g (asS g n)) && tabsB g tf (frT g (asS g n)))
theorem saysU_of {fa : List Fa} {fn : List DefD} {ts : List Tab} {tf : List Defn} {ex : PySem.W.Frag → Bool} {w : World} {h : Heap} {as : List Addr} (e : (obsT fa fn ts (frT h.get? as), ex (frT h.get? as) && tabsB h.get? tf (frT h.get? as)) = valX fn ts w) : SaysX fa fn ts tf ex w h (frT h.get? as) := by
  generalize hK : frT h.get? as = K at e
  have e1 : obsT fa fn ts K = valT fn ts w := congrArg Prod.fst e
  obtain ⟨h1, h2⟩ := ba (show (ex K && tabsB h.get? tf K) = true from congrArg Prod.snd e)
  have tab : ∀ p ∈ tf, PySem.W.codeHdIn K (cT K p).1 (cT K p).2 = true ∧ ∃ o, h.get? (cT K p).2 = some o ∧ emptyTab o = true := by
    intro p hp
    obtain ⟨h3, h4⟩ := ba (List.all_eq_true.mp h2 p hp)
    cases q : h.get? (cT K p).2 with
    | none => rw [q] at h4; exact nomatch h4
    | some o => rw [q] at h4; exact ⟨h3, o, rfl, h4⟩
  refine ⟨e1, h1, fun p hp => (tab p hp).1, fun p hp => ?_, fun p hp => ?_⟩
  · obtain ⟨_, o, q, z⟩ := tab p hp
    rw [← hK] at q ⊢
    exact frT_none q z
  · obtain ⟨_, o, q, z⟩ := tab p hp
    rw [q, emptyTab_eq z]
def hookU (n : Nat) (fa : List Fa) (fn : List DefD) (ts : List Tab) (tf : List Defn) (ex : PySem.W.Frag → Bool) : PySem.W.Hook where
  α := AlX
  obs := fun s => obsU n fa fn ts tf ex s.heap.get?
  val := fun w => valX fn ts w
  says := fun w h => ∃ K : PySem.W.Frag, K.In h ∧ SaysX fa fn ts tf ex w h K
  of := fun _ _ e => ⟨_, frT_in, saysU_of e⟩
  keeps := fun _ _ _ ⟨K, hK, c⟩ k => ⟨K, hK.keeps k, c.t, c.more, c.hd, c.out, fun p hp => k _ _ (c.empty p hp)⟩
theorem obsU_eq {n : Nat} {fa : List Fa} {fn : List DefD} {ts : List Tab} {tf : List Defn} {ex : PySem.W.Frag → Bool} {g : Addr → Option Obj} {s : Shared} (h : ∀ a, g a = s.heap.get? a) : obsU n fa fn ts tf ex g = (hookU n fa fn ts tf ex).obs s := by
  obtain rfl : g = s.heap.get? := funext h
  rfl
/-- at d, key k: a tuple of these -/
def tabTupB (K : PySem.W.Frag) (d : Addr) (k : Str) (vs : List Dv) : Bool := match PySem.W.nsIn K d k with
  | some (some (.ref a)) => (match K.lookup a with
    | some ⟨.type c, _, .seq its _, _⟩ => decide (c = "tuple") && (decide (its.size ≤ sizeLine) && relAll (vs.map (Dv.v K)) its.toList)
    | _ => false)
  | _ => false
theorem tabTupB_ok {K : PySem.W.Frag} {d : Addr} {k : Str} {vs : List Dv} (h : tabTupB K d k vs = true) : ∃ a, PySem.W.nsIn K d k = some (some (.ref a)) ∧ ∀ H, SqT K H a (vs.map (Dv.v K)) := by
  unfold tabTupB at h
  cases q0 : PySem.W.nsIn K d k with
  | none => rw [q0] at h; cases h
  | some r =>
    rw [q0] at h
    cases r with
    | none => cases h
    | some u =>
      cases u with
      | ref a =>
        refine ⟨a, rfl, fun H => ?_⟩
        have h1 : (match K.lookup a with
          | some ⟨.type c, _, .seq its _, _⟩ => decide (c = "tuple") && (decide (its.size ≤ sizeLine) && relAll (vs.map (Dv.v K)) its.toList)
          | _ => false) = true := h
        cases q : K.lookup a with
        | none => rw [q] at h1; cases h1
        | some o =>
          obtain ⟨oc, od, dt, osl⟩ := o
          rw [q] at h1
          cases oc with
          | type c =>
            cases dt with
            | seq its n =>
              obtain ⟨h2, h3⟩ := ba (show (decide (c = "tuple") && (decide (its.size ≤ sizeLine) && relAll (vs.map (Dv.v K)) its.toList)) = true from h1)
              obtain ⟨h4, h5⟩ := ba h3
              exact .inr ⟨_, its, n, q, congrArg Value.type (of_decide_eq_true h2), rfl, of_decide_eq_true h4, relAll_ok h5⟩
            | _ => cases h1
          | _ => cases dt <;> cases h1
      | _ => cases h
end He
namespace ZipLT
open PySem PySem.Spec PyProof.Rows L2
/-- the list at a and the tuple at b as they stand at each turn, the items in new pairs -/
def Itm (K : PySem.W.Frag) (a b : Addr) (n : Nat) : It :=
  ⟨fun i H => ∃ (xs ys : List V) (x y : V), SqL K H a xs ∧ SqT K H b ys ∧ xs.length = n ∧ ys.length = n ∧ xs[i]? = some x ∧ ys[i]? = some y,
    fun i H v H' => ∃ T x y, v = .ref T ∧ H T = none ∧ H' = upd H T (.tup [x, y]) ∧ (∀ xs, SqL K H a xs → xs[i]? = some x) ∧ ∀ ys, SqT K H b ys → ys[i]? = some y,
    fun i H => ∃ xs ys : List V, SqL K H a xs ∧ SqT K H b ys ∧ xs.length = n ∧ ys.length = n ∧ n ≤ i⟩
theorem turn {n : Nat} {P : Program} {w : World} {K : PySem.W.Frag} {elts : List Expr} {kk : Nat} {tpos : Pos} {a b z TI TO i1 i2 : Addr} (S : ZipSep2 z TI TO i1 i2 [i1, a] [i2, b]) (na : a ≠ i1) (nb : b ≠ i2) :
    Turn P w K (.Tuple elts kk tpos) (Itm K a b n) [z, TI, TO, i1, i2] z (fun i h => i ≤ n ∧ IsZip h z TI TO .none ∧ IsTupOf2 h TI (.ref i1) (.ref i2) ∧ (∃ x y, IsTupOf2 h TO x y) ∧ h.IsListIter i1 a i ∧ h.IsTupleIter i2 b i) where
  mem := List.mem_cons_self
  obj := fun i h st c hc => by
    obtain ⟨hin, hz, hTI, ⟨x, y, hTO⟩, ⟨o1, e1, _, d1⟩, ⟨o2, e2, _, d2⟩⟩ := st
    simp only [List.mem_cons, List.not_mem_nil, or_false] at hc
    rcases hc with rfl | rfl | rfl | rfl | rfl
    · exact ⟨_, hz, fun v q => nomatch q⟩
    · exact ⟨_, hTI, fun v q => nomatch q⟩
    · exact ⟨_, hTO, fun v q => nomatch q⟩
    · exact ⟨o1, e1, fun v q => by rw [d1] at q; cases q⟩
    · exact ⟨o2, e2, fun v q => by rw [d2] at q; cases q⟩
  keep := fun i h h' st k => by
    obtain ⟨hin, hz, hTI, ⟨x, y, hTO⟩, h1, h2⟩ := st
    exact ⟨hin, k z (by simp) _ hz, k TI (by simp) _ hTI, ⟨x, y, k TO (by simp) _ hTO⟩, h1.at fun o q => k i1 (by simp) o q, h2.at fun o q => k i2 (by simp) o q⟩
  item := by
    intro X hP hw hK hc i pins s σ H E I hf st hg
    subst hP hw hK
    obtain ⟨hin, hz, hTI, ⟨x0, y0, hTO⟩, h1, h2⟩ := st
    obtain ⟨xs, ys, x, y, hqx, hqy, hnx, hny, hx, hy⟩ := hg
    obtain ⟨its, rv, p, _⟩ := I.list hqx
    obtain ⟨its2, rv2, p2, _⟩ := I.tuple hqy
    obtain ⟨u, hu, ru⟩ := rv.get hx
    obtain ⟨u2, hu2, ru2⟩ := rv2.get hy
    have hh := I.ok.hd hc
    have l1 : i < its.toArray.size := by
      have := (List.getElem?_eq_some_iff.mp hu).1
      simpa using this
    have l2 : i < its2.toArray.size := by
      have := (List.getElem?_eq_some_iff.mp hu2).1
      simpa using this
    have hzl : z < s.heap.objs.size := Heap.lt_size hz
    refine wpAny_pyNext_zipD2_item S (Draws.list (A := X.A.in1) hh i1 a na its.toArray) (Draws.tuple (A := X.A.in1) hh i2 b nb its2.toArray) hz hTI hTO ⟨h1, p.isList⟩ ⟨h2, p2⟩ l1 l2 fun v1 v2 h' tk e1 e2 z' TO' st1 st2 hT hsz hk => ?_
    obtain rfl : v1 = u := by
      rw [List.getElem?_toArray, hu] at e1
      exact (Option.some.inj e1).symm
    obtain rfl : v2 = u2 := by
      rw [List.getElem?_toArray, hu2] at e2
      exact (Option.some.inj e2).symm
    refine ⟨_, rfl, wpAny_letOwnedTupleGo_zip (s := { s with heap := h', toks := tk }) z' fun h'' z'' sb => ?_⟩
    have hT2 : h''.get? s.heap.objs.size = some { cls := .type "tuple", data := .seq #[v1, v2] } := (sb.2 _ (Nat.ne_of_gt hzl)).trans hT
    have new : ObjOk X.prog X.w (upd H s.heap.objs.size (.tup [x, y])) h'' s.heap.objs.size (.tup [x, y]) :=
      ⟨(by show 2 ≤ sizeLine; decide), [v1, v2], .cons ru (.cons ru2 .nil), ⟨_, hT2, rfl, _, rfl⟩⟩
    have I1 : Inv X pins σ (upd H s.heap.objs.size (.tup [x, y])) { s with heap := h'', toks := tk } :=
      I.turnedNew (t' := tk) (ch := [z, TI, TO, i1, i2]) (fun c o hb q => (sb.2 c (fun q' => hb (by simp [q']))).trans (hk c o (fun q' => hb (by simp [q'])) (fun q' => hb (by simp [q'])) (fun q' => hb (by simp [q'])) (fun q' => hb (by simp [q'])) q)) hf (Nat.le_refl _) new
    refine ⟨.ref s.heap.objs.size, _, I1, rfl, ⟨_, x, y, rfl, I.hok.fresh (Nat.le_refl _), rfl, fun l hl => by rw [I.list_inj hl hqx]; exact hx, fun l hl => by rw [I.tuple_inj hl hqy]; exact hy⟩, ⟨?_, z'', ?_, ⟨v1, v2, ?_⟩, ?_, ?_⟩, fun c hcm => ?_⟩
    · have := (List.getElem?_eq_some_iff.mp hx).1
      omega
    · exact (sb.2 _ S.TIz).trans (hk _ _ S.TIz S.TITO S.TIi1 S.TIi2 hTI)
    · exact (sb.2 _ S.TOz).trans TO'
    · exact st1.1.at fun o q => (sb.2 _ S.zi1.symm).trans q
    · exact st2.1.at fun o q => (sb.2 _ S.zi2.symm).trans q
    · have hlt : c < s.heap.objs.size := by
        simp only [List.mem_cons, List.not_mem_nil, or_false] at hcm
        rcases hcm with rfl | rfl | rfl | rfl | rfl
        · exact hzl
        · exact Heap.lt_size hTI
        · exact Heap.lt_size hTO
        · obtain ⟨_, e1, _⟩ := h1; exact Heap.lt_size e1
        · obtain ⟨_, e2, _⟩ := h2; exact Heap.lt_size e2
      rw [upd_ne (Nat.ne_of_lt hlt)]
      exact (hf c hcm).1
  done := by
    intro X hP hw hK hc i pins s σ H E I hf st hg
    subst hP hw hK
    obtain ⟨hin, hz, hTI, ⟨x0, y0, hTO⟩, h1, h2⟩ := st
    obtain ⟨xs, ys, hqx, hqy, e1, e2, e3⟩ := hg
    obtain ⟨its, rv, p, _⟩ := I.list hqx
    obtain ⟨its2, rv2, p2, _⟩ := I.tuple hqy
    have l1 := rv.length
    have l2 := rv2.length
    have hh := I.ok.hd hc
    have z1 : its.toArray.size = i := by simp; omega
    have z2 : its2.toArray.size = i := by simp; omega
    exact wpAny_pyNext_zipD2_end S (Draws.list (A := X.A.in1) hh i1 a na its.toArray) (Draws.tuple (A := X.A.in1) hh i2 b nb its2.toArray) hz hTI hTO ⟨h1, p.isList⟩ ⟨h2, p2⟩ (Nat.le_of_eq z1.symm) (Nat.le_of_eq z2.symm) (Or.inl z1.symm) fun h' tk hk => ⟨rfl, I.turnedL (t' := tk) (ch := [z, TI, TO, i1, i2]) (fun c o hb q =>
      hk c o (fun q' => hb (by simp [q'])) (fun q' => hb (by simp [q'])) (fun q' => hb (by simp [q'])) (fun q' => hb (by simp [q'])) q) hf⟩
  self := fun A i s Q E st h => wpAny_pyIter_zip st.2.1 h
def iZipM (K : PySem.W.Frag) (ta : TA) : TI := fun σ H R => ta σ H fun vs H1 => ∃ a b xs ys, vs = [.ref a, .ref b] ∧ SqL K H1 a xs ∧ SqT K H1 b ys ∧ xs.length = ys.length ∧ R (Itm K a b xs.length) H1
theorem pi_zipM {X : Cx} (K : PySem.W.Frag) {e e2 : Expr} {ta : TA} {p pos tpos : Pos} {elts : List Expr} {kk : Nat} (hg : Gl X "zip") (hm : X.mg "zip" = none) (ha : PA X [e, e2] ta)
    (hs : starEach [e, e2] X.env = (false, eval e X.env) :: starEach [e2] X.env := by rfl) (hpl : (backTo pos (starEach [e2] X.env)).any (·.1) = false := by rfl) (hK : X.K = K := by rfl) :
    PI X (.Tuple elts kk tpos) (.Call (.Name "zip" p) [e, e2] [] pos) (iZipM K ta) := by
  subst hK
  refine ⟨fun pins s σ H R I h => ?_⟩
  refine Call_ (ld_blt I hg hm PyProof.Rows.boot_zip (PyProof.Rows.callWith_type1 (thn (ha.run pos pins s σ H _ I h) fun us s1 ⟨vs, H1, I1, r1, q1⟩ => ?_) hs hpl))
  obtain ⟨a, b, xs, ys, rfl, hqx, hqy, _, q⟩ := q1
  cases r1 with
  | cons r rr =>
    cases rr with
    | cons r' rr =>
      cases rr
      cases r
      cases r'
      obtain ⟨its, rv, p1, _⟩ := I1.list hqx
      obtain ⟨its2, rv2, p2, _⟩ := I1.tuple hqy
      obtain ⟨o2, ho2, _⟩ := id p2
      have la : a < s1.heap.objs.size := p1.lt
      have lb : b < s1.heap.objs.size := Heap.lt_size ho2
      refine zip_begins2 (begins_list a its.toArray) (begins_tuple b its2.toArray) p1.isList p2 fun h' hz hTI hTO h1 h2 hsz hk => wpAny_pyIter_zip hz ?_
      have I2 : Inv X pins σ H1 { s1 with heap := h' } := I1.kept (t' := s1.toks) hk
      refine ⟨s1.heap.objs.size + 4, [s1.heap.objs.size + 4, s1.heap.objs.size + 2, s1.heap.objs.size + 3, s1.heap.objs.size, s1.heap.objs.size + 1], _, _, H1, rfl, I2, turn (zip_sep2 (N := s1.heap.objs.size) (fp1 := [a]) (fp2 := [b]) (fun c hc => by rw [List.mem_singleton.mp hc]; exact la) (fun c hc => by rw [List.mem_singleton.mp hc]; exact lb)) (Nat.ne_of_lt la) (Nat.ne_of_lt (Nat.lt_succ_of_lt lb)), ⟨Nat.zero_le _, hz, hTI, ⟨_, _, hTO⟩, ⟨_, h1, rfl, rfl⟩, ⟨_, h2, rfl, rfl⟩⟩, fun c hcm => ?_, q⟩
      have hle : s1.heap.objs.size ≤ c := by
        simp only [List.mem_cons, List.not_mem_nil, or_false] at hcm
        rcases hcm with rfl | rfl | rfl | rfl | rfl
        · exact Nat.le_add_right _ _
        · exact Nat.le_add_right _ _
        · exact Nat.le_add_right _ _
        · exact Nat.le_refl _
        · exact Nat.le_add_right _ _
      exact I1.fpOk hle (I1.hok.fresh hle)
end ZipLT
namespace L3
open PySem PySem.Spec PyProof.Rows L2 TB LamX
def rInKd (K : PySem.W.Frag) (d : Addr) (neg : Bool) : R2 := fun x y H Q => ∃ (z : Str) (r : Option Value), x = .str z ∧ y = .ref d ∧ PySem.W.nsIn K d z = some r ∧ Q (.bl (if neg then !r.isSome else r.isSome)) H
theorem op_ninKd {Y : Cx} (K : PySem.W.Frag) {d : Addr} {es : Array DictEntry} {n : Nat} (D : KDict K Y.w d es n) (hK : Y.K = K := by rfl) : OpR Y (compareOp .NotIn) (rInKd K d true) := by subst hK; exact op_notIn_kd D
def rIxKd (K : PySem.W.Frag) (d : Addr) : R2 := fun x y H Q => ∃ (z : Str) (u0 : Value) (v0 : V), x = .ref d ∧ y = .str z ∧ PySem.W.nsIn K d z = some (some u0) ∧ RelV v0 u0 ∧ Q v0 H
theorem ix_kd {Y : Cx} (K : PySem.W.Frag) {d : Addr} {es : Array DictEntry} {n : Nat} (D : KDict K Y.w d es n) (hK : Y.K = K := by rfl) : IxR Y (rIxKd K d) := by
  subst hK
  intro value slice pins s σ H x y v u Q I rx ry h hs
  have h2 := h
  obtain ⟨z, u0, v0, rfl, rfl, _⟩ := h2
  have rx2 := rx
  cases rx2
  exact tail_any (kd_type D I) PySem.F.slot_dict_getitem.lookup (op_item_kd D pins s σ H _ _ _ _ Q I rx ry h) hs
section
variable {X : Sx} {K : PySem.W.Frag}
def oInKd (K : PySem.W.Frag) (d : Addr) (neg : Bool) : O2 := fun dx dy Q => ∃ (z : Str) (r : Option Value), dx = .str z ∧ dy = clsD d ∧ PySem.W.nsIn K d z = some r ∧ Q (.bl (if neg then !r.isSome else r.isSome))
theorem lr_inKd {d : Addr} {neg : Bool} : LiR X (rInKd K d neg) (oInKd K d neg) := by
  intro c hX σ F H ρ x y dx dy Q Q3 R rx ry hq ⟨z, r, e1, e2, e, q⟩
  subst e1 e2
  exact ⟨z, r, rx, ry, e, hq (.bl _) _ F H R (Same.refl F) rfl q⟩
/-- what stands at key z of the dict at d -/
def KdAt (K : PySem.W.Frag) (d : Addr) (z : Str) (y : D) : Prop := ∃ u0 v0, PySem.W.nsIn K d z = some (some u0) ∧ RelV v0 u0 ∧ ∀ F, Rp K F y v0
def oIxKd (K : PySem.W.Frag) (d : Addr) : O2 := fun dx dy Q => ∃ (z : Str) (y : D), dx = clsD d ∧ dy = .str z ∧ KdAt K d z y ∧ Q y
theorem lr_ixKd {d : Addr} (hK : X.K = K := by rfl) : LiR X (rIxKd K d) (oIxKd K d) := by
  subst hK
  intro c hX σ F H ρ x y dx dy Q Q3 R rx ry hq ⟨z, w, e1, e2, ⟨u0, v0, e, r, h⟩, q⟩
  subst e1 e2 hX
  exact ⟨z, u0, v0, rx, ry, e, r, hq w _ F H R (Same.refl F) (h F) q⟩
theorem w_ninKd {d : Addr} {z : Str} {r : Option Value} {Q : D → Prop} (e : PySem.W.nsIn K d z = some r) (h : Q (.bl (!r.isSome))) : oInKd K d true (.str z) (clsD d) Q := ⟨z, r, rfl, rfl, e, h⟩
theorem w_ixKd {d : Addr} {z : Str} {y : D} {Q : D → Prop} (e : KdAt K d z y) (h : Q y) : oIxKd K d (clsD d) (.str z) Q := ⟨z, y, rfl, rfl, e, h⟩
theorem kdAt_tup {d : Addr} {z : Str} {vs : List He.Dv} {ws : List Str} (h : He.tabTupB K d z vs = true) (e : vs.map (He.Dv.v K) = ws.map V.str) : KdAt K d z (.tup (strsD ws)) := by
  obtain ⟨a, e1, e2⟩ := He.tabTupB_ok h
  refine ⟨_, .ref a, e1, rfl, fun F => ⟨a, ws.map V.str, rfl, by rw [← e]; exact e2 F, RpL.map (f := D.str) (g := V.str) (fun _ => rfl) ws⟩⟩
def rInSign (neg : Bool) : R2 := fun x y H Q => ∃ (c : Nat) (z : Str), x = .str ⟨#[c]⟩ ∧ y = .str z ∧ Q (.bl (if neg then !decide (c ∈ z.cps.toList) else decide (c ∈ z.cps.toList))) H
theorem op_inSg {Y : Cx} : OpR Y (compareOp .In) (rInSign false) := op_in_sign
def oInSign (neg : Bool) : O2 := fun dx dy Q => ∃ (c : Nat) (z : Str), dx = .str ⟨#[c]⟩ ∧ dy = .str z ∧ Q (.bl (if neg then !decide (c ∈ z.cps.toList) else decide (c ∈ z.cps.toList)))
theorem lr_inSign {neg : Bool} : LiR X (rInSign neg) (oInSign neg) := by
  intro c hX σ F H ρ x y dx dy Q Q3 R rx ry hq ⟨k, z, e1, e2, q⟩
  subst e1 e2
  exact ⟨k, z, rx, ry, hq (.bl _) _ F H R (Same.refl F) rfl q⟩
theorem w_inSign {c : Nat} {z : Str} {Q : D → Prop} (h : Q (.bl (decide (c ∈ z.cps.toList)))) : oInSign false (.str ⟨#[c]⟩) (.str z) Q := ⟨c, z, rfl, rfl, h⟩
def qChain (o o' : O2) (pa pb pc : QE) : QE := fun ρ Q => pa ρ fun x ρ1 => pb ρ1 fun y ρ2 => some2 (fun dx dy => o dx dy fun d => ∃ k, d = .bl k ∧ (if k = true then pc ρ2 fun z ρ3 => some2 (fun dy dz => o' dy dz fun e => Q (.val e) ρ3) (rdR ρ3 y) (rdR ρ3 z) else Q (.val (.bl false)) ρ2)) (rdR ρ2 x) (rdR ρ2 y)
theorem li_chain {r r' : R2} {o o' : O2} {ta tb tc : TE} {pa pb pc : QE} (h : LiR X r o) (h' : LiR X r' o') (ha : LiE X ta pa) (hb : LiE X tb pb) (hc : LiE X tc pc) : LiE X (tChain r r' ta tb tc) (qChain o o' pa pb pc) := by
  intro c hX σ F H ρ Q Q3 R hq hp
  refine ha c hX σ F H ρ _ _ R ?_ hp
  intro x ρ1 v F1 H1 R1 s1 rv q1
  refine hb c hX σ F1 H1 ρ1 _ _ R1 ?_ q1
  intro y ρ2 u F2 H2 R2 s2 ru q2
  cases e1 : rdR ρ2 x with
  | none => rw [e1] at q2; exact q2.elim
  | some dx =>
    cases e2 : rdR ρ2 y with
    | none => rw [e1, e2] at q2; exact q2.elim
    | some dy =>
      rw [e1, e2] at q2
      refine h c hX σ F2 H2 ρ2 v u dx dy _ _ R2 ((rv.mono s2).rn R2 e1) (ru.rn R2 e2) ?_ q2
      rintro d z F3 H3 R3 s3 rz ⟨k, rfl, q3⟩
      obtain rfl : z = .bl k := rz
      refine ⟨k, rfl, ?_⟩
      cases k with
      | false => exact hq (.val (.bl false)) ρ2 _ F3 H3 R3 (tr (tr s1 s2) s3) rfl q3
      | true =>
        refine hc c hX σ F3 H3 ρ2 _ _ R3 ?_ q3
        intro z2 ρ3 w F4 H4 R4 s4 rw4 q4
        cases e3 : rdR ρ3 y with
        | none => rw [e3] at q4; exact q4.elim
        | some dy2 =>
          cases e4 : rdR ρ3 z2 with
          | none => rw [e3, e4] at q4; exact q4.elim
          | some dz =>
            rw [e3, e4] at q4
            exact h' c hX σ F4 H4 ρ3 u w dy2 dz Q _ R4 ((ru.mono (tr s3 s4)).rn R4 e3) (rw4.rn R4 e4) (fun e x2 F5 H5 R5 s5 r5 q5 => hq (.val e) ρ3 x2 F5 H5 R5 (tr (tr (tr (tr s1 s2) s3) s4) s5) r5 q5) q4
theorem w_chain {o o' : O2} {pa pb pc : QE} {ρ : PSt} {Q : Rv → PSt → Prop} (h : pa ρ fun x ρ1 => pb ρ1 fun y ρ2 => some2 (fun dx dy => o dx dy fun d => ∃ k, d = .bl k ∧ (if k = true then pc ρ2 fun z ρ3 => some2 (fun dy dz => o' dy dz fun e => Q (.val e) ρ3) (rdR ρ3 y) (rdR ρ3 z) else Q (.val (.bl false)) ρ2)) (rdR ρ2 x) (rdR ρ2 y)) : qChain o o' pa pb pc ρ Q := h
theorem w_chK {b : Bool} {F : Bool → Prop} (h : F b) : ∃ k, D.bl b = .bl k ∧ F k := ⟨b, rfl, h⟩
theorem wd_zipM {a b : Addr} {vs ws : List V} {ds es : List D} {F : Hp} (hl : ds.length = es.length) (h : SqL X.K F a vs) (r : RpL X.K F ds vs) (h2 : SqT X.K F b ws) (r2 : RpL X.K F es ws) : Wd X (ZipLT.Itm X.K a b vs.length) F ((ds.zip es).map fun p => D.tup [p.1, p.2]) := by
  intro i c' σ ρ F1 H1 hX s R
  have hs := sqL_mono (tr s R.sub) h
  have hs2 := sqT_mono (tr s R.sub) h2
  refine ⟨fun d e => ?_, fun e => ?_⟩
  · rw [List.getElem?_map] at e
    obtain ⟨⟨d1, d2⟩, e1, rfl⟩ := Option.map_eq_some_iff.mp e
    obtain ⟨e3, e4⟩ := List.getElem?_zip_eq_some.mp e1
    obtain ⟨v, e5, rp⟩ := r.get' e3
    obtain ⟨u, e6, rp2⟩ := r2.get' e4
    refine ⟨⟨vs, ws, v, u, hs, hs2, rfl, by rw [r2.len, r.len, hl], e5, e6⟩, ?_⟩
    rintro x H' ⟨T, y1, y2, rfl, nT, rfl, hx, hy⟩
    have ex := hx vs hs
    have ey := hy ws hs2
    rw [e5] at ex
    rw [e6] at ey
    obtain rfl := Option.some.inj ex
    obtain rfl := Option.some.inj ey
    have sF : Same F1 (upd F1 T (.tup [v, u])) := fun _ _ e => old_upd (R.fnone nT) e
    refine ⟨fun _ _ e => old_upd nT e, _, R.alloc nT trivial, sF, T, _, rfl, sqT_of upd_same, v, _, rfl, (rp.mono s).mono sF, u, _, rfl, (rp2.mono s).mono sF, rfl⟩
  · have hi := List.getElem?_eq_none_iff.mp e
    rw [List.length_map, List.length_zip] at hi
    exact ⟨vs, ws, hs, hs2, rfl, by rw [r2.len, r.len, hl], by rw [r.len]; omega⟩
def iqZipM (pa : QAD) : QI := fun ρ Q => pa ρ fun as ρ' => ∃ ds es, as = [.lst ds, .tup es] ∧ ds.length = es.length ∧ Q ((ds.zip es).map fun p => D.tup [p.1, p.2]) ρ'
theorem lii_zipM {ta : TA} {pa : QAD} (h1 : LiAD X ta pa) (hK : X.K = K := by rfl) : LiI X (ZipLT.iZipM K ta) (iqZipM pa) := by
  subst hK
  intro c hX σ F H ρ R Q3 Re hq hp
  refine h1 c hX σ F H ρ _ _ Re ?_ hp
  rintro as ρ' vs F' H' R' s rp ⟨ds, es, rfl, hl, q⟩
  subst hX
  obtain ⟨v, t, rfl, ⟨a, ws, rfl, sq, r⟩, v2, t2, rfl, ⟨b, us, rfl, sq2, r2⟩, e⟩ := rp
  obtain rfl : t2 = [] := e
  exact ⟨a, b, ws, us, rfl, sqL_of (R'.sub _ _ sq), sqT_mono R'.sub sq2, by rw [r.len, r2.len, hl], hq _ ρ' _ F' H' R' s (wd_zipM hl (sqL_of sq) r sq2 r2) q⟩
theorem w_zipM {pa : QAD} {ρ : PSt} {Q : List D → PSt → Prop} (h : pa ρ fun as ρ' => ∃ ds es, as = [.lst ds, .tup es] ∧ ds.length = es.length ∧ Q ((ds.zip es).map fun p => D.tup [p.1, p.2]) ρ') : iqZipM pa ρ Q := h
def gqStar (g1 : QG) (i : Nat) (fr : Bool) : QG := fun d ρ Q => ∃ e r, d = .tup (e :: r) ∧ r.length ≤ 16000 ∧ g1 e ρ fun ρ1 => Q (ρ1.set i (if fr then .own true r else .val (.lst r)))
theorem lg_star {g1 : TG} {i : Nat} {p1 : QG} {t1 : List Nat} (h1 : LiG X g1 p1 t1) (hK : X.K = K := by rfl) : LiG X (StarT.gStar K g1 (gName i)) (gqStar p1 i false) (t1 ++ [i]) := by
  subst hK
  rintro c hX σ F H ρ d v R Q3 Re rp hq ⟨e, r, rfl, hz, q⟩
  subst hX
  obtain ⟨a, vs, rfl, sq, rr⟩ := rp
  obtain ⟨x, xs, rfl, rx, rxs⟩ := rr
  refine ⟨a, x, xs, rfl, sqT_mono Re.sub sq, by rw [rxs.len]; exact hz, fun p np => ?_⟩
  have sF : Same F (upd F p (.lst xs)) := fun _ _ e => old_upd (Re.fnone np) e
  have R2 := Re.alloc (o := .lst xs) np trivial
  refine h1 c rfl σ _ _ ρ e x _ _ R2 (rx.mono sF) ?_ q
  intro ρ1 σ1 F1 H1 R1 s1 l1 o1 q1
  refine hq _ _ F1 H1 (R1.setVal (i := i) (d := .lst r) (v := .ref p) ⟨p, xs, rfl, s1 _ _ upd_same, (rxs.mono sF).mono s1⟩) (tr sF s1) (by rw [List.length_set]; exact l1) (fun j hj => ?_) q1
  rw [List.getElem?_set_ne (fun z => hj (by rw [z]; exact List.mem_append_right _ (List.mem_singleton.mpr rfl))), o1 j (fun z => hj (List.mem_append_left _ z))]
theorem w_star {g1 : QG} {i : Nat} {e : D} {r : List D} {ρ : PSt} {Q : PSt → Prop} (hz : r.length ≤ 16000) (h : g1 e ρ fun ρ1 => Q (ρ1.set i (.val (.lst r)))) : gqStar g1 i false (.tup (e :: r)) ρ Q := ⟨e, r, rfl, hz, h⟩
end
end L3
namespace L3
open PySem PySem.Spec PyProof.Rows L2 TB LamX
def tFzS (i : Nat) (t : TS) : TS := t
theorem toFzS {Y : Cx} {s : Stmt} {t : TS} (i : Nat) (h : PS Y s t) : PS Y s (tFzS i t) := h
def fzP (ρ : PSt) (i : Nat) : Option PV → PSt
  | some (.own true ds) => ρ.set i (.val (.lst ds))
  | _ => ρ
def sFzS (i : Nat) (p : QS) : QS := fun P ρ => p P (fzP ρ i ρ[i]?)
theorem ls_fzS {X : Sx} {i : Nat} {t : TS} {p : QS} (h : LiS X t p) : LiS X (tFzS i t) (sFzS i p) := by
  intro c hX σ F H ρ D P R a hp
  have hp : p P (fzP ρ i ρ[i]?) := hp
  cases e : ρ[i]? with
  | none => rw [e] at hp; exact h c hX σ F H ρ D P R a hp
  | some pv =>
    rw [e] at hp
    match pv, e, hp with
    | .un, e, hp => exact h c hX σ F H ρ D P R a hp
    | .val d, e, hp => exact h c hX σ F H ρ D P R a hp
    | .own false ds, e, hp => exact h c hX σ F H ρ D P R a hp
    | .own true ds, e, hp =>
      obtain ⟨p2, vs, e2, _⟩ := R.slot i _ e
      obtain ⟨vs, R2, s2, _⟩ := R.freeze e e2
      exact h c hX σ _ H _ D P R2 (a.mono s2) hp
theorem w_fzS {i : Nat} {p : QS} {P : PEnds} {ρ : PSt} {ds : List D} (e : ρ[i]? = some (.own true ds)) (h : p P (ρ.set i (.val (.lst ds)))) : sFzS i p P ρ := by
  show p P (fzP ρ i ρ[i]?)
  rw [e]
  exact h
end L3
namespace L3
open PySem PySem.Spec PyProof.Rows L2 TB LamX
def far : Int := 10 ^ 18
/-- plain things: None, truths, numbers, texts, lists, tuples, dicts -/
def Pl (d : D) : Prop := tyD d ≠ none
theorem Pl.ty {d : D} (h : Pl d) : ∃ t, tyD d = some t := by
  cases e : tyD d with
  | none => exact absurd e h
  | some t => exact ⟨t, rfl⟩
def isS : D → Bool
  | .str _ => true
  | _ => false
def isI : D → Bool
  | .int _ => true
  | .bl _ => true
  | _ => false
def isBo : D → Bool
  | .bl _ => true
  | _ => false
def isL : D → Bool
  | .lst _ => true
  | _ => false
def isT : D → Bool
  | .tup _ => true
  | _ => false
theorem kit_s {d : D} {t : String} (e : tyD d = some t) : kitB t "str" = some (isS d) := by
  cases d <;> first
    | (obtain rfl := Option.some.inj e; simp only [isS, isI, isBo, isL, isT]; decide +kernel)
    | exact nomatch e
theorem kit_i {d : D} {t : String} (e : tyD d = some t) : kitB t "int" = some (isI d) := by
  cases d <;> first
    | (obtain rfl := Option.some.inj e; simp only [isS, isI, isBo, isL, isT]; decide +kernel)
    | exact nomatch e
theorem kit_b {d : D} {t : String} (e : tyD d = some t) : kitB t "bool" = some (isBo d) := by
  cases d <;> first
    | (obtain rfl := Option.some.inj e; simp only [isS, isI, isBo, isL, isT]; decide +kernel)
    | exact nomatch e
theorem kit_t {d : D} {t : String} (e : tyD d = some t) : kitB t "tuple" = some (isT d) := by
  cases d <;> first
    | (obtain rfl := Option.some.inj e; simp only [isS, isI, isBo, isL, isT]; decide +kernel)
    | exact nomatch e
theorem w_isS {d : D} {F : D → Prop} (p : Pl d) (h : F (.bl (isS d))) : oIsi [d, .ty "str"] F := by
  obtain ⟨t, e⟩ := p.ty
  exact w_isi e (kit_s e) h
theorem w_isI {d : D} {F : D → Prop} (p : Pl d) (h : F (.bl (isI d))) : oIsi [d, .ty "int"] F := by
  obtain ⟨t, e⟩ := p.ty
  exact w_isi e (kit_i e) h
theorem w_isBo {d : D} {F : D → Prop} (p : Pl d) (h : F (.bl (isBo d))) : oIsi [d, .ty "bool"] F := by
  obtain ⟨t, e⟩ := p.ty
  exact w_isi e (kit_b e) h
theorem w_isT {d : D} {F : D → Prop} (p : Pl d) (h : F (.bl (isT d))) : oIsi [d, .ty "tuple"] F := by
  obtain ⟨t, e⟩ := p.ty
  exact w_isi e (kit_t e) h
theorem w_isTT {ds : List D} {F : D → Prop} (h : F (.bl true)) : oIsi [.tup ds, .ty "tuple"] F := w_isi rfl (by decide +kernel) h
theorem isS_is {d : D} (h : isS d = true) : ∃ z, d = .str z := by
  cases d <;> first
    | exact ⟨_, rfl⟩
    | exact nomatch h
theorem isT_is {d : D} (h : isT d = true) : ∃ ds, d = .tup ds := by
  cases d <;> first
    | exact ⟨_, rfl⟩
    | exact nomatch h
def rLenTx : List V → Hp → VK → Prop := fun xs H Q => ∃ z : Str, xs = [.str z] ∧ z.length ≤ sizeLine ∧ Q (.int z.length) H
theorem call_lenTx {Y : Cx} : CallR Y (.builtin "len") rLenTx := call_len_str
def oLenTx : OL := fun as Q => ∃ z : Str, as = [.str z] ∧ z.length ≤ sizeLine ∧ Q (.int z.length)
theorem lc_lenTx {X : Sx} : LiC X rLenTx oLenTx := by
  intro c hX σ F H ρ xs dxs Q Q3 R rx hq h
  obtain ⟨z, rfl, hz, h⟩ := h
  obtain ⟨v, u, rfl, rv, e⟩ := rx
  obtain rfl : u = [] := e
  exact ⟨z, by rw [show v = .str z from rv], hz, hq (.int _) _ F H R (Same.refl F) rfl h⟩
theorem w_lenTx {z : Str} {F : D → Prop} (hz : z.length ≤ sizeLine) (h : F (.int z.length)) : oLenTx [.str z] F := ⟨z, rfl, hz, h⟩
theorem i_tt {A B : Prop} (h : A) : if true = true then A else B := by rw [if_pos rfl]; exact h
theorem i_ff {A B : Prop} (h : B) : if false = true then A else B := by rw [if_neg (fun z => nomatch z)]; exact h
theorem i_nt {A B : Prop} (h : B) : if (!true) = true then A else B := by rw [if_neg (fun z => nomatch z)]; exact h
theorem i_nf {A B : Prop} (h : A) : if (!false) = true then A else B := by simpa using h
theorem w_neg {i : Int} {F : D → Prop} (h : F (.int (-i))) : oNeg (.int i) F := ⟨i, rfl, h⟩
theorem at0 {α : Type} {x : α} {r : List α} : atI (x :: r) 0 = some x := atI_nat (j := 0) rfl
theorem at1 {α : Type} {x y : α} {r : List α} : atI (x :: y :: r) 1 = some y := atI_nat (j := 1) rfl
theorem at2 {α : Type} {x y z : α} {r : List α} : atI (x :: y :: z :: r) 2 = some z := atI_nat (j := 2) rfl
theorem w_ninKdN {K : PySem.W.Frag} {d : Addr} {z : Str} {Q : D → Prop} (e : PySem.W.nsIn K d z = some none) (h : Q (.bl true)) : oInKd K d true (.str z) (clsD d) Q := w_ninKd e h
theorem w_ninKdS {K : PySem.W.Frag} {d : Addr} {z : Str} {y : D} {Q : D → Prop} (e : KdAt K d z y) (h : Q (.bl false)) : oInKd K d true (.str z) (clsD d) Q := by
  obtain ⟨u0, v0, e, _⟩ := e
  exact w_ninKd e h
theorem w_istr {pe : QE} {ρ : PSt} {Q : List D → PSt → Prop} (h : qEsc pe ρ fun d ρ' => ∃ z : Str, d = .str z ∧ Q (z.cps.toList.map fun k => D.str ⟨#[k]⟩) ρ') : iqStr pe ρ Q := h
theorem w_exS {z : Str} {F : Str → Prop} (h : F z) : ∃ y : Str, D.str z = .str y ∧ F y := ⟨z, rfl, h⟩
theorem abc_eq : ("abcdefghijklmnopqrstuvwxyz" : Str).cps.toList = (List.range 26).map (97 + ·) := by decide +kernel
theorem abc_iff {c : Nat} : c ∈ ("abcdefghijklmnopqrstuvwxyz" : Str).cps.toList ↔ 97 ≤ c ∧ c ≤ 122 := by
  rw [abc_eq, List.mem_map]
  constructor
  · rintro ⟨i, hi, rfl⟩
    have := List.mem_range.mp hi
    omega
  · rintro ⟨h1, h2⟩
    exact ⟨c - 97, List.mem_range.mpr (by omega), by omega⟩
def pIsName : PSp := fun ds Q => ∃ t, ds = [t] ∧ Pl t ∧ (∀ z, t = .str z → z.length ≤ sizeLine) ∧ ∀ b : Bool, (b = true ↔ ∃ z, t = .str z ∧ Nm z) → Q (.val (.bl b)) none
def numB (t : D) (lo hi : Int) : Bool := match t with
  | .int i => decide (lo ≤ i) && decide (i ≤ hi)
  | _ => false
def pIsNum : PSp := fun ds Q => ∃ t lo hi, ds = [t, .int lo, .int hi] ∧ Pl t ∧ Q (.val (.bl (numB t lo hi))) none
def partB (t : D) (kind : Str) (locks names : List Str) : Bool :=
  if kind = "number" then numB t (-far) far else if kind = "many" then numB t 0 12 else match t with
    | .str z => decide (z ∈ if kind = "lock" then locks else names)
    | _ => false
def pIsPart : PSp := fun ds Q => ∃ t kind locks names, ds = [t, .str kind, .lst (strsD locks), .lst (strsD names)] ∧ Pl t ∧ Q (.val (.bl (partB t kind locks names))) none
def shp (w : Str) : Option (List Str) :=
  if w = "set" then some ["number"] else if w = "add" then some ["number"] else if w = "take" then some ["lock"] else if w = "read" then some ["cell"] else if w = "write" then some ["cell"] else if w = "skip" then some ["number", "many"] else if w = "quit" then some [] else none
def shpK : List Str := ["set", "add", "take", "read", "write", "skip", "quit"]
/-- the table of shapes at d -/
structure ShT (K : PySem.W.Frag) (d : Addr) : Prop where
  at_ : ∀ w ks, shp w = some ks → KdAt K d w (.tup (strsD ks))
  no : ∀ w, shp w = none → PySem.W.nsIn K d w = some none
def partsB (ps : List D) (ks locks names : List Str) : Bool := ((ps.zip ks).map fun p => partB p.1 p.2 locks names).all id
def deedB (t : D) (locks names : List Str) : Bool := match t with
  | .tup (.str w :: ps) => match shp w with
    | some ks => decide (ps.length = ks.length) && partsB ps ks locks names
    | none => false
  | _ => false
def PlT (t : D) : Prop := Pl t ∧ ∀ its, t = .tup its → its.length ≤ 16000 ∧ ∀ d ∈ its, Pl d
def pIsDeed : PSp := fun ds Q => ∃ t locks names, ds = [t, .lst (strsD locks), .lst (strsD names)] ∧ PlT t ∧ Q (.val (.bl (deedB t locks names))) none
/-- the keys of a dict of the top -/
def keysB (K : PySem.W.Frag) (d : Addr) (ks : List Str) : Bool := match K.lookup d with
  | some ⟨_, _, .dict es _, _⟩ => decide (es.toList.map (fun e => match e.key with | .str x _ => some x | _ => none) = ks.map some)
  | _ => false
theorem keysB_no {K : PySem.W.Frag} {d : Addr} {ks : List Str} (h : keysB K d ks = true) {z : Str} (hz : z ∉ ks) : PySem.W.nsIn K d z = some none := by
  unfold keysB at h
  unfold PySem.W.nsIn
  cases e : K.lookup d with
  | none => rw [e] at h; exact nomatch h
  | some o =>
    obtain ⟨oc, od, dt, sl⟩ := o
    rw [e] at h
    cases dt with
    | dict es n =>
      have h2 := of_decide_eq_true h
      have key : ∀ e ∈ es.toList, ∃ x t, e.key = .str x t ∧ x ∈ ks := by
        intro e he
        have m : (match e.key with | .str x _ => some x | _ => none) ∈ ks.map some := by
          rw [← h2]
          exact List.mem_map_of_mem he
        obtain ⟨y, hy, ey⟩ := List.mem_map.mp m
        cases hk : e.key with
        | str x t =>
          rw [hk] at ey
          obtain rfl := Option.some.inj ey
          exact ⟨_, t, rfl, hy⟩
        | _ => rw [hk] at ey; exact nomatch ey
      have h3 : es.toList.find? (·.key.isStr z) = none := by
        rw [List.find?_eq_none]
        intro e he q
        obtain ⟨x, t, hk, hx⟩ := key e he
        rw [hk] at q
        have : x = z := by simpa [Value.isStr] using q
        exact hz (this ▸ hx)
      have h4 : es.toList.any (·.refKey) = false := by
        rw [List.any_eq_false]
        intro e he q
        obtain ⟨x, t, hk, hx⟩ := key e he
        simp [DictEntry.refKey, hk] at q
      show (match es.toList.find? (·.key.isStr z) with | some e => some (some e.val) | none => if es.toList.any (·.refKey) then none else some none) = some none
      rw [h3, h4]
      rfl
    | _ => exact nomatch h
/-- what the head has to look at -/
def shB (K : PySem.W.Frag) (d : Addr) : Bool := keysB K d shpK && (He.tabTupB K d "set" [.str "number"] && (He.tabTupB K d "add" [.str "number"] && (He.tabTupB K d "take" [.str "lock"] && (He.tabTupB K d "read" [.str "cell"] && (He.tabTupB K d "write" [.str "cell"] && (He.tabTupB K d "skip" [.str "number", .str "many"] && He.tabTupB K d "quit" []))))))
theorem shB_ok {K : PySem.W.Frag} {d : Addr} (h : shB K d = true) : ShT K d := by
  obtain ⟨h0, h⟩ := He.ba h
  obtain ⟨h1, h⟩ := He.ba h
  obtain ⟨h2, h⟩ := He.ba h
  obtain ⟨h3, h⟩ := He.ba h
  obtain ⟨h4, h⟩ := He.ba h
  obtain ⟨h5, h⟩ := He.ba h
  obtain ⟨h6, h7⟩ := He.ba h
  refine ⟨fun w ks e => ?_, fun w e => keysB_no h0 fun m => ?_⟩
  · unfold shp at e
    split at e
    · rename_i q; obtain rfl := Option.some.inj e; rw [q]; exact kdAt_tup (ws := ["number"]) h1 rfl
    split at e
    · rename_i q; obtain rfl := Option.some.inj e; rw [q]; exact kdAt_tup (ws := ["number"]) h2 rfl
    split at e
    · rename_i q; obtain rfl := Option.some.inj e; rw [q]; exact kdAt_tup (ws := ["lock"]) h3 rfl
    split at e
    · rename_i q; obtain rfl := Option.some.inj e; rw [q]; exact kdAt_tup (ws := ["cell"]) h4 rfl
    split at e
    · rename_i q; obtain rfl := Option.some.inj e; rw [q]; exact kdAt_tup (ws := ["cell"]) h5 rfl
    split at e
    · rename_i q; obtain rfl := Option.some.inj e; rw [q]; exact kdAt_tup (ws := ["number", "many"]) h6 rfl
    split at e
    · rename_i q; obtain rfl := Option.some.inj e; rw [q]; exact kdAt_tup (ws := []) h7 rfl
    · exact nomatch e
  · simp only [shpK, List.mem_cons, List.not_mem_nil, or_false] at m
    rcases m with rfl | rfl | rfl | rfl | rfl | rfl | rfl <;> exact absurd e (by decide)
/-- the plan's constants -/
structure PlC (mg : Str → Option Value) : Prop where
  v_LETTERS : ∃ u, mg "LETTERS" = some u ∧ RelV (.str "abcdefghijklmnopqrstuvwxyz") u
  v_MOST_LETTERS : ∃ u, mg "MOST_LETTERS" = some u ∧ RelV (.int 8) u
  v_FARTHEST : ∃ u, mg "FARTHEST" = some u ∧ RelV (.int (10 ^ 18)) u
  v_MOST_DEEDS : ∃ u, mg "MOST_DEEDS" = some u ∧ RelV (.int 12) u
  v_NUMBER : ∃ u, mg "NUMBER" = some u ∧ RelV (.str "number") u
  v_MANY : ∃ u, mg "MANY" = some u ∧ RelV (.str "many") u
  v_LOCK : ∃ u, mg "LOCK" = some u ∧ RelV (.str "lock") u
structure PlM (mg : Str → Option Value) : Prop where
  v_MOST_LOCKS : ∃ u, mg "MOST_LOCKS" = some u ∧ RelV (.int 7) u
  v_MOST_CELLS : ∃ u, mg "MOST_CELLS" = some u ∧ RelV (.int 8) u
  v_MOST_TASKS : ∃ u, mg "MOST_TASKS" = some u ∧ RelV (.int 6) u
inductive Dd where
  | set (n : Int) | add (n : Int) | take (l : Str) | read (c : Str) | write (c : Str) | skip (n m : Int) | quit
def Dd.w : Dd → Str
  | .set _ => "set"
  | .add _ => "add"
  | .take _ => "take"
  | .read _ => "read"
  | .write _ => "write"
  | .skip _ _ => "skip"
  | .quit => "quit"
def Dd.ps : Dd → List D
  | .set n => [.int n]
  | .add n => [.int n]
  | .take l => [.str l]
  | .read c => [.str c]
  | .write c => [.str c]
  | .skip n m => [.int n, .int m]
  | .quit => []
def ddD (d : Dd) : D := .tup (.str d.w :: d.ps)
def Dd.ok (locks names : List Str) : Dd → Prop
  | .set n => -far ≤ n ∧ n ≤ far
  | .add n => -far ≤ n ∧ n ≤ far
  | .take l => l ∈ locks
  | .read c => c ∈ names
  | .write c => c ∈ names
  | .skip n m => (-far ≤ n ∧ n ≤ far) ∧ 0 ≤ m ∧ m ≤ 12
  | .quit => True
theorem dd_plT (d : Dd) : PlT (ddD d) := by
  refine ⟨(fun z => nomatch z), ?_⟩
  rintro its e
  obtain rfl : D.str d.w :: d.ps = its := by injection e
  cases d <;> exact ⟨by simp [Dd.ps], fun x hx => by
    simp only [Dd.ps, List.mem_cons, List.not_mem_nil, or_false] at hx
    rcases hx with rfl | rfl | rfl <;> exact (fun z => nomatch z)⟩
end L3
namespace L3
open PySem PySem.Spec PyProof.Rows L2 TB LamX
theorem shp_w (d : Dd) : shp d.w = some (match d with
    | .set _ => ["number"]
    | .add _ => ["number"]
    | .take _ => ["lock"]
    | .read _ => ["cell"]
    | .write _ => ["cell"]
    | .skip _ _ => ["number", "many"]
    | .quit => []) := by
  cases d with
  | set n => show shp "set" = some (["number"] : List Str); decide +kernel
  | add n => show shp "add" = some (["number"] : List Str); decide +kernel
  | take n => show shp "take" = some (["lock"] : List Str); decide +kernel
  | read n => show shp "read" = some (["cell"] : List Str); decide +kernel
  | write n => show shp "write" = some (["cell"] : List Str); decide +kernel
  | skip n m => show shp "skip" = some (["number", "many"] : List Str); decide +kernel
  | quit => show shp "quit" = some []; decide +kernel
theorem far_num {n : Int} {ls ns : List Str} (h : -far ≤ n ∧ n ≤ far) : partB (.int n) "number" ls ns = true := by
  unfold partB
  rw [if_pos rfl]
  show (decide (-far ≤ n) && decide (n ≤ far)) = true
  rw [decide_eq_true h.1, decide_eq_true h.2]
  rfl
theorem part_lock {l : Str} {ls ns : List Str} : partB (.str l) "lock" ls ns = decide (l ∈ ls) := by
  unfold partB
  rw [if_neg (by decide +kernel), if_neg (by decide +kernel)]
  simp
theorem part_cell {l : Str} {ls ns : List Str} : partB (.str l) "cell" ls ns = decide (l ∈ ns) := by
  unfold partB
  rw [if_neg (by decide +kernel), if_neg (by decide +kernel)]
  show decide (l ∈ if _ then _ else _) = _
  rw [if_neg (by decide +kernel)]
theorem part_many {m : Int} {ls ns : List Str} : partB (.int m) "many" ls ns = numB (.int m) 0 12 := by
  unfold partB
  rw [if_neg (by decide +kernel), if_pos rfl]
theorem deed_good {d : Dd} {ls ns : List Str} (h : d.ok ls ns) : deedB (ddD d) ls ns = true := by
  have e := shp_w d
  show (match shp d.w with | some ks => decide (d.ps.length = ks.length) && partsB d.ps ks ls ns | none => false) = true
  rw [e]
  cases d with
  | set n => simp [Dd.ps, partsB, far_num h]
  | add n => simp [Dd.ps, partsB, far_num h]
  | take l => have h : l ∈ ls := h; simp [Dd.ps, partsB, part_lock, h]
  | read l => have h : l ∈ ns := h; simp [Dd.ps, partsB, part_cell, h]
  | write l => have h : l ∈ ns := h; simp [Dd.ps, partsB, part_cell, h]
  | skip n m =>
    have h1 := far_num (ls := ls) (ns := ns) h.1
    have h2 : partB (.int m) "many" ls ns = true := by
      rw [part_many]
      show (decide (0 ≤ m) && decide (m ≤ 12)) = true
      rw [decide_eq_true h.2.1, decide_eq_true h.2.2]
      rfl
    simp [Dd.ps, partsB, h1, h2]
  | quit => simp [Dd.ps, partsB]
theorem enum_at {α : Type} {enc : α → D} {xs : List α} {i : Nat} {d : D} (e : (xs.zipIdx.map fun p => D.tup [.int (p.2 : Nat), enc p.1])[i]? = some d) : ∃ x, xs[i]? = some x ∧ d = .tup [.int (i : Nat), enc x] := by
  rw [List.getElem?_map, List.getElem?_zipIdx] at e
  cases h : xs[i]? with
  | none => rw [h] at e; exact nomatch e
  | some x =>
    rw [h] at e
    obtain rfl := Option.some.inj e
    exact ⟨x, rfl, by rw [Nat.zero_add]⟩
theorem new_nd {tk ls : List Str} {i : Nat} {z : Str} (nd : (tk ++ ls).Nodup) (h : ls[i]? = some z) : z ∉ tk ++ ls.take i := by
  intro m
  obtain ⟨n1, n2, n3⟩ := List.nodup_append.mp nd
  rcases List.mem_append.mp m with m | m
  · exact n3 z m z (List.mem_of_getElem? h) rfl
  · obtain ⟨j, hj, e⟩ := List.mem_iff_getElem.mp m
    rw [List.length_take] at hj
    rw [List.getElem_take] at e
    obtain ⟨hi, e2⟩ := List.getElem?_eq_some_iff.mp h
    have := (List.getElem_inj n2).mp (e.trans e2.symm)
    omega
theorem io_by {rs : List Rv} {j : Nat} (h : (rs.zipIdx.all fun p => p.2 == j || !isCell p.1) = true) : ∀ k r, rs[k]? = some r → k ≠ j → isCell r = false := by
  intro k r e n
  have := List.all_eq_true.mp h (r, k) (List.mem_zipIdx_iff_getElem?.mpr (by simpa using e))
  simpa [n] using this
theorem strs_snoc (tk : List Str) (z : Str) : strsD tk ++ [D.str z] = strsD (tk ++ [z]) := by
  show tk.map D.str ++ [z].map D.str = (tk ++ [z]).map D.str
  rw [List.map_append]
theorem w_ioOk {ρ : PSt} {i : Nat} {f : Bool} {Q : D → PSt → Prop} {d : D} {es : List D} (h : Q d (ρ.set i (.own f es))) : ioOk ρ i f Q (.val d) (some es) := h
/-- a cell -/
structure Cl where
  name : Str
  lock : Str
  val : Int
def clD (c : Cl) : D := .tup [.str c.name, .str c.lock, .int c.val]
abbrev Tk := Str × List Dd
def tkD (t : Tk) : D := .tup [.str t.1, .lst (t.2.map ddD)]
theorem skip_of {d : Dd} (h : d.w = "skip") : ∃ n m, d = .skip n m := by
  cases d with
  | skip n m => exact ⟨n, m, rfl⟩
  | set n => exact absurd h (by show ¬ (Str.ofString _ = _); decide +kernel)
  | add n => exact absurd h (by show ¬ (Str.ofString _ = _); decide +kernel)
  | take n => exact absurd h (by show ¬ (Str.ofString _ = _); decide +kernel)
  | read n => exact absurd h (by show ¬ (Str.ofString _ = _); decide +kernel)
  | write n => exact absurd h (by show ¬ (Str.ofString _ = _); decide +kernel)
  | quit => exact absurd h (by show ¬ (Str.ofString _ = _); decide +kernel)
/-- how far a deed leaps -/
def Dd.leap : Dd → Int
  | .skip _ m => m
  | _ => -1
structure BodyOk (ls ns : List Str) (b : List Dd) : Prop where
  len : b.length ≤ 12
  ok : ∀ d ∈ b, d.ok ls ns
  leap : ∀ (i : Nat) (d : Dd), b[i]? = some d → d.leap < (b.length : Int) - i
structure PlanL where
  locks : List Str
  cells : List Cl
  tasks : List Tk
def PlanL.cellNames (p : PlanL) : List Str := p.cells.map (·.name)
def PlanL.names (p : PlanL) : List Str := p.tasks.map (·.1)
def PlanL.taken (p : PlanL) : List Str := p.locks ++ p.cellNames ++ p.names
structure PlanOk (p : PlanL) : Prop where
  l1 : 1 ≤ p.locks.length
  l7 : p.locks.length ≤ 7
  c8 : p.cells.length ≤ 8
  t6 : p.tasks.length ≤ 6
  nd : p.taken.Nodup
  nm : ∀ z ∈ p.taken, Nm z
  cl : ∀ c ∈ p.cells, c.lock ∈ p.locks ∧ -far ≤ c.val ∧ c.val ≤ far
  bd : ∀ t ∈ p.tasks, BodyOk p.locks p.cellNames t.2
def planD (C : Addr) (p : PlanL) : D := .ins C ["own_locks", "own_cells", "own_tasks", "own_names"] [.lst (strsD p.locks), .lst (p.cells.map clD), .lst (p.tasks.map tkD), .lst (strsD p.taken)]
def pWantMany : PSp := fun ds Q => ∃ (xs : List D) (z : Str) (lo hi : Int), ds = [.lst xs, .str z, .int lo, .int hi] ∧ lo ≤ xs.length ∧ xs.length ≤ hi ∧ Q (.val .non) none
def pWantNew : PSp := fun ds Q => ∃ (z : Str) (n : Int) (tk : List Str), ds = [.str z, .int n, .lst (strsD tk)] ∧ Nm z ∧ z ∉ tk ∧ tk.length ≤ 40 ∧ Q (.val .non) (some (strsD (tk ++ [z])))
def pWantLocks : PSp := fun ds Q => ∃ (ls tk : List Str), ds = [.lst (strsD ls), .lst (strsD tk)] ∧ 1 ≤ ls.length ∧ ls.length ≤ 7 ∧ (∀ z ∈ ls, Nm z) ∧ (tk ++ ls).Nodup ∧ tk.length ≤ 20 ∧ Q (.val .non) (some (strsD (tk ++ ls)))
def pWantCells : PSp := fun ds Q => ∃ (cs : List Cl) (ls tk : List Str), ds = [.lst (cs.map clD), .lst (strsD ls), .lst (strsD tk)] ∧ cs.length ≤ 8 ∧ (∀ c ∈ cs, Nm c.name ∧ c.lock ∈ ls ∧ -far ≤ c.val ∧ c.val ≤ far) ∧ (tk ++ cs.map (·.name)).Nodup ∧ tk.length ≤ 20 ∧ Q (.val .non) (some (strsD (tk ++ cs.map (·.name))))
def pWantTasks : PSp := fun ds Q => ∃ (ts : List Tk) (tk : List Str), ds = [.lst (ts.map tkD), .lst (strsD tk)] ∧ ts.length ≤ 6 ∧ (∀ t ∈ ts, Nm t.1) ∧ (tk ++ ts.map (·.1)).Nodup ∧ tk.length ≤ 20 ∧ Q (.val .non) (some (strsD (tk ++ ts.map (·.1))))
def pIsBody : PSp := fun ds Q => ∃ (b : List Dd) (ls ns : List Str), ds = [.lst (b.map ddD), .lst (strsD ls), .lst (strsD ns)] ∧ BodyOk ls ns b ∧ Q (.val (.bl true)) none
end L3
namespace L3
open PySem PySem.Spec PyProof.Rows L2 TB LamX
def pAct : PSp := fun ds Q => ∃ (ls cl : List Str) (ss : List Cl) (b : Int), ds = [potD, .lst (strsD ls), .lst (ss.map clD), .lst (strsD cl), .int b] ∧ 1 ≤ ls.length ∧ ls.length ≤ 7 ∧ ss.length ≤ 8 ∧ (∀ z ∈ cl, Nm z) ∧ cl.length ≤ 20 ∧ (∀ z ∈ ls, Nm z) ∧ (∀ c ∈ ss, Nm c.lock) ∧ (∀ c ∈ ss, Nm c.name) ∧ 0 ≤ b ∧ b ≤ 12 ∧
  ∀ (d : Dd) (cl' : List Str), d.ok ls (ss.map (·.name)) → d.leap ≤ b → (∀ z ∈ cl', Nm z) → cl'.length ≤ cl.length + 1 → Q (.val (ddD d)) (some (strsD cl'))
def pActs : PSp := fun ds Q => ∃ (ls : List Str) (ss : List Cl) (h : Int), ds = [potD, .lst (strsD ls), .lst (ss.map clD), .int h] ∧ 1 ≤ ls.length ∧ ls.length ≤ 7 ∧ ss.length ≤ 8 ∧ (∀ z ∈ ls, Nm z) ∧ (∀ c ∈ ss, Nm c.lock) ∧ (∀ c ∈ ss, Nm c.name) ∧ 0 ≤ h ∧ h ≤ 12 ∧ ∀ b : List Dd, BodyOk ls (ss.map (·.name)) b → (b.length : Int) ≤ h → Q (.new (b.map ddD)) none
def drawnD (p : PlanL) : D := .tup [.lst (strsD p.locks), .lst (p.cells.map clD), .lst (p.tasks.map tkD)]
def pDrawn : PSp := fun ds Q => ∃ (f h : Int), ds = [potD, .int f, .int h] ∧ 0 ≤ f ∧ f ≤ 6 ∧ 0 ≤ h ∧ h ≤ 12 ∧ ∀ p : PlanL, PlanOk p → (p.tasks.length : Int) = f → (∀ t ∈ p.tasks, (t.2.length : Int) ≤ h) → Q (.val (drawnD p)) none
theorem nm_snoc {ws : List Str} {z : Str} (nm : ∀ x ∈ ws, Nm x) (h : Nm z) : ∀ x ∈ ws ++ [z], Nm x := fun x hx => by
  rcases List.mem_append.mp hx with m | m
  · exact nm x m
  · rw [List.mem_singleton.mp m]; exact h
end L3
namespace L3
open PySem PySem.Spec PyProof.Rows L2 TB LamX
mutual
/-- None, numbers, texts, lists and tuples of such -/
def cln : D → Bool
  | .non => true
  | .int _ => true
  | .str z => PyData.strOk z
  | .lst ds => clnL ds
  | .tup ds => clnL ds
  | _ => false
def clnL : List D → Bool
  | [] => true
  | d :: ds => cln d && clnL ds
end
mutual
def dpt : D → Nat
  | .lst ds => dptL ds + 1
  | .tup ds => dptL ds + 1
  | _ => 0
def dptL : List D → Nat
  | [] => 0
  | d :: ds => max (dpt d) (dptL ds)
end
mutual
theorem cln_pd : ∀ {d : D}, cln d = true → ∃ x, pd d = some x ∧ x.canLay0 = true ∧ x.depth = dpt d
  | .non, _ => ⟨_, rfl, by simp only [PyData.canLay0], by simp only [PyData.depth, dpt]⟩
  | .int i, _ => ⟨_, rfl, by simp only [PyData.canLay0], by simp only [PyData.depth, dpt]⟩
  | .str z, h => ⟨_, rfl, by simp only [PyData.canLay0]; exact h, by simp only [PyData.depth, dpt]⟩
  | .lst ds, h => by
    obtain ⟨xs, e, h1, h2⟩ := clnL_pd (ds := ds) h
    exact ⟨.list xs, by show (pdL ds).map _ = _; rw [e]; rfl, by simp only [PyData.canLay0]; exact h1, by simp only [PyData.depth, dpt]; rw [h2]⟩
  | .tup ds, h => by
    obtain ⟨xs, e, h1, h2⟩ := clnL_pd (ds := ds) h
    exact ⟨.tuple xs, by show (pdL ds).map _ = _; rw [e]; rfl, by simp only [PyData.canLay0]; exact h1, by simp only [PyData.depth, dpt]; rw [h2]⟩
theorem clnL_pd : ∀ {ds : List D}, clnL ds = true → ∃ xs, pdL ds = some xs ∧ PyData.canLayAll0 xs = true ∧ PyData.depthAll xs = dptL ds
  | [], _ => ⟨[], rfl, by simp only [PyData.canLayAll0], by simp only [PyData.depthAll, dptL]⟩
  | d :: ds, h => by
    obtain ⟨h1, h2⟩ := Bool.and_eq_true_iff.mp (show (cln d && clnL ds) = true from h)
    obtain ⟨x, e1, a1, a2⟩ := cln_pd (d := d) h1
    obtain ⟨xs, e2, b1, b2⟩ := clnL_pd (ds := ds) h2
    refine ⟨x :: xs, by show consO (pd d) (pdL ds) = _; rw [e1, e2]; rfl, ?_, ?_⟩
    · simp only [PyData.canLayAll0, a1, b1]; rfl
    · simp only [PyData.depthAll, dptL, a2, b2]
end
theorem cln_cases {e : D} (h : cln e = true) : e = .non ∨ (∃ i, e = .int i) ∨ (∃ z, e = .str z) ∨ (∃ ds, e = .lst ds ∧ clnL ds = true) ∨ ∃ ds, e = .tup ds ∧ clnL ds = true := by
  cases e with
  | non => exact Or.inl rfl
  | int i => exact Or.inr (Or.inl ⟨i, rfl⟩)
  | str z => exact Or.inr (Or.inr (Or.inl ⟨z, rfl⟩))
  | lst ds => exact Or.inr (Or.inr (Or.inr (Or.inl ⟨ds, rfl, h⟩)))
  | tup ds => exact Or.inr (Or.inr (Or.inr (Or.inr ⟨ds, rfl, h⟩)))
  | bl b => exact nomatch (show false = true from h)
  | ty b => exact nomatch (show false = true from h)
  | ins C ns ds => exact nomatch (show false = true from h)
  | dic C ns => exact nomatch (show false = true from h)
  | op b => exact nomatch (show false = true from h)
mutual
theorem eqv_cln : ∀ {d e : D} {x y : PyData}, cln d = true → cln e = true → pd d = some x → pd e = some y → (PyData.eqv x y = true ↔ d = e)
  | .non, e, x, y, c1, h, ex, ey => by
    obtain rfl := Option.some.inj ex
    rcases cln_cases h with rfl | ⟨j, rfl⟩ | ⟨j, rfl⟩ | ⟨es, rfl, h2⟩ | ⟨es, rfl, h2⟩
    · obtain rfl := Option.some.inj ey
      simp [PyData.eqv]
    · obtain rfl := Option.some.inj ey
      simp [PyData.eqv]
    · obtain rfl := Option.some.inj ey
      simp [PyData.eqv]
    · obtain ⟨ys, e2, rfl⟩ := Option.map_eq_some_iff.mp ey
      simp [PyData.eqv]
    · obtain ⟨ys, e2, rfl⟩ := Option.map_eq_some_iff.mp ey
      simp [PyData.eqv]
  | .int i, e, x, y, c1, h, ex, ey => by
    obtain rfl := Option.some.inj ex
    rcases cln_cases h with rfl | ⟨j, rfl⟩ | ⟨j, rfl⟩ | ⟨es, rfl, h2⟩ | ⟨es, rfl, h2⟩
    · obtain rfl := Option.some.inj ey
      simp [PyData.eqv]
    · obtain rfl := Option.some.inj ey
      simp [PyData.eqv]
    · obtain rfl := Option.some.inj ey
      simp [PyData.eqv]
    · obtain ⟨ys, e2, rfl⟩ := Option.map_eq_some_iff.mp ey
      simp [PyData.eqv]
    · obtain ⟨ys, e2, rfl⟩ := Option.map_eq_some_iff.mp ey
      simp [PyData.eqv]
  | .str i, e, x, y, c1, h, ex, ey => by
    obtain rfl := Option.some.inj ex
    rcases cln_cases h with rfl | ⟨j, rfl⟩ | ⟨j, rfl⟩ | ⟨es, rfl, h2⟩ | ⟨es, rfl, h2⟩
    · obtain rfl := Option.some.inj ey
      simp [PyData.eqv]
    · obtain rfl := Option.some.inj ey
      simp [PyData.eqv]
    · obtain rfl := Option.some.inj ey
      simp [PyData.eqv]
    · obtain ⟨ys, e2, rfl⟩ := Option.map_eq_some_iff.mp ey
      simp [PyData.eqv]
    · obtain ⟨ys, e2, rfl⟩ := Option.map_eq_some_iff.mp ey
      simp [PyData.eqv]
  | .lst ds, e, x, y, c1, h, ex, ey => by
    obtain ⟨xs, e1, rfl⟩ := Option.map_eq_some_iff.mp ex
    rcases cln_cases h with rfl | ⟨j, rfl⟩ | ⟨j, rfl⟩ | ⟨es, rfl, h2⟩ | ⟨es, rfl, h2⟩
    · obtain rfl := Option.some.inj ey
      simp [PyData.eqv]
    · obtain rfl := Option.some.inj ey
      simp [PyData.eqv]
    · obtain rfl := Option.some.inj ey
      simp [PyData.eqv]
    · obtain ⟨ys, e2, rfl⟩ := Option.map_eq_some_iff.mp ey
      simp only [PyData.eqv]
      exact (eqvL_cln (ds := ds) c1 h2 e1 e2).trans ⟨fun z => by rw [z], fun z => by injection z⟩
    · obtain ⟨ys, e2, rfl⟩ := Option.map_eq_some_iff.mp ey
      simp [PyData.eqv]
  | .tup ds, e, x, y, c1, h, ex, ey => by
    obtain ⟨xs, e1, rfl⟩ := Option.map_eq_some_iff.mp ex
    rcases cln_cases h with rfl | ⟨j, rfl⟩ | ⟨j, rfl⟩ | ⟨es, rfl, h2⟩ | ⟨es, rfl, h2⟩
    · obtain rfl := Option.some.inj ey
      simp [PyData.eqv]
    · obtain rfl := Option.some.inj ey
      simp [PyData.eqv]
    · obtain rfl := Option.some.inj ey
      simp [PyData.eqv]
    · obtain ⟨ys, e2, rfl⟩ := Option.map_eq_some_iff.mp ey
      simp [PyData.eqv]
    · obtain ⟨ys, e2, rfl⟩ := Option.map_eq_some_iff.mp ey
      simp only [PyData.eqv]
      exact (eqvL_cln (ds := ds) c1 h2 e1 e2).trans ⟨fun z => by rw [z], fun z => by injection z⟩
theorem eqvL_cln : ∀ {ds es : List D} {xs ys : List PyData}, clnL ds = true → clnL es = true → pdL ds = some xs → pdL es = some ys → (PyData.eqvAll xs ys = true ↔ ds = es)
  | [], [], xs, ys, _, _, ex, ey => by
    obtain rfl := Option.some.inj ex
    obtain rfl := Option.some.inj ey
    simp only [PyData.eqvAll]
  | [], e :: es, xs, ys, _, h2, ex, ey => by
    obtain rfl := Option.some.inj ex
    obtain ⟨zs, e2, _, _⟩ := clnL_pd (ds := e :: es) h2
    cases ys with
    | nil =>
      obtain ⟨h3, h4⟩ := Bool.and_eq_true_iff.mp (show (cln e && clnL es) = true from h2)
      obtain ⟨z, e3, _⟩ := cln_pd h3
      obtain ⟨zs, e4, _⟩ := clnL_pd h4
      have : consO (pd e) (pdL es) = some [] := ey
      rw [e3, e4] at this
      exact nomatch this
    | cons y ys => simp only [PyData.eqvAll]; simp
  | d :: ds, [], xs, ys, h1, _, ex, ey => by
    obtain rfl := Option.some.inj ey
    cases xs with
    | nil =>
      obtain ⟨h3, h4⟩ := Bool.and_eq_true_iff.mp (show (cln d && clnL ds) = true from h1)
      obtain ⟨z, e3, _⟩ := cln_pd h3
      obtain ⟨zs, e4, _⟩ := clnL_pd h4
      have : consO (pd d) (pdL ds) = some [] := ex
      rw [e3, e4] at this
      exact nomatch this
    | cons y ys => simp only [PyData.eqvAll]; simp
  | d :: ds, e :: es, xs, ys, h1, h2, ex, ey => by
    obtain ⟨a1, a2⟩ := Bool.and_eq_true_iff.mp (show (cln d && clnL ds) = true from h1)
    obtain ⟨b1, b2⟩ := Bool.and_eq_true_iff.mp (show (cln e && clnL es) = true from h2)
    obtain ⟨x, x1, _⟩ := cln_pd a1
    obtain ⟨xr, x2, _⟩ := clnL_pd a2
    obtain ⟨y, y1, _⟩ := cln_pd b1
    obtain ⟨yr, y2, _⟩ := clnL_pd b2
    have ex : consO (pd d) (pdL ds) = some xs := ex
    have ey : consO (pd e) (pdL es) = some ys := ey
    rw [x1, x2] at ex
    rw [y1, y2] at ey
    obtain rfl := Option.some.inj ex
    obtain rfl := Option.some.inj ey
    simp only [PyData.eqvAll, Bool.and_eq_true]
    rw [eqv_cln a1 b1 x1 y1, eqvL_cln a2 b2 x2 y2]
    exact ⟨fun ⟨h, k⟩ => by rw [h, k], fun h => by injection h with h k; exact ⟨h, k⟩⟩
end
theorem w_eqC {d e : D} {F : D → Prop} (cd : cln d = true) (ce : cln e = true) (h1 : dpt d ≤ 64) (h2 : dpt e ≤ 64) (h : ∀ b : Bool, (b = true ↔ d = e) → F (.bl b)) : oEqD false d e F := by
  obtain ⟨x, x1, x2, x3⟩ := cln_pd cd
  obtain ⟨y, y1, y2, y3⟩ := cln_pd ce
  exact ⟨x, y, x1, y1, sh_flat x2 (by omega), sh_flat y2 (by omega), h _ (eqv_cln cd ce x1 y1)⟩
theorem w_neC {d e : D} {F : D → Prop} (cd : cln d = true) (ce : cln e = true) (h1 : dpt d ≤ 64) (h2 : dpt e ≤ 64) (h : ∀ b : Bool, (b = true ↔ d = e) → F (.bl (!b))) : oEqD true d e F := by
  obtain ⟨x, x1, x2, x3⟩ := cln_pd cd
  obtain ⟨y, y1, y2, y3⟩ := cln_pd ce
  exact ⟨x, y, x1, y1, sh_flat x2 (by omega), sh_flat y2 (by omega), h _ (eqv_cln cd ce x1 y1)⟩
theorem clnL_iff {ds : List D} : clnL ds = true ↔ ∀ d ∈ ds, cln d = true := by
  induction ds with
  | nil => simp [clnL]
  | cons d r ih => simp [clnL, ih]
theorem dptL_le {n : Nat} {ds : List D} (h : ∀ d ∈ ds, dpt d ≤ n) : dptL ds ≤ n := by
  induction ds with
  | nil => exact Nat.zero_le _
  | cons d r ih =>
    have h1 := h d List.mem_cons_self
    have h2 := ih fun e he => h e (List.mem_cons_of_mem _ he)
    show max _ _ ≤ n
    omega
/-- it can be shown: n deep, B signs at the most -/
def Shw (n B : Nat) (d : D) : Prop := ∃ x, pdX d = some x ∧ x.showable = true ∧ x.depth ≤ n ∧ x.shown.length ≤ B
theorem Shw.mono {n m B C : Nat} {d : D} (h : Shw n B d) (h1 : n ≤ m) (h2 : B ≤ C) : Shw m C d := by
  obtain ⟨x, e, a, b, c⟩ := h
  exact ⟨x, e, a, by omega, by omega⟩
theorem Shw.non : Shw 0 4 .non := ⟨_, rfl, by simp only [PyData.showable], by simp [PyData.depth], by decide +kernel⟩
theorem Shw.bl {b : Bool} : Shw 0 5 (.bl b) := ⟨_, rfl, by simp only [PyData.showable], by simp [PyData.depth], by cases b <;> decide +kernel⟩
theorem Shw.str {z : Str} (h : ∀ c ∈ z.cps.toList, c < 1114112) {n : Nat} (hn : z.length ≤ n) : Shw 0 (10 * n + 2) (.str z) := by
  refine ⟨_, rfl, by simp only [PyData.showable], by simp [PyData.depth], ?_⟩
  simp only [PyData.shown]
  have e := StrLaws.reprText_len z fun c hc => Nat.lt_of_lt_of_le (h c hc) (by decide)
  omega
theorem Shw.nm {z : Str} (h : Nm z) : Shw 0 82 (.str z) := by
  have lt : (tl z).length = z.length := by rw [show tl z = z.cps.toList from rfl, Array.length_toList]; rfl
  exact (Shw.str (n := 8) (fun c hc => by have := (h.2.2 c hc).2; omega) (by have := h.2.1; omega))
theorem Shw.int {i : Int} {k : Nat} (hk : 1 ≤ k) (k5 : k ≤ 500) (h : i.natAbs < 10 ^ k) : Shw 0 (k + 1) (.int i) := by
  refine ⟨_, rfl, ?_, by simp [PyData.depth], ?_⟩
  · simp only [PyData.showable, decide_eq_true_eq]
    have h2 : i.natAbs < 2 ^ 1920 := Nat.lt_of_lt_of_le h (Nat.le_trans (Nat.pow_le_pow_right (by decide) k5) (by decide +kernel))
    by_cases z : i.natAbs = 0
    · rw [z]; decide
    · exact (Nat.log2_lt z).mpr h2
  · have e := PySem.int_text_length_le10 (k := k) hk h
    show (Str.ofString (toString i)).length ≤ k + 1
    rw [PySem.ofString_length]; exact e
theorem shw_all {n B : Nat} : ∀ {ds : List D}, (∀ d ∈ ds, Shw n B d) → ∃ xs, pdXL ds = some xs ∧ xs.length = ds.length ∧ ∀ x ∈ xs, x.showable = true ∧ x.depth ≤ n ∧ x.shown.length ≤ B
  | [], _ => ⟨[], rfl, rfl, fun _ z => nomatch z⟩
  | d :: ds, h => by
    obtain ⟨x, e, a, b, c⟩ := h d List.mem_cons_self
    obtain ⟨xs, e2, l, k⟩ := shw_all fun e he => h e (List.mem_cons_of_mem _ he)
    refine ⟨x :: xs, by show consO (pdX d) (pdXL ds) = _; rw [e, e2]; rfl, by rw [List.length_cons, List.length_cons, l], fun y hy => ?_⟩
    rcases List.mem_cons.mp hy with rfl | hy
    · exact ⟨a, b, c⟩
    · exact k y hy
theorem depthAll_le {n : Nat} : ∀ {xs : List PyData}, (∀ x ∈ xs, x.depth ≤ n) → PyData.depthAll xs ≤ n
  | [], _ => by simp only [PyData.depthAll]; exact Nat.zero_le _
  | x :: xs, h => by
    simp only [PyData.depthAll]
    have h1 := h x List.mem_cons_self
    have h2 := depthAll_le fun y hy => h y (List.mem_cons_of_mem x hy)
    omega
theorem Shw.lst {n B m : Nat} {ds : List D} (hm : ds.length ≤ m) (h : ∀ d ∈ ds, Shw n B d) : Shw (n + 1) (m * B + 2 * m + 3) (.lst ds) := by
  obtain ⟨xs, e, l, k⟩ := shw_all h
  refine ⟨.list xs, by show (pdXL ds).map _ = _; rw [e]; rfl, ?_, ?_, ?_⟩
  · simp only [PyData.showable]
    exact showAll_of fun x hx => (k x hx).1
  · simp only [PyData.depth]
    have h3 : PyData.depthAll xs ≤ n := depthAll_le fun x hx => (k x hx).2.1
    omega
  · have h4 := shown_listG_le (B := B) (ds := xs) fun x hx => (k x hx).2.2
    have h5 : xs.length * B ≤ m * B := Nat.mul_le_mul_right _ (by omega)
    omega
theorem Shw.tup {n B m : Nat} {ds : List D} (hm : ds.length ≤ m) (h : ∀ d ∈ ds, Shw n B d) : Shw (n + 1) (m * B + 2 * m + 3) (.tup ds) := by
  obtain ⟨xs, e, l, k⟩ := shw_all h
  refine ⟨.tuple xs, by show (pdXL ds).map _ = _; rw [e]; rfl, ?_, ?_, ?_⟩
  · simp only [PyData.showable]
    exact showAll_of fun x hx => (k x hx).1
  · simp only [PyData.depth]
    have h3 : PyData.depthAll xs ≤ n := depthAll_le fun x hx => (k x hx).2.1
    omega
  · have h4 := shown_tupG_le (B := B) (ds := xs) fun x hx => (k x hx).2.2
    have h5 : xs.length * B ≤ m * B := Nat.mul_le_mul_right _ (by omega)
    omega
theorem Shw.lstMap {α : Type} {enc : α → D} {n B m : Nat} {xs : List α} (hm : xs.length ≤ m) (h : ∀ x ∈ xs, Shw n B (enc x)) : Shw (n + 1) (m * B + 2 * m + 3) (.lst (xs.map enc)) :=
  Shw.lst (by rw [List.length_map]; exact hm) fun d hd => by
    obtain ⟨x, hx, rfl⟩ := List.mem_map.mp hd
    exact h x hx
theorem Shw.tupMap {α : Type} {enc : α → D} {n B m : Nat} {xs : List α} (hm : xs.length ≤ m) (h : ∀ x ∈ xs, Shw n B (enc x)) : Shw (n + 1) (m * B + 2 * m + 3) (.tup (xs.map enc)) :=
  Shw.tup (by rw [List.length_map]; exact hm) fun d hd => by
    obtain ⟨x, hx, rfl⟩ := List.mem_map.mp hd
    exact h x hx
/-- the text that it is shown by -/
def shoD (d : D) : Str := match pdX d with
  | some x => x.shown
  | none => Str.empty
theorem w_reprS {n B : Nat} {d : D} {F : D → Prop} (s : Shw n B d) (hn : n ≤ 50) (hB : B ≤ 16000000) (h : F (.str (shoD d))) : oReprX [d] F := by
  obtain ⟨x, e, a, b, c⟩ := s
  have e2 : shoD d = x.shown := by unfold shoD; rw [e]
  rw [e2] at h
  exact w_reprX e a (by omega) (by rw [sizeLine_eq]; omega) h
end L3
namespace L3
open PySem PySem.Spec PyProof.Rows L2 TB LamX
theorem at_map {α : Type} (enc : α → D) {xs : List α} {k : Int} (h0 : 0 ≤ k) (h1 : k < (xs.length : Int)) : ∃ (j : Nat) (hj : j < xs.length), k = (j : Int) ∧ atI (xs.map enc) k = some (enc xs[j]) := by
  obtain ⟨j, hj, rfl, _⟩ := at_some' (xs := xs) h0 h1
  exact ⟨j, hj, rfl, atI_nat (by rw [List.getElem?_map, List.getElem?_eq_getElem hj]; rfl)⟩
theorem strOk_nm {z : Str} (h : Nm z) : PyData.strOk z = true := (Nm.sg h).ok
theorem cln_cl {c : Cl} (h1 : Nm c.name) (h2 : Nm c.lock) : cln (clD c) = true := by
  simp [clD, cln, clnL, strOk_nm h1, strOk_nm h2]
theorem dpt_cl (c : Cl) : dpt (clD c) = 1 := by simp [clD, dpt, dptL]
theorem cln_map {α : Type} {enc : α → D} {xs : List α} (h : ∀ x ∈ xs, cln (enc x) = true) : cln (.lst (xs.map enc)) = true := clnL_iff.mpr fun d hd => by
  obtain ⟨x, hx, rfl⟩ := List.mem_map.mp hd
  exact h x hx
theorem dpt_map {α : Type} {enc : α → D} {n : Nat} {xs : List α} (h : ∀ x ∈ xs, dpt (enc x) ≤ n) : dpt (.lst (xs.map enc)) ≤ n + 1 := by
  have := dptL_le (n := n) (ds := xs.map enc) fun d hd => by
    obtain ⟨x, hx, rfl⟩ := List.mem_map.mp hd
    exact h x hx
  show dptL _ + 1 ≤ n + 1
  omega
/-- xs != [] -/
theorem w_neNilG {α : Type} {enc : α → D} {xs : List α} {n : Nat} {F : D → Prop} (c : ∀ x ∈ xs, cln (enc x) = true) (hd : ∀ x ∈ xs, dpt (enc x) ≤ n) (hn : n ≤ 60) (h : F (.bl (!decide (xs.length = 0)))) : oEqD true (.lst (xs.map enc)) (.lst []) F := by
  refine w_neC (cln_map c) rfl (Nat.le_trans (dpt_map hd) (by omega)) (by decide) fun b hb => ?_
  have e : b = decide (xs.length = 0) := by
    cases b with
    | true =>
      have : xs.map enc = [] := by have := hb.mp rfl; injection this
      rw [List.map_eq_nil_iff] at this
      subst this
      rfl
    | false =>
      refine (decide_eq_false fun z => ?_).symm
      rw [List.length_eq_zero_iff] at z
      subst z
      exact nomatch hb.mpr rfl
  rw [e]
  exact h
end L3
namespace L4
open PySem PySem.Spec PyProof.Rows L2 TB LamX L3
/-- frozen data, a mutable object, a tuple that has such -/
inductive Vl where
  | d (d : D) | loc (a : Addr) | tup (vs : List Vl)
inductive MO where
  | lst (vs : List Vl) | dic (kvs : List (Key × Vl)) | dicT (kvs : List (List Key × Vl)) | ins (C dx : Addr) (fs : List (Str × Vl))
abbrev Mu := Addr → Option MO
def updM (μ : Mu) (a : Addr) (m : MO) : Mu := fun b => if b = a then some m else μ b
def delM (μ : Mu) (a : Addr) : Mu := fun b => if b = a then none else μ b
theorem updM_same {μ : Mu} {a : Addr} {m : MO} : updM μ a m a = some m := by unfold updM; rw [if_pos rfl]
theorem updM_ne {μ : Mu} {a b : Addr} {m : MO} (h : b ≠ a) : updM μ a m b = μ b := by unfold updM; rw [if_neg h]
theorem updM_upd {μ : Mu} {a : Addr} {m n : MO} : updM (updM μ a m) a n = updM μ a n := by
  funext b; unfold updM; split <;> rfl
theorem delM_same {μ : Mu} {a : Addr} : delM μ a a = none := by unfold delM; rw [if_pos rfl]
theorem delM_ne {μ : Mu} {a b : Addr} (h : b ≠ a) : delM μ a b = μ b := by unfold delM; rw [if_neg h]
section
variable (K : PySem.W.Frag) (F : Hp)
mutual
def RV : Vl → V → Prop
  | .d d, v => Rp K F d v
  | .loc a, v => v = .ref a
  | .tup xs, v => ∃ a vs, v = .ref a ∧ SqT K F a vs ∧ RVs xs vs
def RVs : List Vl → List V → Prop
  | [], vs => vs = []
  | x :: xs, vs => ∃ v r, vs = v :: r ∧ RV x v ∧ RVs xs r
end
def RK {κ : Type} : List (κ × Vl) → List (κ × V) → Prop
  | [], vs => vs = []
  | x :: xs, vs => ∃ v r, vs = (x.1, v) :: r ∧ RV K F x.2 v ∧ RK xs r
end
def MOk (K : PySem.W.Frag) (F H : Hp) (a : Addr) : MO → Prop
  | .lst vs => ∃ ws, H a = some (.lst ws) ∧ RVs K F vs ws
  | .dic kvs => ∃ ws, H a = some (.dK ws) ∧ RK K F kvs ws
  | .dicT kvs => ∃ ws, H a = some (.dT ws) ∧ RK K F kvs ws
  | .ins C dx fs => ∃ gs, H a = some (.ins C dx gs) ∧ H dx = some (.own a) ∧ RK K F fs gs
section
variable {K : PySem.W.Frag} {F F' H H' : Hp}
mutual
theorem RV.mono (s : Same F F') : ∀ {x : Vl} {v : V}, RV K F x v → RV K F' x v
  | .d _, _, h => Rp.mono s h
  | .loc _, _, h => h
  | .tup xs, _, h => by
    obtain ⟨a, vs, e, q, r⟩ := h
    exact ⟨a, vs, e, sqT_mono s q, RVs.mono s r⟩
theorem RVs.mono (s : Same F F') : ∀ {xs : List Vl} {vs : List V}, RVs K F xs vs → RVs K F' xs vs
  | [], _, h => h
  | x :: xs, _, h => by
    obtain ⟨v, r, e, q, t⟩ := h
    exact ⟨v, r, e, RV.mono s q, RVs.mono s t⟩
end
theorem RK.mono {κ : Type} (s : Same F F') : ∀ {xs : List (κ × Vl)} {vs : List (κ × V)}, RK K F xs vs → RK K F' xs vs
  | [], _, h => h
  | x :: xs, _, h => by
    obtain ⟨v, r, e, q, t⟩ := h
    exact ⟨v, r, e, q.mono s, RK.mono s t⟩
theorem RVs.len : ∀ {xs : List Vl} {vs : List V}, RVs K F xs vs → vs.length = xs.length
  | [], vs, h => by rw [show vs = [] from h]; rfl
  | x :: xs, vs, h => by
    obtain ⟨v, r, rfl, q, t⟩ := h
    rw [List.length_cons, List.length_cons, RVs.len t]
theorem RVs.app : ∀ {xs ys : List Vl} {vs ws : List V}, RVs K F xs vs → RVs K F ys ws → RVs K F (xs ++ ys) (vs ++ ws)
  | [], ys, vs, ws, h, k => by rw [show vs = [] from h]; exact k
  | x :: xs, ys, vs, ws, h, k => by
    obtain ⟨v, r, rfl, q, t⟩ := h
    exact ⟨v, r ++ ws, rfl, q, RVs.app t k⟩
theorem RVs.one {x : Vl} {v : V} (h : RV K F x v) : RVs K F [x] [v] := ⟨v, [], rfl, h, rfl⟩
theorem RVs.get' : ∀ {xs : List Vl} {vs : List V} {i : Nat} {x : Vl}, RVs K F xs vs → xs[i]? = some x → ∃ v, vs[i]? = some v ∧ RV K F x v
  | [], vs, i, x, h, e => by simp at e
  | y :: xs, vs, 0, x, h, e => by
    obtain ⟨v, r, rfl, q, t⟩ := h
    obtain rfl : y = x := by simpa using e
    exact ⟨v, rfl, q⟩
  | y :: xs, vs, i + 1, x, h, e => by
    obtain ⟨v, r, rfl, q, t⟩ := h
    exact RVs.get' (i := i) t (by simpa using e)
theorem RVs.set : ∀ {xs : List Vl} {vs : List V} {x : Vl} {v : V} (n : Nat), RVs K F xs vs → RV K F x v → RVs K F (xs.set n x) (vs.set n v)
  | [], vs, x, v, n, h, k => by rw [show vs = [] from h]; rfl
  | y :: xs, vs, x, v, 0, h, k => by
    obtain ⟨w, r, rfl, q, t⟩ := h
    exact ⟨v, r, rfl, k, t⟩
  | y :: xs, vs, x, v, n + 1, h, k => by
    obtain ⟨w, r, rfl, q, t⟩ := h
    exact ⟨w, r.set n v, rfl, q, RVs.set n t k⟩
theorem RVs.erase : ∀ {xs : List Vl} {vs : List V} (n : Nat), RVs K F xs vs → RVs K F (xs.eraseIdx n) (vs.eraseIdx n)
  | [], vs, n, h => by rw [show vs = [] from h]; rfl
  | y :: xs, vs, 0, h => by
    obtain ⟨w, r, rfl, q, t⟩ := h
    exact t
  | y :: xs, vs, n + 1, h => by
    obtain ⟨w, r, rfl, q, t⟩ := h
    exact ⟨w, r.eraseIdx n, rfl, q, RVs.erase n t⟩
theorem RVs.take : ∀ {xs : List Vl} {vs : List V} (n : Nat), RVs K F xs vs → RVs K F (xs.take n) (vs.take n)
  | _, _, 0, _ => rfl
  | [], vs, n + 1, h => by rw [show vs = [] from h]; rfl
  | y :: xs, vs, n + 1, h => by
    obtain ⟨w, r, rfl, q, t⟩ := h
    exact ⟨w, r.take n, rfl, q, RVs.take n t⟩
theorem RVs.drop : ∀ {xs : List Vl} {vs : List V} (n : Nat), RVs K F xs vs → RVs K F (xs.drop n) (vs.drop n)
  | _, _, 0, h => h
  | [], vs, n + 1, h => by rw [show vs = [] from h]; rfl
  | y :: xs, vs, n + 1, h => by
    obtain ⟨w, r, rfl, q, t⟩ := h
    exact RVs.drop n t
theorem RVs.data : ∀ {ds : List D} {vs : List V}, RVs K F (ds.map Vl.d) vs → RpL K F ds vs
  | [], vs, h => h
  | d :: ds, vs, h => by
    obtain ⟨v, r, e, q, t⟩ := h
    exact ⟨v, r, e, q, RVs.data t⟩
theorem RVs.ofData : ∀ {ds : List D} {vs : List V}, RpL K F ds vs → RVs K F (ds.map Vl.d) vs
  | [], vs, h => h
  | d :: ds, vs, h => by
    obtain ⟨v, r, e, q, t⟩ := h
    exact ⟨v, r, e, q, RVs.ofData t⟩
/-- what stands at a: a list, a dict, an instance -/
def MutO : HO → Prop
  | .lst _ => True
  | .dK _ => True
  | .dT _ => True
  | .ins _ _ _ => True
  | _ => False
theorem MOk.at {a : Addr} {m : MO} (h : MOk K F H a m) : ∃ o, H a = some o ∧ MutO o := by
  cases m with
  | lst vs => obtain ⟨ws, e, _⟩ := h; exact ⟨_, e, trivial⟩
  | dic vs => obtain ⟨ws, e, _⟩ := h; exact ⟨_, e, trivial⟩
  | dicT vs => obtain ⟨ws, e, _⟩ := h; exact ⟨_, e, trivial⟩
  | ins C dx fs => obtain ⟨ws, e, _⟩ := h; exact ⟨_, e, trivial⟩
/-- what is kept of the heap -/
theorem MOk.keep {a : Addr} {m : MO} (h : MOk K F H a m) (s : Same F F') (k : ∀ b o, H b = some o → (b = a ∨ o = .own a) → H' b = some o) : MOk K F' H' a m := by
  cases m with
  | lst vs => obtain ⟨ws, e, r⟩ := h; exact ⟨ws, k _ _ e (Or.inl rfl), RVs.mono s r⟩
  | dic vs => obtain ⟨ws, e, r⟩ := h; exact ⟨ws, k _ _ e (Or.inl rfl), RK.mono s r⟩
  | dicT vs => obtain ⟨ws, e, r⟩ := h; exact ⟨ws, k _ _ e (Or.inl rfl), RK.mono s r⟩
  | ins C dx fs => obtain ⟨ws, e, e2, r⟩ := h; exact ⟨ws, k _ _ e (Or.inl rfl), k _ _ e2 (Or.inr rfl), RK.mono s r⟩
end
abbrev PS := List (Option Vl)
structure C4 where
  X : Sx
  F0 : Hp
  H0 : Hp
  M0 : Mu
abbrev C4.K (c : C4) : PySem.W.Frag := c.X.K
def NoTb4 (X : Sx) (b : Addr) : Prop := ∀ x ∈ X.tb, b ≠ x.1
structure R4 (c : C4) (F H : Hp) (μ : Mu) (σ : L2.St) (ρ : PS) : Prop where
  len : σ.length = ρ.length
  sub : Same F H
  slot : ∀ (i : Nat) (x : Vl), ρ[i]? = some (some x) → ∃ v, σ[i]? = some (some v) ∧ RV c.K F x v
  mu : ∀ a m, μ a = some m → F a = none ∧ MOk c.K F H a m
  mf : ∀ a m, μ a = some m → c.M0 a ≠ none ∨ c.H0 a = none
  nt : NoT H
  tab : ∀ x ∈ c.X.tb, TabS H x.1 x.2
  tabF : ∀ x ∈ c.X.tb, F x.1 = none
  fr : Same c.F0 F
  kp : ∀ b o, c.H0 b = some o → c.M0 b = none → NoTb4 c.X b → H b = some o
  dom : ∀ b, H b = none → c.H0 b = none
  nw : ∀ b o, F b = some o → c.F0 b = some o ∨ c.H0 b = none ∨ c.M0 b ≠ none ∨ Imm o
section
variable {c : C4} {F H F' H' : Hp} {μ μ' : Mu} {σ : L2.St} {ρ : PS}
theorem R4.fnone (R : R4 c F H μ σ ρ) {p : Addr} (h : H p = none) : F p = none := by
  cases e : F p with
  | none => rfl
  | some o => rw [R.sub _ _ e] at h; exact nomatch h
theorem R4.mnone (R : R4 c F H μ σ ρ) {p : Addr} (h : H p = none) : μ p = none := by
  cases e : μ p with
  | none => rfl
  | some m =>
    obtain ⟨o, e2, _⟩ := (R.mu p m e).2.at
    rw [h] at e2
    exact nomatch e2
theorem R4.notab (R : R4 c F H μ σ ρ) {p : Addr} {o : HO} (h : H p = some o) (n : ∀ ps, o ≠ .tbl ps) : NoTb4 c.X p := by
  intro x hx e
  obtain ⟨tb, e2, _⟩ := R.tab x hx
  rw [← e, h] at e2
  exact n _ (Option.some.inj e2)
theorem R4.mtab (R : R4 c F H μ σ ρ) {p : Addr} {m : MO} (h : μ p = some m) : NoTb4 c.X p := by
  obtain ⟨o, e, mo⟩ := (R.mu p m h).2.at
  exact R.notab e (fun ps z => by rw [z] at mo; exact mo)
/-- told from this moment on -/
def C4.at (c : C4) (F H : Hp) (μ : Mu) : C4 := ⟨c.X, F, H, μ⟩
theorem R4.here (R : R4 c F H μ σ ρ) : R4 (c.at F H μ) F H μ σ ρ :=
  ⟨R.len, R.sub, R.slot, R.mu, fun a m e => Or.inl (by rw [show (c.at F H μ).M0 = μ from rfl, e]; exact (fun z => nomatch z)), R.nt, R.tab, R.tabF, L3.Same.refl F, fun b o e _ _ => e, fun b e => e, fun b o e => Or.inl e⟩
theorem R4.trans {σ' : L2.St} {ρ' : PS} (R : R4 c F H μ σ ρ) (R' : R4 (c.at F H μ) F' H' μ' σ' ρ') : R4 c F' H' μ' σ' ρ' := by
  refine ⟨R'.len, R'.sub, R'.slot, R'.mu, fun a m e => ?_, R'.nt, R'.tab, R'.tabF, tr R.fr R'.fr, fun b o e n t => ?_, fun b e => R.dom b (R'.dom b e), fun b o e => ?_⟩
  · rcases R'.mf a m e with z | z
    · cases q : μ a with
      | none => exact absurd q z
      | some m2 => exact R.mf a m2 q
    · exact Or.inr (R.dom a z)
  · refine R'.kp b o (R.kp b o e n t) ?_ t
    cases q : μ b with
    | none => exact q
    | some m2 =>
      rcases R.mf b m2 q with z | z
      · exact absurd n z
      · rw [z] at e; exact nomatch e
  · rcases R'.nw b o e with z | z | z | z
    · exact R.nw b o z
    · exact Or.inr (Or.inl (R.dom b z))
    · cases q : μ b with
      | none => exact absurd q z
      | some m2 =>
        rcases R.mf b m2 q with y | y
        · exact Or.inr (Or.inr (Or.inl y))
        · exact Or.inr (Or.inl y)
    · exact Or.inr (Or.inr (Or.inr z))
/-- slots as they were -/
theorem R4.slots (R : R4 c F H μ σ ρ) {σ2 : L2.St} {ρ2 : PS} (R' : R4 (c.at F H μ) F' H' μ' σ2 ρ2) : R4 c F' H' μ' σ ρ := by
  have R2 := R.trans R'
  exact ⟨R.len, R2.sub, fun i x e => by
    obtain ⟨v, e1, r⟩ := R.slot i x e
    exact ⟨v, e1, r.mono R'.fr⟩, R2.mu, R2.mf, R2.nt, R2.tab, R2.tabF, R2.fr, R2.kp, R2.dom, R2.nw⟩
/-- a new thing that stays -/
theorem R4.alloc (R : R4 c F H μ σ ρ) {p : Addr} {o : HO} (np : H p = none) (no : noT o) : R4 c (upd F p o) (upd H p o) μ σ ρ := by
  have nF := R.fnone np
  have nM := R.mnone np
  have sF : Same F (upd F p o) := fun _ _ e => old_upd nF e
  have sH : Same H (upd H p o) := fun _ _ e => old_upd np e
  refine ⟨R.len, fun b u e => ?_, fun i x e => ?_, fun a m e => ?_, R.mf, R.nt.upd no, fun x hx => (R.tab x hx).ext sH, fun x hx => ?_, tr R.fr sF, fun b u e n m => sH _ _ (R.kp b u e n m), fun b e => R.dom b (nil_upd e).2, fun b u e => ?_⟩
  · by_cases q : b = p
    · subst q
      rw [upd_same] at e ⊢
      exact e
    · rw [upd_ne q] at e ⊢
      exact R.sub _ _ e
  · obtain ⟨v, e1, r⟩ := R.slot i x e
    exact ⟨v, e1, r.mono sF⟩
  · obtain ⟨f, mo⟩ := R.mu a m e
    have ne : a ≠ p := fun z => by rw [z, nM] at e; exact nomatch e
    exact ⟨by rw [upd_ne ne]; exact f, mo.keep sF fun b o e _ => sH _ _ e⟩
  · obtain ⟨tb, e2, _⟩ := R.tab x hx
    rw [upd_ne (ne_of_none e2 np)]
    exact R.tabF x hx
  · by_cases q : b = p
    · subst q
      exact Or.inr (Or.inl (R.dom _ np))
    · rw [upd_ne q] at e
      exact R.nw b u e
/-- a new thing of which nothing is told -/
theorem R4.allocH (R : R4 c F H μ σ ρ) {p : Addr} {o : HO} (np : H p = none) (no : noT o) : R4 c F (upd H p o) μ σ ρ := by
  have sH : Same H (upd H p o) := fun _ _ e => old_upd np e
  exact ⟨R.len, fun b u e => sH _ _ (R.sub _ _ e), R.slot, fun a m e => ⟨(R.mu a m e).1, (R.mu a m e).2.keep (L3.Same.refl F) fun b o e _ => sH _ _ e⟩, R.mf, R.nt.upd no, fun x hx => (R.tab x hx).ext sH, R.tabF, R.fr, fun b u e n m => sH _ _ (R.kp b u e n m), fun b e => R.dom b (nil_upd e).2, R.nw⟩
/-- what is new may be changed -/
theorem R4.own (R : R4 c F H μ σ ρ) {p : Addr} {m : MO} (hF : F p = none) (hm : MOk c.K F H p m) (hb : c.M0 p ≠ none ∨ c.H0 p = none) : R4 c F H (updM μ p m) σ ρ := by
  refine ⟨R.len, R.sub, R.slot, fun a m2 e => ?_, fun a m2 e => ?_, R.nt, R.tab, R.tabF, R.fr, R.kp, R.dom, R.nw⟩
  · by_cases q : a = p
    · subst q
      rw [updM_same] at e
      obtain rfl := Option.some.inj e
      exact ⟨hF, hm⟩
    · rw [updM_ne q] at e
      exact R.mu a m2 e
  · by_cases q : a = p
    · rw [q]; exact hb
    · rw [updM_ne q] at e
      exact R.mf a m2 e
/-- a mutable thing is changed -/
theorem R4.mut (R : R4 c F H μ σ ρ) {p : Addr} {m m' : MO} {o' : HO} (h : μ p = some m) (no : noT o') (hm : MOk c.K F (upd H p o') p m') : R4 c F (upd H p o') (updM μ p m') σ ρ := by
  obtain ⟨hF, mo⟩ := R.mu p m h
  obtain ⟨o, eo, mto⟩ := mo.at
  have nF : ∀ b u, F b = some u → b ≠ p := fun b u e z => by rw [z, hF] at e; exact nomatch e
  have ntb : NoTb4 c.X p := R.mtab h
  have k : ∀ b u, H b = some u → b ≠ p → upd H p o' b = some u := fun b u e n => oth_upd n e
  refine ⟨R.len, fun b u e => k b u (R.sub _ _ e) (nF b u e), R.slot, fun a m2 e => ?_, fun a m2 e => ?_, R.nt.upd no, fun x hx => ?_, R.tabF, R.fr, fun b u e n t => ?_, fun b e => R.dom b (nil_upd e).2, R.nw⟩
  · by_cases q : a = p
    · subst q
      rw [updM_same] at e
      obtain rfl := Option.some.inj e
      exact ⟨hF, hm⟩
    · rw [updM_ne q] at e
      obtain ⟨f, mo2⟩ := R.mu a m2 e
      refine ⟨f, mo2.keep (L3.Same.refl F) fun b u e2 hb => k b u e2 fun z => ?_⟩
      rcases hb with hb | hb
      · exact q (hb.symm.trans z)
      · rw [z, eo] at e2
        obtain rfl := Option.some.inj e2
        rw [hb] at mto
        exact mto
  · by_cases q : a = p
    · rw [q]; exact R.mf p m h
    · rw [updM_ne q] at e
      exact R.mf a m2 e
  · obtain ⟨tb, e2, r⟩ := R.tab x hx
    refine ⟨tb, oth_upd (fun z => ntb x hx z.symm) e2, r.1, fun pos cv hc => ?_⟩
    obtain ⟨q, e3, e4⟩ := r.2 pos cv hc
    refine ⟨q, e3, oth_upd (fun z => ?_) e4⟩
    rw [z, eo] at e4
    rw [Option.some.inj e4] at mto
    exact mto
  · refine k b u (R.kp b u e n t) fun z => ?_
    rw [z] at e n
    rcases R.mf p m h with y | y
    · exact y n
    · rw [y] at e; exact nomatch e
/-- a mutable list of data stays as it is from now on -/
theorem R4.freezeL (R : R4 c F H μ σ ρ) {p : Addr} {ds : List D} (h : μ p = some (.lst (ds.map Vl.d))) : ∃ ws, R4 c (upd F p (.lst ws)) H (delM μ p) σ ρ ∧ Same F (upd F p (.lst ws)) ∧ Rp c.K (upd F p (.lst ws)) (.lst ds) (.ref p) := by
  obtain ⟨hF, ws, e, r⟩ := R.mu p _ h
  have sF : Same F (upd F p (.lst ws)) := fun _ _ e => old_upd hF e
  refine ⟨ws, ⟨R.len, fun b u e2 => ?_, fun i x e2 => ?_, fun a m e2 => ?_, fun a m e2 => ?_, R.nt, R.tab, fun x hx => ?_, tr R.fr sF, R.kp, R.dom, fun b u e2 => ?_⟩, sF, p, ws, rfl, upd_same, (RVs.data r).mono sF⟩
  · by_cases q : b = p
    · subst q
      rw [upd_same] at e2
      rw [e]; exact e2
    · rw [upd_ne q] at e2
      exact R.sub _ _ e2
  · obtain ⟨v, e1, r⟩ := R.slot i x e2
    exact ⟨v, e1, r.mono sF⟩
  · by_cases q : a = p
    · rw [q, delM_same] at e2; exact nomatch e2
    · rw [delM_ne q] at e2
      obtain ⟨f, mo⟩ := R.mu a m e2
      exact ⟨by rw [upd_ne q]; exact f, mo.keep sF fun _ _ z _ => z⟩
  · by_cases q : a = p
    · rw [q, delM_same] at e2; exact nomatch e2
    · rw [delM_ne q] at e2
      exact R.mf a m e2
  · rw [upd_ne (fun z => R.mtab h x hx z.symm)]
    exact R.tabF x hx
  · by_cases q : b = p
    · subst q
      rcases R.mf b _ h with y | y
      · exact Or.inr (Or.inr (Or.inl y))
      · exact Or.inr (Or.inl y)
    · rw [upd_ne q] at e2
      exact R.nw b u e2
theorem R4.setV (R : R4 c F H μ σ ρ) {i : Nat} {x : Vl} {v : V} (h : RV c.K F x v) : R4 c F H μ (σ.set i (some v)) (ρ.set i (some x)) := by
  refine ⟨by rw [List.length_set, List.length_set]; exact R.len, R.sub, fun j y hj => ?_, R.mu, R.mf, R.nt, R.tab, R.tabF, R.fr, R.kp, R.dom, R.nw⟩
  by_cases q : i = j
  · subst q
    have hl := (List.getElem?_eq_some_iff.mp hj).1
    rw [List.length_set] at hl
    rw [List.getElem?_set_self hl] at hj
    obtain rfl := Option.some.inj (Option.some.inj hj)
    exact ⟨v, by rw [List.getElem?_set_self (by rw [R.len]; exact hl)], h⟩
  · rw [List.getElem?_set_ne q] at hj ⊢
    exact R.slot j y hj
def vw : Option Vl → PV
  | some (.d d) => .val d
  | _ => .un
def view (ρ : PS) : PSt := ρ.map vw
theorem vw_val {o : Option Vl} {pv : PV} (h : vw o = pv) : pv = .un ∨ ∃ d, o = some (.d d) ∧ pv = .val d := by
  match o, h with
  | some (.d d), h => exact Or.inr ⟨d, rfl, h.symm⟩
  | some (.loc _), h => exact Or.inl h.symm
  | some (.tup _), h => exact Or.inl h.symm
  | none, h => exact Or.inl h.symm
/-- the L3 place of this moment -/
def C4.c3 (c : C4) (F H : Hp) : Ct := ⟨c.X, fun p => H p = none, [], F, H, []⟩
theorem R4.rel (R : R4 c F H μ σ ρ) : Rel (c.c3 F H) F H σ (view ρ) := by
  have noOwn : ∀ {i : Nat} {f : Bool} {o : List D}, (view ρ)[i]? = some (.own f o) → False := by
    intro i f o h
    unfold view at h
    rw [List.getElem?_map] at h
    obtain ⟨x, _, e⟩ := Option.map_eq_some_iff.mp h
    rcases vw_val e with z | ⟨d, _, z⟩
    · exact nomatch z
    · exact nomatch z
  refine ⟨by rw [R.len, view, List.length_map], R.sub, fun i pv h => ?_, fun i j f1 o1 f2 o2 p h => (noOwn h).elim, R.nt, R.tab, R.tabF, L3.Same.refl F, fun b o e _ _ => e, fun b e => e, fun b o e => Or.inl e, fun p e => e⟩
  unfold view at h
  rw [List.getElem?_map] at h
  obtain ⟨x, e1, e⟩ := Option.map_eq_some_iff.mp h
  rcases vw_val e with rfl | ⟨d, rfl, rfl⟩
  · exact trivial
  · obtain ⟨v, e2, r⟩ := R.slot i _ e1
    exact ⟨v, e2, r⟩
/-- back from L3 -/
theorem R4.back (R : R4 c F H μ σ ρ) {σ' : L2.St} {ρ' : PSt} (r : Rel (c.c3 F H) F' H' σ' ρ') : R4 c F' H' μ σ ρ := by
  have kp : ∀ b o, H b = some o → (∀ ps, o ≠ .tbl ps) → H' b = some o := fun b o e n => r.kp b o e (by simp [C4.c3]) (R.notab e n)
  refine ⟨R.len, r.sub, fun i x e => ?_, fun a m e => ?_, R.mf, r.nt, r.tab, r.tabF, tr R.fr r.fr, fun b o e n t => r.kp b o (R.kp b o e n t) (by simp [C4.c3]) t, fun b e => R.dom b (r.dom b e), fun b o e => ?_⟩
  · obtain ⟨v, e1, q⟩ := R.slot i x e
    exact ⟨v, e1, q.mono r.fr⟩
  · obtain ⟨f, mo⟩ := R.mu a m e
    obtain ⟨o, eo, mto⟩ := mo.at
    have eo2 : H' a = some o := kp a o eo fun ps z => by rw [z] at mto; exact mto
    refine ⟨?_, mo.keep r.fr fun b u e2 hb => kp b u e2 fun ps z => ?_⟩
    · cases q : F' a with
      | none => rfl
      | some u =>
        rcases r.nw a u q with z | z | ⟨z, _⟩ | z
        · have z2 : F a = some u := z
          rw [f] at z2; exact nomatch z2
        · have z2 : H a = none := z
          rw [eo] at z2; exact nomatch z2
        · exact nomatch z
        · have z2 := r.sub _ _ q
          rw [eo2] at z2
          obtain rfl := Option.some.inj z2
          cases o <;> first | exact mto.elim | exact z.elim
    · rcases hb with rfl | hb
      · rw [eo] at e2
        obtain rfl := Option.some.inj e2
        rw [z] at mto
        exact mto
      · rw [hb] at z; exact nomatch z
  · rcases r.nw b o e with z | z | ⟨z, _⟩ | z
    · exact R.nw b o z
    · exact Or.inr (Or.inl (R.dom b z))
    · exact nomatch z
    · exact Or.inr (Or.inr (Or.inr z))
end
end L4
namespace L4
open PySem PySem.Spec PyProof.Rows L2 TB LamX L3
open C8 (tCut)
abbrev QE4 := PS → Mu → (Vl → Mu → Prop) → Prop
abbrev QT4 := PS → Mu → (Bool → Mu → Prop) → Prop
abbrev QA4 := PS → Mu → (List Vl → Mu → Prop) → Prop
abbrev QG4 := Vl → PS → Mu → (PS → Mu → Prop) → Prop
abbrev QGs4 := List Vl → PS → Mu → (PS → Mu → Prop) → Prop
/-- what is walked: its items, and what must stay so meanwhile -/
structure Wk where
  vs : List Vl
  ok : Mu → Prop
abbrev QI4 := PS → Mu → (Wk → Mu → Prop) → Prop
/-- a refusal: its class, its fields -/
structure XD where
  C : Addr
  fs : List (Str × Vl)
structure P4 where
  nx : PS → Mu → Prop
  rt : Vl → Mu → Prop
  bk : PS → Mu → Prop := fun _ _ => False
  ct : PS → Mu → Prop := fun _ _ => False
  ex : XD → PS → Mu → Prop := fun _ _ _ => False
abbrev QS4 := P4 → PS → Mu → Prop
def E4 (X : Sx) (te : TE) (pe : QE4) : Prop := ∀ (c : C4), c.X = X → ∀ (σ : L2.St) (F H : Hp) (μ : Mu) (ρ : PS) (Q : VK) (Q4 : Vl → Mu → Prop), R4 c F H μ σ ρ →
  (∀ x v F' H' μ', R4 c F' H' μ' σ ρ → Same F F' → RV c.K F' x v → Q4 x μ' → Q v H') → pe ρ μ Q4 → te σ H Q
def T4 (X : Sx) (tt : TT) (pt : QT4) : Prop := ∀ (c : C4), c.X = X → ∀ (σ : L2.St) (F H : Hp) (μ : Mu) (ρ : PS) (Q : Bool → Hp → Prop) (Q4 : Bool → Mu → Prop), R4 c F H μ σ ρ →
  (∀ b F' H' μ', R4 c F' H' μ' σ ρ → Same F F' → Q4 b μ' → Q b H') → pt ρ μ Q4 → tt σ H Q
def A4 (X : Sx) (ta : TA) (pa : QA4) : Prop := ∀ (c : C4), c.X = X → ∀ (σ : L2.St) (F H : Hp) (μ : Mu) (ρ : PS) (Q : List V → Hp → Prop) (Q4 : List Vl → Mu → Prop), R4 c F H μ σ ρ →
  (∀ xs vs F' H' μ', R4 c F' H' μ' σ ρ → Same F F' → RVs c.K F' xs vs → Q4 xs μ' → Q vs H') → pa ρ μ Q4 → ta σ H Q
def Wd4 (X : Sx) (J : It) (F : Hp) (k : Wk) : Prop := ∀ (i : Nat) (c : C4) (σ : L2.St) (F1 H1 : Hp) (μ : Mu) (ρ : PS), c.X = X → Same F F1 → R4 c F1 H1 μ σ ρ → k.ok μ →
  (∀ x, k.vs[i]? = some x → J.go i H1 ∧ ∀ v H', J.yld i H1 v H' → ∃ F', R4 c F' H' μ σ ρ ∧ Same F1 F' ∧ RV X.K F' x v) ∧ (k.vs[i]? = none → J.stop i H1)
def I4 (X : Sx) (wi : TI) (pi : QI4) : Prop := ∀ (c : C4), c.X = X → ∀ (σ : L2.St) (F H : Hp) (μ : Mu) (ρ : PS) (R : It → Hp → Prop) (Q4 : Wk → Mu → Prop), R4 c F H μ σ ρ →
  (∀ k J F' H' μ', R4 c F' H' μ' σ ρ → Same F F' → Wd4 X J F' k → Q4 k μ' → R J H') → pi ρ μ Q4 → wi σ H R
def G4 (X : Sx) (g : TG) (pg : QG4) (ts : List Nat) : Prop := ∀ (c : C4), c.X = X → ∀ (σ : L2.St) (F H : Hp) (μ : Mu) (ρ : PS) (x : Vl) (v : V) (R : L2.St → Hp → Prop) (Q4 : PS → Mu → Prop), R4 c F H μ σ ρ → RV c.K F x v →
  (∀ ρ' σ' F' H' μ', R4 c F' H' μ' σ' ρ' → Same F F' → σ'.length = σ.length → (∀ i, i ∉ ts → σ'[i]? = σ[i]?) → Q4 ρ' μ' → R σ' H') → pg x ρ μ Q4 → g v σ H R
def Gs4 (X : Sx) (g : TGs) (pg : QGs4) (ts : List Nat) : Prop := ∀ (c : C4), c.X = X → ∀ (σ : L2.St) (F H : Hp) (μ : Mu) (ρ : PS) (xs : List Vl) (vs : List V) (R : L2.St → Hp → Prop) (Q4 : PS → Mu → Prop), R4 c F H μ σ ρ → RVs c.K F xs vs →
  (∀ ρ' σ' F' H' μ', R4 c F' H' μ' σ' ρ' → Same F F' → σ'.length = σ.length → (∀ i, i ∉ ts → σ'[i]? = σ[i]?) → Q4 ρ' μ' → R σ' H') → pg xs ρ μ Q4 → g vs σ H R
structure Agr4 (c : C4) (F : Hp) (D : Ends) (P : P4) : Prop where
  nx : ∀ σ' F' H' μ' ρ', R4 c F' H' μ' σ' ρ' → Same F F' → P.nx ρ' μ' → D.nx σ' H'
  rt : ∀ σ' F' H' μ' ρ' v x, R4 c F' H' μ' σ' ρ' → Same F F' → RV c.K F' x v → P.rt x μ' → D.rt v H'
  bk : ∀ σ' F' H' μ' ρ', R4 c F' H' μ' σ' ρ' → Same F F' → P.bk ρ' μ' → D.bk σ' H'
  ct : ∀ σ' F' H' μ' ρ', R4 c F' H' μ' σ' ρ' → Same F F' → P.ct ρ' μ' → D.ct σ' H'
/-- the refusal at hand -/
def XOk (K : PySem.W.Frag) (F H : Hp) (cls : Value) (d : Option Addr) (xd : XD) : Prop := cls = .ref xd.C ∧ ((d = none ∧ xd.fs = []) ∨ ∃ dx ws, d = some dx ∧ F dx = none ∧ H dx = some (.xd ws) ∧ RK K F xd.fs ws)
def AgX (c : C4) (F : Hp) (W : WX) (ex : XD → PS → Mu → Prop) : Prop := ∀ σ' F' H' μ' ρ' cls d xd, R4 c F' H' μ' σ' ρ' → Same F F' → XOk c.K F' H' cls d xd → ex xd ρ' μ' → W cls d σ' H'
theorem Agr4.mono {c : C4} {F F' : Hp} {D : Ends} {P : P4} (a : Agr4 c F D P) (s : Same F F') : Agr4 c F' D P :=
  ⟨fun σ' G H' μ' ρ' R q => a.nx σ' G H' μ' ρ' R (tr s q), fun σ' G H' μ' ρ' v x R q => a.rt σ' G H' μ' ρ' v x R (tr s q), fun σ' G H' μ' ρ' R q => a.bk σ' G H' μ' ρ' R (tr s q), fun σ' G H' μ' ρ' R q => a.ct σ' G H' μ' ρ' R (tr s q)⟩
theorem AgX.mono {c : C4} {F F' : Hp} {W : WX} {ex : XD → PS → Mu → Prop} (a : AgX c F W ex) (s : Same F F') : AgX c F' W ex := fun σ' G H' μ' ρ' cls d xd R q => a σ' G H' μ' ρ' cls d xd R (tr s q)
def S4c (c : C4) (W : WX) (t : TS) (p : QS4) : Prop := ∀ (σ : L2.St) (F H : Hp) (μ : Mu) (ρ : PS) (D : Ends) (P : P4), R4 c F H μ σ ρ → Agr4 c F D P → AgX c F W P.ex → p P ρ μ → t D σ H
section
variable {X : Sx} {c : C4} {W : WX}
def isVal (Q : D → Prop) : Rv → Prop
  | .val d => Q d
  | .cell _ => False
theorem isVal_is {Q : D → Prop} : ∀ {r : Rv}, isVal Q r → ∃ d, r = .val d ∧ Q d
  | .val d, h => ⟨d, rfl, h⟩
def of3 (pe : QE) : QE4 := fun ρ μ Q => pe (view ρ) fun r _ => isVal (fun d => Q (.d d) μ) r
theorem e_of3 {te : TE} {pe : QE} (h : LiE X te pe) : E4 X te (of3 pe) := by
  intro c hX σ F H μ ρ Q Q4 R hq hp
  refine h (c.c3 F H) hX σ F H (view ρ) Q _ R.rel ?_ hp
  intro r ρ' v F' H' R' s rv q
  obtain ⟨d, rfl, q⟩ := isVal_is q
  exact hq (.d d) v F' H' μ (R.back R') s rv q
def it3 (pi : QI) : QI4 := fun ρ μ Q => pi (view ρ) fun ds _ => Q ⟨ds.map Vl.d, fun _ => True⟩ μ
theorem i_of3 {wi : TI} {pi : QI} (h : LiI X wi pi) : I4 X wi (it3 pi) := by
  intro c hX σ F H μ ρ Rr Q4 R hq hp
  refine h (c.c3 F H) hX σ F H (view ρ) Rr _ R.rel ?_ hp
  intro ds ρ' J F' H' R' s wd q
  refine hq _ J F' H' μ (R.back R') s ?_ q
  intro i c1 σ1 F1 H1 μ1 ρ1 hX1 s1 R1 _
  obtain ⟨w1, w2⟩ := wd i (c1.c3 F1 H1) σ1 (view ρ1) F1 H1 hX1 s1 R1.rel
  refine ⟨fun x e => ?_, fun e => w2 ?_⟩
  · rw [List.getElem?_map] at e
    obtain ⟨d, e1, rfl⟩ := Option.map_eq_some_iff.mp e
    obtain ⟨go, yl⟩ := w1 d e1
    refine ⟨go, fun v H2 hy => ?_⟩
    obtain ⟨_, F2, R2, s2, rp⟩ := yl v H2 hy
    exact ⟨F2, R1.back R2, s2, rp⟩
  · rw [List.getElem?_map] at e
    exact Option.map_eq_none_iff.mp e
def qVar4 (i : Nat) : QE4 := fun ρ μ Q => ∃ x, ρ[i]? = some (some x) ∧ Q x μ
theorem e_var {i : Nat} : E4 X (tVar i) (qVar4 i) := by
  rintro c hX σ F H μ ρ Q Q4 R hq ⟨x, e, q⟩
  obtain ⟨v, e1, r⟩ := R.slot i x e
  exact ⟨v, e1, hq x v F H μ R (L3.Same.refl F) r q⟩
def gName4 (i : Nat) : QG4 := fun x ρ μ Q => Q (ρ.set i (some x)) μ
theorem g_name {i : Nat} : G4 X (gName i) (gName4 i) [i] := by
  intro c hX σ F H μ ρ x v Rr Q4 R h hq hp
  refine hq _ _ F H μ (R.setV (i := i) h) (L3.Same.refl F) List.length_set (fun j hj => ?_) hp
  rw [List.getElem?_set_ne (fun e => hj (by rw [e]; exact List.mem_singleton.mpr rfl))]
def gNil4 : QGs4 := fun xs ρ μ Q => xs = [] ∧ Q ρ μ
def gCons4 (g : QG4) (gs : QGs4) : QGs4 := fun xs ρ μ Q => ∃ x r, xs = x :: r ∧ g x ρ μ fun ρ' μ' => gs r ρ' μ' Q
theorem g_nil : Gs4 X gNil gNil4 [] := by
  rintro c hX σ F H μ ρ xs vs Rr Q4 R h hq ⟨rfl, q⟩
  exact ⟨h, hq _ _ F H μ R (L3.Same.refl F) rfl (fun _ _ => rfl) q⟩
theorem g_cons {g : TG} {gs : TGs} {p : QG4} {ps : QGs4} {t1 t2 : List Nat} (h1 : G4 X g p t1) (h2 : Gs4 X gs ps t2) : Gs4 X (gCons g gs) (gCons4 p ps) (t1 ++ t2) := by
  rintro c hX σ F H μ ρ xs vs Rr Q4 R h hq ⟨x, r, rfl, q⟩
  obtain ⟨v, ws, rfl, k1, k2⟩ := h
  refine ⟨v, ws, rfl, ?_⟩
  refine h1 c hX σ F H μ ρ x v _ _ R k1 ?_ q
  intro ρ1 σ1 F1 H1 μ1 R1 s1 l1 e1 q1
  refine h2 c hX σ1 F1 H1 μ1 ρ1 r ws _ _ R1 (k2.mono s1) ?_ q1
  intro ρ2 σ2 F2 H2 μ2 R2 s2 l2 e2 q2
  refine hq ρ2 σ2 F2 H2 μ2 R2 (tr s1 s2) (l2.trans l1) (fun i hi => ?_) q2
  rw [e2 i (fun z => hi (List.mem_append_right _ z)), e1 i (fun z => hi (List.mem_append_left _ z))]
/-- the items of a tuple -/
def tupOf : Vl → Option (List Vl)
  | .d (.tup ds) => some (ds.map Vl.d)
  | .tup vs => some vs
  | _ => none
theorem tupOf_at {K : PySem.W.Frag} {F : Hp} {x : Vl} {xs : List Vl} {v : V} (e : tupOf x = some xs) (h : RV K F x v) : ∃ a vs, v = .ref a ∧ SqT K F a vs ∧ RVs K F xs vs := by
  match x, e, h with
  | .d (.tup ds), e, h =>
    obtain rfl := Option.some.inj e
    obtain ⟨a, vs, e1, q, r⟩ := h
    exact ⟨a, vs, e1, q, RVs.ofData r⟩
  | .tup vs, e, h =>
    obtain rfl := Option.some.inj e
    exact h
def gTup4 (n : Nat) (gs : QGs4) : QG4 := fun x ρ μ Q => ∃ xs, tupOf x = some xs ∧ xs.length = n ∧ gs xs ρ μ Q
theorem g_tup {n : Nat} {K : PySem.W.Frag} {gs : TGs} {ps : QGs4} {t : List Nat} (h1 : Gs4 X gs ps t) (hK : X.K = K := by rfl) : G4 X (gTup K n gs) (gTup4 n ps) t := by
  subst hK
  rintro c hX σ F H μ ρ x v Rr Q4 R h hq ⟨xs, e, hn, q⟩
  obtain ⟨a, vs, rfl, sq, r⟩ := tupOf_at e h
  subst hX
  exact ⟨a, vs, rfl, sqT_mono R.sub sq, by rw [r.len]; exact hn, h1 c rfl σ F H μ ρ xs vs Rr Q4 R r hq q⟩
def aNil : QA4 := fun ρ μ Q => Q [] μ
def aCons (pe : QE4) (pa : QA4) : QA4 := fun ρ μ Q => pe ρ μ fun x μ1 => pa ρ μ1 fun xs μ2 => Q (x :: xs) μ2
theorem a_nil : A4 X tNil aNil := by
  intro c hX σ F H μ ρ Q Q4 R hq h
  exact hq [] [] F H μ R (L3.Same.refl F) rfl h
theorem a_cons {te : TE} {ta : TA} {pe : QE4} {pa : QA4} (h1 : E4 X te pe) (h2 : A4 X ta pa) : A4 X (tCons te ta) (aCons pe pa) := by
  intro c hX σ F H μ ρ Q Q4 R hq h
  refine h1 c hX σ F H μ ρ _ _ R ?_ h
  intro x v F1 H1 μ1 R1 s1 rv q1
  refine h2 c hX σ F1 H1 μ1 ρ _ _ R1 ?_ q1
  intro xs vs F2 H2 μ2 R2 s2 rvs q2
  exact hq (x :: xs) (v :: vs) F2 H2 μ2 R2 (tr s1 s2) ⟨v, vs, rfl, rv.mono s2, rvs⟩ q2
/-- all data -/
def allD : List Vl → Option (List D)
  | [] => some []
  | .d d :: r => (allD r).map (d :: ·)
  | _ => none
theorem allD_is : ∀ {xs : List Vl} {ds : List D}, allD xs = some ds → xs = ds.map Vl.d
  | [], ds, h => by
    obtain rfl : [] = ds := Option.some.inj h
    rfl
  | .d d :: r, ds, h => by
    have h2 : (allD r).map (d :: ·) = some ds := h
    obtain ⟨es, e, rfl⟩ := Option.map_eq_some_iff.mp h2
    rw [allD_is e]
    rfl
/-- (..): data where all is data -/
def mkTup (xs : List Vl) : Vl := match allD xs with
  | some ds => .d (.tup ds)
  | none => .tup xs
def qTup4 (pa : QA4) : QE4 := fun ρ μ Q => pa ρ μ fun xs μ' => xs.length ≤ sizeLine ∧ Q (mkTup xs) μ'
theorem e_tup {ta : TA} {pa : QA4} (h : A4 X ta pa) : E4 X (tTup ta) (qTup4 pa) := by
  intro c hX σ F H μ ρ Q Q4 R hq hp
  refine h c hX σ F H μ ρ _ _ R ?_ hp
  intro xs vs F' H' μ' R' s r ⟨z, q⟩
  refine ⟨by rw [r.len]; exact z, fun p np => ?_⟩
  have s2 : Same F' (upd F' p (.tup vs)) := fun _ _ e => old_upd (R'.fnone np) e
  refine hq (mkTup xs) (.ref p) _ _ μ' (R'.alloc np trivial) (tr s s2) ?_ q
  unfold mkTup
  cases e : allD xs with
  | none => exact ⟨p, vs, rfl, sqT_of upd_same, r.mono s2⟩
  | some ds =>
    rw [allD_is e] at r
    exact ⟨p, vs, rfl, sqT_of upd_same, (RVs.data r).mono s2⟩
/-- [..]: a new list -/
def qLst4 (pa : QA4) : QE4 := fun ρ μ Q => pa ρ μ fun xs μ' => xs.length ≤ sizeLine ∧ ∀ p, μ' p = none → Q (.loc p) (updM μ' p (.lst xs))
theorem R4.newM {F H : Hp} {μ : Mu} {σ : L2.St} {ρ : PS} (R : R4 c F H μ σ ρ) {p : Addr} {o : HO} {m : MO} (np : H p = none) (no : noT o) (hm : MOk c.K F (upd H p o) p m) : R4 c F (upd H p o) (updM μ p m) σ ρ := (R.allocH np no).own (R.fnone np) hm (Or.inr (R.dom p np))
theorem e_lst {ta : TA} {pa : QA4} (h : A4 X ta pa) : E4 X (tLst ta) (qLst4 pa) := by
  intro c hX σ F H μ ρ Q Q4 R hq hp
  refine h c hX σ F H μ ρ _ _ R ?_ hp
  intro xs vs F' H' μ' R' s r ⟨z, q⟩
  refine ⟨by rw [r.len]; exact z, fun p np => ?_⟩
  exact hq (.loc p) (.ref p) F' _ _ (R'.newM (m := .lst xs) np trivial ⟨vs, upd_same, r⟩) s rfl (q p (R'.mnone np))
/-- {}: a new dict -/
def qDic4 : QE4 := fun ρ μ Q => ∀ p, μ p = none → Q (.loc p) (updM μ p (.dic []))
theorem e_dic : E4 X tDNewK qDic4 := by
  intro c hX σ F H μ ρ Q Q4 R hq hp p np
  exact hq (.loc p) (.ref p) F _ _ (R.newM (m := .dic []) np trivial ⟨[], upd_same, rfl⟩) (L3.Same.refl F) rfl (hp p (R.mnone np))
def isB4 (Q : Bool → Prop) : Vl → Prop
  | .d (.bl b) => Q b
  | _ => False
theorem isB4_is {Q : Bool → Prop} : ∀ {x : Vl}, isB4 Q x → ∃ b, x = .d (.bl b) ∧ Q b
  | .d (.bl b), h => ⟨b, rfl, h⟩
def qTest4 (pe : QE4) : QT4 := fun ρ μ Q => pe ρ μ fun x μ' => isB4 (fun b => Q b μ') x
theorem t_tB {te : TE} {pe : QE4} (h : E4 X te pe) : T4 X (tB te) (qTest4 pe) := by
  intro c hX σ F H μ ρ Q Q4 R hq hp
  refine h c hX σ F H μ ρ _ _ R ?_ hp
  intro x v F' H' μ' R' s rv q
  obtain ⟨b, rfl, q⟩ := isB4_is q
  exact ⟨b, rv, hq b F' H' μ' R' s q⟩
theorem t_test {te : TE} {pe : QE4} (h : E4 X te pe) : T4 X (tTest te) (qTest4 pe) := t_tB h
def qAnd4 (p q : QT4) : QT4 := fun ρ μ Q => p ρ μ fun b μ1 => if b = true then q ρ μ1 Q else Q false μ1
def qOr4 (p q : QT4) : QT4 := fun ρ μ Q => p ρ μ fun b μ1 => if b = true then Q true μ1 else q ρ μ1 Q
def qNot4 (p : QT4) : QT4 := fun ρ μ Q => p ρ μ fun b μ1 => Q (!b) μ1
def qYes4 : QT4 := fun ρ μ Q => Q true μ
theorem t_and {t u : TT} {p q : QT4} (h1 : T4 X t p) (h2 : T4 X u q) : T4 X (tAnd t u) (qAnd4 p q) := by
  intro c hX σ F H μ ρ Q Q4 R hq hp
  refine h1 c hX σ F H μ ρ _ _ R ?_ hp
  intro b F1 H1 μ1 R1 s1 q1
  cases b with
  | true => exact h2 c hX σ F1 H1 μ1 ρ _ _ R1 (fun b F2 H2 μ2 R2 s2 q2 => hq b F2 H2 μ2 R2 (tr s1 s2) q2) q1
  | false => exact hq false F1 H1 μ1 R1 s1 q1
theorem t_or {t u : TT} {p q : QT4} (h1 : T4 X t p) (h2 : T4 X u q) : T4 X (tOr t u) (qOr4 p q) := by
  intro c hX σ F H μ ρ Q Q4 R hq hp
  refine h1 c hX σ F H μ ρ _ _ R ?_ hp
  intro b F1 H1 μ1 R1 s1 q1
  cases b with
  | true => exact hq true F1 H1 μ1 R1 s1 q1
  | false => exact h2 c hX σ F1 H1 μ1 ρ _ _ R1 (fun b F2 H2 μ2 R2 s2 q2 => hq b F2 H2 μ2 R2 (tr s1 s2) q2) q1
theorem t_not {t : TT} {p : QT4} (h1 : T4 X t p) : T4 X (tNot t) (qNot4 p) := by
  intro c hX σ F H μ ρ Q Q4 R hq hp
  exact h1 c hX σ F H μ ρ _ _ R (fun b F1 H1 μ1 R1 s1 q1 => hq _ F1 H1 μ1 R1 s1 q1) hp
theorem t_yes : T4 X tYes qYes4 := by
  intro c hX σ F H μ ρ Q Q4 R hq hp
  exact hq _ F H μ R (L3.Same.refl F) hp
def qIf4 (p : QT4) (a b : QE4) : QE4 := fun ρ μ Q => p ρ μ fun k μ1 => if k = true then a ρ μ1 Q else b ρ μ1 Q
theorem e_if {t : TT} {ta tb : TE} {p : QT4} {a b : QE4} (h1 : T4 X t p) (h2 : E4 X ta a) (h3 : E4 X tb b) : E4 X (tIf t ta tb) (qIf4 p a b) := by
  intro c hX σ F H μ ρ Q Q4 R hq hp
  refine h1 c hX σ F H μ ρ _ _ R ?_ hp
  intro k F1 H1 μ1 R1 s1 q1
  cases k with
  | true => exact h2 c hX σ F1 H1 μ1 ρ _ _ R1 (fun x v F2 H2 μ2 R2 s2 rv q2 => hq x v F2 H2 μ2 R2 (tr s1 s2) rv q2) q1
  | false => exact h3 c hX σ F1 H1 μ1 ρ _ _ R1 (fun x v F2 H2 μ2 R2 s2 rv q2 => hq x v F2 H2 μ2 R2 (tr s1 s2) rv q2) q1
def sNext4 : QS4 := fun P ρ μ => P.nx ρ μ
def sSeq4 (p q : QS4) : QS4 := fun P ρ μ => p { P with nx := q P } ρ μ
def sCut4 (p q : QS4) : QS4 := fun P ρ μ => ∃ M : PS → Mu → Prop, p { P with nx := M } ρ μ ∧ ∀ ρ' μ', M ρ' μ' → q P ρ' μ'
def sDrop4 (pe : QE4) : QS4 := fun P ρ μ => pe ρ μ fun _ μ' => P.nx ρ μ'
def sRet4 (pe : QE4) : QS4 := fun P ρ μ => pe ρ μ fun x μ' => P.rt x μ'
def sIf4 (pt : QT4) (p q : QS4) : QS4 := fun P ρ μ => pt ρ μ fun b μ1 => if b = true then p P ρ μ1 else q P ρ μ1
def sAsg4 (pe : QE4) (g : QG4) : QS4 := fun P ρ μ => pe ρ μ fun x μ1 => g x ρ μ1 P.nx
theorem s_nextc : S4c c W tNext sNext4 := fun σ F H μ ρ D P R a _ h => a.nx σ F H μ ρ R (L3.Same.refl F) h
theorem s_neverc : S4c c W tNever (fun _ _ _ => False) := fun σ F H μ ρ D P R a _ h => h.elim
theorem s_seqc {t u : TS} {p q : QS4} (h1 : S4c c W t p) (h2 : S4c c W u q) : S4c c W (tSeq t u) (sSeq4 p q) := by
  intro σ F H μ ρ D P R a ax h
  exact h1 σ F H μ ρ _ { P with nx := q P } R ⟨fun σ' F' H' μ' ρ' R' s z => h2 σ' F' H' μ' ρ' D P R' (a.mono s) (ax.mono s) z, a.rt, a.bk, a.ct⟩ ax h
theorem s_cutc {t u : TS} {p q : QS4} (h1 : S4c c W t p) (h2 : S4c c W u q) : S4c c W (tCut t u) (sCut4 p q) := by
  intro σ F H μ ρ D P R a ax h
  obtain ⟨M, hm, hu⟩ := h
  refine ⟨fun σ' H' => ∃ F' μ' ρ', R4 c F' H' μ' σ' ρ' ∧ Same F F' ∧ M ρ' μ', ?_, ?_⟩
  · exact h1 σ F H μ ρ _ { P with nx := M } R ⟨fun σ' F' H' μ' ρ' R' s q => ⟨F', μ', ρ', R', s, q⟩, a.rt, a.bk, a.ct⟩ ax hm
  · rintro σ' H' ⟨F', μ', ρ', R', s, q⟩
    exact h2 σ' F' H' μ' ρ' D P R' (a.mono s) (ax.mono s) (hu ρ' μ' q)
theorem s_dropc {te : TE} {pe : QE4} (h1 : E4 c.X te pe) : S4c c W (tDrop te) (sDrop4 pe) := by
  intro σ F H μ ρ D P R a ax h
  exact h1 c rfl σ F H μ ρ _ _ R (fun x v F' H' μ' R' s rv q => a.nx σ F' H' μ' ρ R' s q) h
theorem s_retc {te : TE} {pe : QE4} (h1 : E4 c.X te pe) : S4c c W (tRet te) (sRet4 pe) := by
  intro σ F H μ ρ D P R a ax h
  exact h1 c rfl σ F H μ ρ _ _ R (fun x v F' H' μ' R' s rv q => a.rt σ F' H' μ' ρ v x R' s rv q) h
theorem s_ifc {tc : TT} {t u : TS} {pt : QT4} {p q : QS4} (h0 : T4 c.X tc pt) (h1 : S4c c W t p) (h2 : S4c c W u q) : S4c c W (tIfS tc t u) (sIf4 pt p q) := by
  intro σ F H μ ρ D P R a ax h
  refine h0 c rfl σ F H μ ρ _ _ R ?_ h
  intro b F' H' μ' R' s q
  cases b with
  | true => exact h1 σ F' H' μ' ρ D P R' (a.mono s) (ax.mono s) q
  | false => exact h2 σ F' H' μ' ρ D P R' (a.mono s) (ax.mono s) q
theorem s_asgc {te : TE} {g : TG} {pe : QE4} {pg : QG4} {t : List Nat} (h1 : E4 c.X te pe) (h2 : G4 c.X g pg t) : S4c c W (tAsg te g) (sAsg4 pe pg) := by
  intro σ F H μ ρ D P R a ax h
  refine h1 c rfl σ F H μ ρ _ _ R ?_ h
  intro x v F' H' μ' R' s rv q
  exact h2 c rfl σ F' H' μ' ρ x v _ _ R' rv (fun ρ2 σ2 F2 H2 μ2 R2 s2 _ _ q2 => a.nx σ2 F2 H2 μ2 ρ2 R2 (tr s s2) q2) q
def For4 (k : Wk) (g : QG4) (p : QS4) (P : P4) (ρ : PS) (μ : Mu) : Prop := ∃ W : Nat → PS → Mu → Prop, W 0 ρ μ ∧ ∀ i ρ μ, W i ρ μ → k.ok μ ∧ (k.vs[i]? = none → P.nx ρ μ) ∧ ∀ x, k.vs[i]? = some x → g x ρ μ fun ρ1 μ1 => p { P with nx := W (i + 1), ct := W (i + 1), bk := P.nx } ρ1 μ1
def sFor4 (pi : QI4) (g : QG4) (p : QS4) : QS4 := fun P ρ μ => pi ρ μ fun k μ1 => For4 k g p P ρ μ1
theorem s_forc {wi : TI} {g : TG} {tb : TS} {pi : QI4} {pg : QG4} {p : QS4} {t : List Nat} (h0 : I4 c.X wi pi) (h1 : G4 c.X g pg t) (h2 : S4c c W tb p) : S4c c W (tFor wi g tb) (sFor4 pi pg p) := by
  intro σ F H μ ρ D P R a ax h
  refine h0 c rfl σ F H μ ρ _ _ R ?_ h
  rintro k J F1 H1 μ1 R1 s1 wd ⟨I, w0, turn⟩
  refine ⟨fun i m σ' H' => m = k.vs.length - i ∧ ∃ F' μ' ρ', R4 c F' H' μ' σ' ρ' ∧ Same F1 F' ∧ I i ρ' μ', ⟨_, rfl, F1, μ1, ρ, R1, L3.Same.refl F1, w0⟩, ?_⟩
  rintro i m σ2 H2 ⟨rfl, F2, μ2, ρ2, R2, s2, q2⟩
  obtain ⟨ok, t1, t2⟩ := turn i ρ2 μ2 q2
  obtain ⟨w1, w2⟩ := wd i c σ2 F2 H2 μ2 ρ2 rfl s2 R2 ok
  cases e1 : k.vs[i]? with
  | none => exact Or.inl ⟨w2 e1, a.nx σ2 F2 H2 μ2 ρ2 R2 (tr s1 s2) (t1 e1)⟩
  | some x =>
    obtain ⟨go, yl⟩ := w1 x e1
    have hlt := (List.getElem?_eq_some_iff.mp e1).1
    refine Or.inr ⟨go, fun σ' H' => ∃ F' μ' ρ', R4 c F' H' μ' σ' ρ' ∧ Same F1 F' ∧ I (i + 1) ρ' μ', fun σ' H' ⟨F', μ', ρ', R', s', q'⟩ => ⟨k.vs.length - (i + 1), by omega, rfl, F', μ', ρ', R', s', q'⟩, ?_⟩
    intro v H3 hy
    obtain ⟨F3, R3, s3, rp⟩ := yl v H3 hy
    refine h1 c rfl σ2 F3 H3 μ2 ρ2 x v _ _ R3 rp ?_ (t2 x e1)
    intro ρ4 σ4 F4 H4 μ4 R4' s4 _ _ q4
    have sB : Same F1 F4 := tr (tr s2 s3) s4
    have sA : Same F F4 := tr s1 sB
    exact h2 σ4 F4 H4 μ4 ρ4 _ { P with nx := I (i + 1), ct := I (i + 1), bk := P.nx } R4' ⟨fun σ' F' H' μ' ρ' R' s' q' => ⟨F', μ', ρ', R', tr sB s', q'⟩, fun σ' F' H' μ' ρ' v x R' s' r q' => a.rt σ' F' H' μ' ρ' v x R' (tr sA s') r q', fun σ' F' H' μ' ρ' R' s' q' => a.nx σ' F' H' μ' ρ' R' (tr sA s') q', fun σ' F' H' μ' ρ' R' s' q' => ⟨F', μ', ρ', R', tr sB s', q'⟩⟩ (ax.mono sA) q4
end
/-- for all places -/
def S4 (X : Sx) (W : WX) (t : TS) (p : QS4) : Prop := ∀ c : C4, c.X = X → S4c c W t p
section
variable {X : Sx} {W : WX}
theorem s_next : S4 X W tNext sNext4 := fun c _ => s_nextc
theorem s_never : S4 X W tNever (fun _ _ _ => False) := fun c _ => s_neverc
theorem s_seq {t u : TS} {p q : QS4} (h1 : S4 X W t p) (h2 : S4 X W u q) : S4 X W (tSeq t u) (sSeq4 p q) := fun c e => s_seqc (h1 c e) (h2 c e)
theorem s_cut {t u : TS} {p q : QS4} (h1 : S4 X W t p) (h2 : S4 X W u q) : S4 X W (tCut t u) (sCut4 p q) := fun c e => s_cutc (h1 c e) (h2 c e)
theorem s_drop {te : TE} {pe : QE4} (h1 : E4 X te pe) : S4 X W (tDrop te) (sDrop4 pe) := fun c e => by subst e; exact s_dropc h1
theorem s_ret {te : TE} {pe : QE4} (h1 : E4 X te pe) : S4 X W (tRet te) (sRet4 pe) := fun c e => by subst e; exact s_retc h1
theorem s_if {tc : TT} {t u : TS} {pt : QT4} {p q : QS4} (h0 : T4 X tc pt) (h1 : S4 X W t p) (h2 : S4 X W u q) : S4 X W (tIfS tc t u) (sIf4 pt p q) := fun c e => by subst e; exact s_ifc h0 (h1 c rfl) (h2 c rfl)
theorem s_asg {te : TE} {g : TG} {pe : QE4} {pg : QG4} {t : List Nat} (h1 : E4 X te pe) (h2 : G4 X g pg t) : S4 X W (tAsg te g) (sAsg4 pe pg) := fun c e => by subst e; exact s_asgc h1 h2
theorem s_for {wi : TI} {g : TG} {tb : TS} {pi : QI4} {pg : QG4} {p : QS4} {t : List Nat} (h0 : I4 X wi pi) (h1 : G4 X g pg t) (h2 : S4 X W tb p) : S4 X W (tFor wi g tb) (sFor4 pi pg p) := fun c e => by subst e; exact s_forc h0 h1 (h2 c rfl)
end
end L4
namespace L4
open PySem PySem.Spec PyProof.Rows L2 TB LamX L3
abbrev PSp4 := List Vl → Mu → (Vl → Mu → Prop) → (XD → Mu → Prop) → Prop
def lsp4 (X : Sx) (P : PSp4) : Sp := fun vs H Q E => ∃ F μ xs Q4 X4, R4 ⟨X, F, H, μ⟩ F H μ [] [] ∧ RVs X.K F xs vs ∧ P xs μ Q4 X4 ∧
  (∀ x v F' H' μ', R4 ⟨X, F, H, μ⟩ F' H' μ' [] [] → RV X.K F' x v → Q4 x μ' → Q v H') ∧ (∀ xd cls d F' H' μ', R4 ⟨X, F, H, μ⟩ F' H' μ' [] [] → XOk X.K F' H' cls d xd → X4 xd μ' → E cls d H')
def start4 (N : List Str) (xs : List Vl) : PS := xs.map some ++ List.replicate (N.length - xs.length) none
def ends4 (Q4 : Vl → Mu → Prop) (X4 : XD → Mu → Prop) : P4 := { nx := fun _ μ => Q4 (.d .non) μ, rt := Q4, ex := fun xd _ μ => X4 xd μ }
section
variable {X : Sx} {c : C4} {F H F' H' : Hp} {μ μ' : Mu} {σ : L2.St} {ρ : PS}
theorem R4.bare (R : R4 c F H μ σ ρ) : R4 c F H μ [] [] := ⟨rfl, R.sub, fun i x e => by simp at e, R.mu, R.mf, R.nt, R.tab, R.tabF, R.fr, R.kp, R.dom, R.nw⟩
theorem start4_rel {N : List Str} {xs : List Vl} {vs : List V} (R : R4 c F H μ [] []) (r : RVs c.K F xs vs) : R4 c F H μ (L2.start N vs) (start4 N xs) := by
  refine ⟨?_, R.sub, fun i x e => ?_, R.mu, R.mf, R.nt, R.tab, R.tabF, R.fr, R.kp, R.dom, R.nw⟩
  · unfold L2.start start4
    rw [List.length_append, List.length_append, List.length_map, List.length_map, List.length_replicate, List.length_replicate, r.len]
  · unfold start4 at e
    by_cases hj : i < xs.length
    · rw [List.getElem?_append_left (by rw [List.length_map]; exact hj), List.getElem?_map] at e
      obtain ⟨y, e1, e2⟩ := Option.map_eq_some_iff.mp e
      obtain rfl := Option.some.inj e2
      obtain ⟨v, e3, rv⟩ := r.get' e1
      refine ⟨v, ?_, rv⟩
      rw [start_get (by rw [r.len]; exact hj), e3]
      rfl
    · rw [List.getElem?_append_right (by rw [List.length_map]; omega)] at e
      have := List.eq_of_mem_replicate (List.mem_of_getElem? e)
      exact nomatch this
/-- a whole def -/
theorem run4 {t : TS} {N : List Str} {P : PSp4} {vs : List V} {Q : VK} {E : XK} (hp : ∃ p, S4 X (fun cls d _ H => E cls d H) t p ∧ ∀ xs μ Q4 X4, P xs μ Q4 X4 → p (ends4 Q4 X4) (start4 N xs) μ) (h : lsp4 X P vs H Q E) : t { nx := fun _ H' => Q .non H', rt := Q } (L2.start N vs) H := by
  obtain ⟨p, hl, hp⟩ := hp
  obtain ⟨F, μ, xs, Q4, X4, R, rv, hP, hQ, hX⟩ := h
  refine hl ⟨X, F, H, μ⟩ rfl (L2.start N vs) F H μ (start4 N xs) _ (ends4 Q4 X4) (start4_rel R rv) ⟨?_, ?_, fun _ _ _ _ _ _ _ z => z.elim, fun _ _ _ _ _ _ _ z => z.elim⟩ ?_ (hp xs μ Q4 X4 hP)
  · intro σ' F' H' μ' ρ' R' _ q
    exact hQ (.d .non) .non F' H' μ' R'.bare rfl q
  · intro σ' F' H' μ' ρ' v x R' _ r q
    exact hQ x v F' H' μ' R'.bare r q
  · intro σ' F' H' μ' ρ' cls d xd R' _ xo q
    exact hX xd cls d F' H' μ' R'.bare xo q
theorem lsp4_len {P : PSp4} {n : Nat} (h : ∀ xs μ Q4 X4, P xs μ Q4 X4 → xs.length = n) : ∀ vs H Q E, lsp4 X P vs H Q E → vs.length = n := by
  rintro vs H Q E ⟨F, μ, xs, Q4, X4, R, rv, hP, _⟩
  rw [rv.len]
  exact h xs μ Q4 X4 hP
def qCall4 (P : PSp4) (pa : QA4) : QE4 := fun ρ μ Q => pa ρ μ fun xs μ1 => P xs μ1 Q (fun _ _ => False)
theorem e_call {P : PSp4} {ta : TA} {pa : QA4} {E : XK} (h : A4 X ta pa) : E4 X (tCall (lsp4 X P) [] E ta) (qCall4 P pa) := by
  intro c hX σ F H μ ρ Q Q4 R hq hp
  subst hX
  refine h c rfl σ F H μ ρ _ _ R ?_ hp
  intro xs vs F1 H1 μ1 R1 s1 rv q1
  rw [List.append_nil]
  refine ⟨F1, μ1, xs, _, _, R1.here.bare, rv, q1, ?_, fun _ _ _ _ _ _ _ _ z => z.elim⟩
  intro x v F2 H2 μ2 R2 r q
  exact hq x v F2 H2 μ2 (R1.slots R2) (tr s1 R2.fr) r q
theorem rk_some {K : PySem.W.Frag} {m : Str} {x : Vl} : ∀ {fs : List (Str × Vl)} {gs : List (Str × V)}, RK K F fs gs → fs.lookup m = some x → ∃ v, gs.lookup m = some v ∧ RV K F x v
  | [], gs, h, e => nomatch e
  | (k, y) :: fs, gs, h, e => by
    obtain ⟨v, r, rfl, q, t⟩ := h
    rw [List.lookup_cons] at e ⊢
    cases c : (m == k) with
    | true =>
      rw [c] at e
      obtain rfl : y = x := Option.some.inj e
      exact ⟨v, rfl, q⟩
    | false =>
      rw [c] at e
      exact rk_some t e
theorem rk_data {K : PySem.W.Frag} {F : Hp} : ∀ {kvs : List (Key × Vl)} {ws : List (Key × V)} {ds : List D}, RK K F kvs ws → allD (kvs.map (·.2)) = some ds → ∃ vs, ws = (kvs.map (·.1)).zip vs ∧ RpL K F ds vs
  | [], ws, ds, h, e => by
    obtain rfl : [] = ds := Option.some.inj e
    exact ⟨[], h, rfl⟩
  | (k, x) :: kvs, ws, ds, h, e => by
    obtain ⟨v, r, rfl, q, t⟩ := h
    cases x with
    | loc a => exact nomatch (show (none : Option (List D)) = some ds from e)
    | tup xs => exact nomatch (show (none : Option (List D)) = some ds from e)
    | d d =>
      have e2 : (allD (kvs.map (·.2))).map (d :: ·) = some ds := e
      obtain ⟨es, e3, rfl⟩ := Option.map_eq_some_iff.mp e2
      obtain ⟨vs, rfl, rp⟩ := rk_data t e3
      exact ⟨v :: vs, rfl, v, vs, rfl, q, rp⟩
theorem R4.backS (R : R4 c F H μ σ ρ) {σ' : L2.St} {ρ' : PSt} {G : Hp} (r : Rel (c.c3 G H) F' H' σ' ρ') : R4 c F H' μ σ ρ := by
  have kp : ∀ b o, H b = some o → (∀ ps, o ≠ .tbl ps) → H' b = some o := fun b o e n => r.kp b o e (by simp [C4.c3]) (R.notab e n)
  refine ⟨R.len, fun b o e => ?_, R.slot, fun a m e => ?_, R.mf, r.nt, r.tab, R.tabF, R.fr, fun b o e n t => r.kp b o (R.kp b o e n t) (by simp [C4.c3]) t, fun b e => R.dom b (r.dom b e), R.nw⟩
  · refine r.kp b o (R.sub b o e) (by simp [C4.c3]) fun x hx z => ?_
    rw [z, R.tabF x hx] at e
    exact nomatch e
  · obtain ⟨f, mo⟩ := R.mu a m e
    obtain ⟨o, eo, mto⟩ := mo.at
    refine ⟨f, mo.keep (L3.Same.refl F) fun b u e2 hb => kp b u e2 fun ps z => ?_⟩
    rcases hb with rfl | hb
    · rw [eo] at e2
      obtain rfl := Option.some.inj e2
      rw [z] at mto
      exact mto
    · rw [hb] at z; exact nomatch z
end
end L4
namespace L4
open PySem PySem.Spec PyProof.Rows L2 TB LamX L3
section
variable {X : Sx} {K : PySem.W.Frag} {W : WX}
abbrev OM := List Vl → List Vl → (Vl → List Vl → Prop) → Prop
def LM (X : Sx) (r : V → List V → Hp → VK → Prop) (r4 : OM) : Prop := ∀ (c : C4), c.X = X → ∀ (σ : L2.St) (F H : Hp) (μ : Mu) (ρ : PS) (a : Addr) (vs xs : List Vl) (ws : List V) (Q : VK) (Q4 : Vl → List Vl → Prop), R4 c F H μ σ ρ → μ a = some (.lst vs) → RVs c.K F xs ws →
  (∀ x v vs' H', R4 c F H' (updM μ a (.lst vs')) σ ρ → RV c.K F x v → Q4 x vs' → Q v H') → r4 vs xs Q4 → r (.ref a) ws H Q
theorem R4.mutL {c : C4} {F H : Hp} {μ : Mu} {σ : L2.St} {ρ : PS} (R : R4 c F H μ σ ρ) {a : Addr} {vs vs' : List Vl} {ws' : List V} (h : μ a = some (.lst vs)) (r : RVs c.K F vs' ws') : R4 c F (upd H a (.lst ws')) (updM μ a (.lst vs')) σ ρ := R.mut h trivial ⟨ws', upd_same, r⟩
def qBM4 (r4 : OM) (pe : QE4) (pa : QA4) : QE4 := fun ρ μ Q => pe ρ μ fun x μ1 => ∃ a, x = .loc a ∧ (∃ vs0, μ1 a = some (.lst vs0)) ∧ pa ρ μ1 fun xs μ2 => ∃ vs, μ2 a = some (.lst vs) ∧ r4 vs xs fun y vs' => Q y (updM μ2 a (.lst vs'))
theorem e_bm {r : V → List V → Hp → VK → Prop} {r4 : OM} {te : TE} {ta : TA} {pe : QE4} {pa : QA4} (hr : LM X r r4) (h0 : E4 X te pe) (h1 : A4 X ta pa) (hK : X.K = K := by rfl) : E4 X (tBM K "list" r te ta) (qBM4 r4 pe pa) := by
  subst hK
  intro c hX σ F H μ ρ Q Q4 R hq hp
  subst hX
  refine h0 c rfl σ F H μ ρ _ _ R ?_ hp
  rintro x v F1 H1 μ1 R1 s1 rv ⟨a, rfl, ⟨vs0, e0⟩, q1⟩
  obtain rfl : v = .ref a := rv
  obtain ⟨_, ws0, ea, _⟩ := R1.mu a _ e0
  refine ⟨Or.inl ⟨rfl, _, sqL_of ea⟩, ?_⟩
  refine h1 c rfl σ F1 H1 μ1 ρ _ _ R1 ?_ q1
  rintro xs ws F2 H2 μ2 R2 s2 rw2 ⟨vs, em, q2⟩
  exact hr c rfl σ F2 H2 μ2 ρ a vs xs ws Q _ R2 em rw2 (fun y v vs' H' R' rv q => hq y v F2 H' _ R' (tr s1 s2) rv q) q2
def mAppend : OM := fun vs xs Q => ∃ y, xs = [y] ∧ vs.length < sizeLine ∧ Q (.d .non) (vs ++ [y])
theorem m_append : LM X rAppend mAppend := by
  rintro c hX σ F H μ ρ a vs xs ws Q Q4 R em rx hq ⟨y, rfl, hz, q⟩
  obtain ⟨v, t, rfl, r1, r2⟩ := rx
  obtain rfl : t = [] := r2
  obtain ⟨hF, us, ea, ru⟩ := R.mu a _ em
  exact ⟨a, us, v, rfl, rfl, ea, by rw [ru.len]; exact hz, hq (.d .non) .non _ _ (R.mutL em (ru.app (RVs.one r1))) rfl q⟩
def mPopAt : OM := fun vs xs Q => ∃ (k : Int) (j : Nat) (y : Vl), xs = [.d (.int k)] ∧ -(2 ^ 63) ≤ k ∧ k < 2 ^ 63 ∧ seqIndex? k vs.length = some j ∧ vs[j]? = some y ∧ Q y (vs.eraseIdx j)
theorem m_popAt : LM X rPopAt mPopAt := by
  rintro c hX σ F H μ ρ a vs xs ws Q Q4 R em rx hq ⟨k, j, y, rfl, k0, k1, e1, e2, q⟩
  obtain ⟨v, t, rfl, r1, r2⟩ := rx
  obtain rfl : t = [] := r2
  obtain rfl : v = .int k := r1
  obtain ⟨hF, us, ea, ru⟩ := R.mu a _ em
  obtain ⟨u, e3, rv⟩ := ru.get' e2
  exact ⟨a, us, k, j, u, rfl, rfl, ea, k0, k1, by rw [ru.len]; exact e1, e3, hq y u _ _ (R.mutL em (ru.erase j)) rv q⟩
def lstOf (μ : Mu) : Vl → Option (List Vl)
  | .d (.lst ds) => some (ds.map Vl.d)
  | .loc a => match μ a with
    | some (.lst vs) => some vs
    | _ => none
  | _ => none
theorem lstOf_at {c : C4} {F H : Hp} {μ : Mu} {σ : L2.St} {ρ : PS} (R : R4 c F H μ σ ρ) {x : Vl} {vs : List Vl} {v : V} (e : lstOf μ x = some vs) (h : RV c.K F x v) : ∃ a ws, v = .ref a ∧ H a = some (.lst ws) ∧ RVs c.K F vs ws := by
  cases x with
  | tup xs => exact nomatch e
  | loc a =>
    have e2 : (match μ a with | some (MO.lst vs) => some vs | _ => none) = some vs := e
    cases q : μ a with
    | none => rw [q] at e2; exact nomatch e2
    | some m =>
      rw [q] at e2
      cases m with
      | lst us =>
        obtain rfl : us = vs := Option.some.inj e2
        obtain ⟨_, ws, ea, r⟩ := R.mu a _ q
        exact ⟨a, ws, h, ea, r⟩
      | dic _ => exact nomatch e2
      | dicT _ => exact nomatch e2
      | ins _ _ _ => exact nomatch e2
  | d d =>
    cases d with
    | lst ds =>
      obtain rfl : ds.map Vl.d = vs := Option.some.inj e
      obtain ⟨a, ws, e1, q, r⟩ := h
      exact ⟨a, ws, e1, R.sub _ _ q, RVs.ofData r⟩
    | _ => exact nomatch e
theorem atI_rv {K : PySem.W.Frag} {F : Hp} {xs : List Vl} {vs : List V} {i : Int} {x : Vl} (r : RVs K F xs vs) (h : atI xs i = some x) : ∃ v, atI vs i = some v ∧ RV K F x v := by
  unfold atI at h ⊢
  rw [r.len]
  cases q : ixN xs.length i with
  | none => rw [q] at h; exact nomatch h
  | some j => rw [q] at h; exact r.get' h
def qIx4 (of : Mu → Vl → Option (List Vl)) (pa pb : QE4) : QE4 := fun ρ μ Q => pa ρ μ fun x μ1 => pb ρ μ1 fun y μ2 => ∃ (vs : List Vl) (k : Int) (z : Vl), of μ2 x = some vs ∧ y = .d (.int k) ∧ atI vs k = some z ∧ Q z μ2
theorem e_ixL {ta tb : TE} {pa pb : QE4} (h1 : E4 X ta pa) (h2 : E4 X tb pb) (hK : X.K = K := by rfl) : E4 X (tOp (rIxL K) ta tb) (qIx4 lstOf pa pb) := by
  subst hK
  intro c hX σ F H μ ρ Q Q4 R hq hp
  subst hX
  refine h1 c rfl σ F H μ ρ _ _ R ?_ hp
  intro x v F1 H1 μ1 R1 s1 rv q1
  refine h2 c rfl σ F1 H1 μ1 ρ _ _ R1 ?_ q1
  rintro y w F2 H2 μ2 R2 s2 rw2 ⟨vs, k, z, e1, rfl, e2, q⟩
  obtain rfl : w = .int k := rw2
  obtain ⟨a, ws, rfl, ea, r⟩ := lstOf_at R2 e1 (rv.mono s2)
  obtain ⟨u, e3, ru⟩ := atI_rv r e2
  exact ⟨a, ws, k, u, rfl, rfl, sqL_of ea, e3, hq z u F2 H2 μ2 R2 (tr s1 s2) ru q⟩
theorem e_ixT {ta tb : TE} {pa pb : QE4} (h1 : E4 X ta pa) (h2 : E4 X tb pb) (hK : X.K = K := by rfl) : E4 X (tOp (rIxT K) ta tb) (qIx4 (fun _ => tupOf) pa pb) := by
  subst hK
  intro c hX σ F H μ ρ Q Q4 R hq hp
  subst hX
  refine h1 c rfl σ F H μ ρ _ _ R ?_ hp
  intro x v F1 H1 μ1 R1 s1 rv q1
  refine h2 c rfl σ F1 H1 μ1 ρ _ _ R1 ?_ q1
  rintro y w F2 H2 μ2 R2 s2 rw2 ⟨vs, k, z, e1, rfl, e2, q⟩
  obtain rfl : w = .int k := rw2
  obtain ⟨a, ws, rfl, sq, r⟩ := tupOf_at e1 (rv.mono s2)
  obtain ⟨u, e3, ru⟩ := atI_rv r e2
  exact ⟨a, ws, k, u, rfl, rfl, sqT_mono R2.sub sq, e3, hq z u F2 H2 μ2 R2 (tr s1 s2) ru q⟩
def put4 (f : Str) (x : Vl) : List (Str × Vl) → List (Str × Vl)
  | [] => [(f, x)]
  | (g, y) :: r => if g = f then (g, x) :: r else (g, y) :: put4 f x r
theorem rk_put {F : Hp} {K : PySem.W.Frag} {f : Str} {x : Vl} {v : V} (h : RV K F x v) : ∀ {fs : List (Str × Vl)} {gs : List (Str × V)}, RK K F fs gs → RK K F (put4 f x fs) (putF f v gs)
  | [], gs, r => by rw [show gs = [] from r]; exact ⟨v, [], rfl, h, rfl⟩
  | (g, y) :: fs, gs, r => by
    obtain ⟨u, t, rfl, q, k⟩ := r
    show RK K F (if g = f then (g, x) :: fs else (g, y) :: put4 f x fs) (if g = f then (g, v) :: t else (g, u) :: putF f v t)
    by_cases c : g = f
    · rw [if_pos c, if_pos c]
      exact ⟨v, t, rfl, h, k⟩
    · rw [if_neg c, if_neg c]
      exact ⟨u, _, rfl, q, rk_put h k⟩
theorem rk_len {F : Hp} {K : PySem.W.Frag} {κ : Type} : ∀ {fs : List (κ × Vl)} {gs : List (κ × V)}, RK K F fs gs → gs.length = fs.length
  | [], gs, r => by rw [show gs = [] from r]; rfl
  | _ :: fs, gs, r => by
    obtain ⟨u, t, rfl, q, k⟩ := r
    rw [List.length_cons, List.length_cons, rk_len k]
def sFld4 (K : PySem.W.Frag) (f : Str) (po pe : QE4) : QS4 := fun P ρ μ => pe ρ μ fun x μ1 => po ρ μ1 fun o μ2 => ∃ a C dx fs, o = .loc a ∧ μ2 a = some (.ins C dx fs) ∧ Cls K C ∧ NoAttr K C f ∧ fs.length < 1000 ∧ P.nx ρ (updM μ2 a (.ins C dx (put4 f x fs)))
theorem s_fld {f : Str} {to te : TE} {po pe : QE4} (h0 : E4 X to po) (h1 : E4 X te pe) : S4 X W (sFld K to te f) (sFld4 K f po pe) := by
  intro c hX σ F H μ ρ D P R a0 ax hp
  refine h1 c hX σ F H μ ρ _ _ R ?_ hp
  intro x v F1 H1 μ1 R1 s1 rv q1
  refine h0 c hX σ F1 H1 μ1 ρ _ _ R1 ?_ q1
  rintro o u F2 H2 μ2 R2 s2 ru ⟨a, C, dx, fs, rfl, em, c1, c2, el, q⟩
  obtain rfl : u = .ref a := ru
  obtain ⟨hF, gs, ea, eo, rk⟩ := R2.mu a _ em
  have ne : dx ≠ a := ne_of eo ea (fun z => nomatch z)
  refine ⟨a, C, dx, gs, rfl, ea, c1, c2, by rw [rk_len rk]; exact el, ?_⟩
  exact a0.nx σ F2 _ _ ρ (R2.mut (m' := .ins C dx (put4 f x fs)) em trivial ⟨_, upd_same, oth_upd ne eo, rk_put (rv.mono s2) rk⟩) (tr s1 s2) q
def keyOf : Vl → Option Key
  | .d (.str z) => some (.inr z)
  | .d (.int i) => some (.inl i)
  | _ => none
theorem keyOf_at {K : PySem.W.Frag} {F : Hp} {x : Vl} {k : Key} {v : V} (e : keyOf x = some k) (h : RV K F x v) : v = kV k := by
  cases x with
  | loc a => exact nomatch e
  | tup a => exact nomatch e
  | d d =>
    cases d with
    | str z => obtain rfl := Option.some.inj e; exact h
    | int z => obtain rfl := Option.some.inj e; exact h
    | _ => exact nomatch e
def val4 (kvs : List (Key × Vl)) (k : Key) : Option Vl := (kvs.find? fun kv => decide (kv.1 = k)).map (·.2)
def putK4 (kvs : List (Key × Vl)) (k : Key) (x : Vl) : List (Key × Vl) := if (kvs.any fun kv => decide (kv.1 = k)) = true then kvs.map (fun kv => if kv.1 = k then (kv.1, x) else kv) else kvs ++ [(k, x)]
theorem rk_val {F : Hp} {K : PySem.W.Frag} {k : Key} : ∀ {kvs : List (Key × Vl)} {ws : List (Key × V)}, RK K F kvs ws → (val4 kvs k = none → valV ws k = none) ∧ ∀ x, val4 kvs k = some x → ∃ v, valV ws k = some v ∧ RV K F x v
  | [], ws, r => by
    rw [show ws = [] from r]
    exact ⟨fun _ => rfl, fun x e => nomatch e⟩
  | (g, y) :: kvs, ws, r => by
    obtain ⟨u, t, rfl, q, z⟩ := r
    obtain ⟨i1, i2⟩ := rk_val (k := k) z
    by_cases c : g = k
    · have e1 : val4 ((g, y) :: kvs) k = some y := by simp [val4, List.find?_cons, c]
      rw [e1, valV_pos (p := (g, u)) c]
      exact ⟨(fun e => nomatch e), fun x e => ⟨u, rfl, by obtain rfl := Option.some.inj e; exact q⟩⟩
    · have e1 : val4 ((g, y) :: kvs) k = val4 kvs k := by simp [val4, List.find?_cons, c]
      rw [e1, valV_neg (p := (g, u)) c]
      exact ⟨i1, i2⟩
theorem rk_putK {F : Hp} {K : PySem.W.Frag} {k : Key} {x : Vl} {v : V} (h : RV K F x v) {kvs : List (Key × Vl)} {ws : List (Key × V)} (r : RK K F kvs ws) : RK K F (putK4 kvs k x) (putK ws k v) := by
  have any_eq : ∀ {kvs : List (Key × Vl)} {ws : List (Key × V)}, RK K F kvs ws → (kvs.any fun kv => decide (kv.1 = k)) = ws.any fun kv => decide (kv.1 = k) := by
    intro kvs
    induction kvs with
    | nil => intro ws r; rw [show ws = [] from r]; rfl
    | cons p kvs ih =>
      intro ws r
      obtain ⟨u, t, rfl, q, z⟩ := r
      rw [List.any_cons, List.any_cons, ih z]
  have map_eq : ∀ {kvs : List (Key × Vl)} {ws : List (Key × V)}, RK K F kvs ws → RK K F (kvs.map fun kv => if kv.1 = k then (kv.1, x) else kv) (ws.map fun kv => if kv.1 = k then (kv.1, v) else kv) := by
    intro kvs
    induction kvs with
    | nil => intro ws r; rw [show ws = [] from r]; rfl
    | cons p kvs ih =>
      intro ws r
      obtain ⟨u, t, rfl, q, z⟩ := r
      rw [List.map_cons, List.map_cons]
      by_cases c : p.1 = k
      · rw [if_pos c, if_pos c]
        exact ⟨v, _, rfl, h, ih z⟩
      · rw [if_neg c, if_neg c]
        exact ⟨u, _, rfl, q, ih z⟩
  have app_eq : ∀ {kvs : List (Key × Vl)} {ws : List (Key × V)}, RK K F kvs ws → RK K F (kvs ++ [(k, x)]) (ws ++ [(k, v)]) := by
    intro kvs
    induction kvs with
    | nil => intro ws r; rw [show ws = [] from r]; exact ⟨v, [], rfl, h, rfl⟩
    | cons p kvs ih =>
      intro ws r
      obtain ⟨u, t, rfl, q, z⟩ := r
      exact ⟨u, _, rfl, q, ih z⟩
  unfold putK4 putK
  rw [any_eq r]
  split
  · exact map_eq r
  · exact app_eq r
def sDPut4 (pd pk pv : QE4) : QS4 := fun P ρ μ => pv ρ μ fun x μ1 => pd ρ μ1 fun o μ2 => pk ρ μ2 fun y μ3 => ∃ a kvs k, o = .loc a ∧ μ3 a = some (.dic kvs) ∧ keyOf y = some k ∧ kvs.length < sizeLine ∧ P.nx ρ (updM μ3 a (.dic (putK4 kvs k x)))
theorem s_dput {td tk tv : TE} {pd pk pv : QE4} (h0 : E4 X td pd) (h1 : E4 X tk pk) (h2 : E4 X tv pv) : S4 X W (sDPut td tk tv) (sDPut4 pd pk pv) := by
  intro c hX σ F H μ ρ D P R a0 ax hp
  refine h2 c hX σ F H μ ρ _ _ R ?_ hp
  intro x v F1 H1 μ1 R1 s1 rv q1
  refine h0 c hX σ F1 H1 μ1 ρ _ _ R1 ?_ q1
  intro o u F2 H2 μ2 R2 s2 ru q2
  refine h1 c hX σ F2 H2 μ2 ρ _ _ R2 ?_ q2
  rintro y w F3 H3 μ3 R3 s3 rw3 ⟨a, kvs, k, rfl, em, ek, el, q⟩
  obtain rfl : u = .ref a := ru
  obtain rfl := keyOf_at ek rw3
  obtain ⟨hF, ws, ea, rk⟩ := R3.mu a _ em
  refine ⟨a, _, rfl, DPut.k ea (by rw [rk_len rk]; exact el), ?_⟩
  exact a0.nx σ F3 _ _ ρ (R3.mut (m' := .dic (putK4 kvs k x)) em trivial ⟨_, upd_same, rk_putK ((rv.mono s2).mono s3) rk⟩) (tr (tr s1 s2) s3) q
end
end L4
namespace L4
open PySem PySem.Spec PyProof.Rows L2 TB LamX L3
/-- a mutable thing is wanted -/
def tMu (t : TE) : TE := t
theorem toMu {Y : Cx} {e : Expr} {t : TE} (h : PE Y e t) : PE Y e (tMu t) := h
/-- data as it stands -/
def rd4 (μ : Mu) : Vl → Option D
  | .d d => some d
  | .loc a => match μ a with
    | some (.lst vs) => (allD vs).map .lst
    | _ => none
  | .tup _ => none
def rdL4 (μ : Mu) : List Vl → Option (List D)
  | [] => some []
  | x :: xs => match rd4 μ x, rdL4 μ xs with
    | some d, some ds => some (d :: ds)
    | _, _ => none
section
variable {X : Sx} {K : PySem.W.Frag} {W : WX}
section
variable {c : C4} {F F' H H' : Hp} {μ : Mu} {σ : L2.St} {ρ : PS}
theorem rd4_rn (R : R4 c F H μ σ ρ) {x : Vl} {v : V} {d : D} (h : RV c.K F x v) (e : rd4 μ x = some d) : Rn c.K F H d v := by
  cases x with
  | d d0 =>
    obtain rfl : d0 = d := Option.some.inj e
    exact Rn.of R.sub h
  | tup xs => exact nomatch (show (none : Option D) = some d from e)
  | loc a =>
    obtain rfl : v = .ref a := h
    have e2 : (match μ a with | some (.lst vs) => (allD vs).map D.lst | _ => none) = some d := e
    cases q : μ a with
    | none => rw [q] at e2; exact nomatch e2
    | some m =>
      rw [q] at e2
      cases m with
      | lst us =>
        obtain ⟨ds, e3, rfl⟩ := Option.map_eq_some_iff.mp e2
        obtain ⟨_, ws, ea, r⟩ := R.mu a _ q
        rw [allD_is e3] at r
        exact ⟨a, ws, rfl, ea, RVs.data r⟩
      | dic _ => exact nomatch e2
      | dicT _ => exact nomatch e2
      | ins _ _ _ => exact nomatch e2
theorem rdL4_rn (R : R4 c F H μ σ ρ) : ∀ {xs : List Vl} {vs : List V} {ds : List D}, RVs c.K F xs vs → rdL4 μ xs = some ds → RnL c.K F H ds vs
  | [], vs, ds, h, e => by
    obtain rfl : [] = ds := Option.some.inj e
    exact h
  | x :: xs, vs, ds, h, e => by
    obtain ⟨v, r, rfl, q, t⟩ := h
    have e2 : (match rd4 μ x, rdL4 μ xs with | some d, some ds => some (d :: ds) | _, _ => none) = some ds := e
    cases e3 : rd4 μ x with
    | none => rw [e3] at e2; exact nomatch e2
    | some d =>
      cases e4 : rdL4 μ xs with
      | none => rw [e3, e4] at e2; exact nomatch e2
      | some es =>
        rw [e3, e4] at e2
        obtain rfl := Option.some.inj e2
        exact ⟨v, r, rfl, rd4_rn R q e3, rdL4_rn R t e4⟩
theorem allD_rp {xs : List Vl} {vs : List V} {ds : List D} (h : RVs c.K F xs vs) (e : allD xs = some ds) : RpL c.K F ds vs := by
  rw [allD_is e] at h
  exact RVs.data h
end
def qOp4 (o : O2) (pa pb : QE4) : QE4 := fun ρ μ Q => pa ρ μ fun x μ1 => pb ρ μ1 fun y μ2 => some2 (fun dx dy => o dx dy fun d => Q (.d d) μ2) (rd4 μ2 x) (rd4 μ2 y)
theorem e_op {r : R2} {o : O2} {ta tb : TE} {pa pb : QE4} (hr : LiR X r o) (h1 : E4 X ta pa) (h2 : E4 X tb pb) : E4 X (tOp r ta tb) (qOp4 o pa pb) := by
  intro c hX σ F H μ ρ Q Q4 R hq hp
  refine h1 c hX σ F H μ ρ _ _ R ?_ hp
  intro x v F1 H1 μ1 R1 s1 rv q1
  refine h2 c hX σ F1 H1 μ1 ρ _ _ R1 ?_ q1
  intro y w F2 H2 μ2 R2 s2 rw2 q2
  cases e1 : rd4 μ2 x with
  | none => rw [e1] at q2; exact q2.elim
  | some dx =>
    cases e2 : rd4 μ2 y with
    | none => rw [e1, e2] at q2; exact q2.elim
    | some dy =>
      rw [e1, e2] at q2
      exact hr (c.c3 F2 H2) hX σ F2 H2 (view ρ) v w dx dy Q _ R2.rel (rd4_rn R2 (rv.mono s2) e1) (rd4_rn R2 rw2 e2) (fun d u F' H' R' s r q => hq (.d d) u F' H' μ2 (R2.back R') (tr (tr s1 s2) s) r q) q2
def qOpK (o : O2N) (pa pb : QE4) : QE4 := fun ρ μ Q => pa ρ μ fun x μ1 => pb ρ μ1 fun y μ2 => some2 (fun dx dy => o dx dy fun ds => Q (.d (.lst ds)) μ2) (rd4 μ2 x) (rd4 μ2 y)
theorem e_opK {r : R2} {o : O2N} {ta tb : TE} {pa pb : QE4} (hr : LiRN X r o) (h1 : E4 X ta pa) (h2 : E4 X tb pb) : E4 X (tOp r ta tb) (qOpK o pa pb) := by
  intro c hX σ F H μ ρ Q Q4 R hq hp
  refine h1 c hX σ F H μ ρ _ _ R ?_ hp
  intro x v F1 H1 μ1 R1 s1 rv q1
  refine h2 c hX σ F1 H1 μ1 ρ _ _ R1 ?_ q1
  intro y w F2 H2 μ2 R2 s2 rw2 q2
  cases e1 : rd4 μ2 x with
  | none => rw [e1] at q2; exact q2.elim
  | some dx =>
    cases e2 : rd4 μ2 y with
    | none => rw [e1, e2] at q2; exact q2.elim
    | some dy =>
      rw [e1, e2] at q2
      refine hr (c.c3 F2 H2) hX σ F2 H2 (view ρ) v w dx dy Q _ R2.rel (rd4_rn R2 (rv.mono s2) e1) (rd4_rn R2 rw2 e2) (fun ds p F' H' R' s n q => ?_) q2
      obtain ⟨vs, R3, s3, rp⟩ := n.keep R'
      exact hq (.d (.lst ds)) (.ref p) _ H' μ2 (R2.back R3) (tr (tr (tr s1 s2) s) s3) rp q
/-- a new list, told as one that may be changed -/
theorem R4.newL {c : C4} {F H F' H' : Hp} {μ : Mu} {σ : L2.St} {ρ : PS} {ρ' : PSt} {p : Addr} {ds : List D} (R : R4 c F H μ σ ρ) (R' : Rel (c.c3 F H) F' H' σ ρ') (n : NewL (c.c3 F H) F' H' σ ρ' p ds) : R4 c F' H' (updM μ p (.lst (ds.map Vl.d))) σ ρ ∧ μ p = none := by
  have R2 := R.back R'
  obtain ⟨ws, hp2, hr⟩ := n.l
  have hn : H p = none := n.b.elim id (fun z => nomatch z.1)
  exact ⟨R2.own (m := .lst (ds.map Vl.d)) n.f ⟨ws, hp2, RVs.ofData hr⟩ (Or.inr (R.dom p hn)), R.mnone hn⟩
def qUn4 (o : O1) (pa : QE4) : QE4 := fun ρ μ Q => pa ρ μ fun x μ1 => some1 (fun dx => o dx fun d => Q (.d d) μ1) (rd4 μ1 x)
theorem e_un {r : V → Hp → VK → Prop} {o : O1} {ta : TE} {pa : QE4} (hr : LiU X r o) (h1 : E4 X ta pa) : E4 X (tUn r ta) (qUn4 o pa) := by
  intro c hX σ F H μ ρ Q Q4 R hq hp
  refine h1 c hX σ F H μ ρ _ _ R ?_ hp
  intro x v F1 H1 μ1 R1 s1 rv q1
  cases e1 : rd4 μ1 x with
  | none => rw [e1] at q1; exact q1.elim
  | some dx =>
    rw [e1] at q1
    exact hr (c.c3 F1 H1) hX σ F1 H1 (view ρ) v dx Q _ R1.rel (rd4_rn R1 rv e1) (fun d u F' H' R' s r q => hq (.d d) u F' H' μ1 (R1.back R') (tr s1 s) r q) q1
def qCB4 (o : OL) (pa : QA4) : QE4 := fun ρ μ Q => pa ρ μ fun xs μ1 => some1 (fun ds => o ds fun d => Q (.d d) μ1) (rdL4 μ1 xs)
theorem e_cb {r : List V → Hp → VK → Prop} {o : OL} {ta : TA} {pa : QA4} (hr : LiC X r o) (h1 : A4 X ta pa) : E4 X (tCB r ta) (qCB4 o pa) := by
  intro c hX σ F H μ ρ Q Q4 R hq hp
  refine h1 c hX σ F H μ ρ _ _ R ?_ hp
  intro xs vs F1 H1 μ1 R1 s1 rv q1
  cases e1 : rdL4 μ1 xs with
  | none => rw [e1] at q1; exact q1.elim
  | some ds =>
    rw [e1] at q1
    exact hr (c.c3 F1 H1) hX σ F1 H1 (view ρ) vs ds Q _ R1.rel (rdL4_rn R1 rv e1) (fun d u F' H' R' s r q => hq (.d d) u F' H' μ1 (R1.back R') (tr s1 s) r q) q1
def qCBK (o : OLN) (pa : QA4) : QE4 := fun ρ μ Q => pa ρ μ fun xs μ1 => some1 (fun ds => o ds fun es => Q (.d (.lst es)) μ1) (rdL4 μ1 xs)
theorem e_cbK {r : List V → Hp → VK → Prop} {o : OLN} {ta : TA} {pa : QA4} (hr : LiCN X r o) (h1 : A4 X ta pa) : E4 X (tCB r ta) (qCBK o pa) := by
  intro c hX σ F H μ ρ Q Q4 R hq hp
  refine h1 c hX σ F H μ ρ _ _ R ?_ hp
  intro xs vs F1 H1 μ1 R1 s1 rv q1
  cases e1 : rdL4 μ1 xs with
  | none => rw [e1] at q1; exact q1.elim
  | some ds =>
    rw [e1] at q1
    refine hr (c.c3 F1 H1) hX σ F1 H1 (view ρ) vs ds Q _ R1.rel (rdL4_rn R1 rv e1) (fun es p F' H' R' s n q => ?_) q1
    obtain ⟨us, R3, s3, rp⟩ := n.keep R'
    exact hq (.d (.lst es)) (.ref p) _ H' μ1 (R1.back R3) (tr (tr s1 s) s3) rp q
def qCBM (o : OLN) (pa : QA4) : QE4 := fun ρ μ Q => pa ρ μ fun xs μ1 => some1 (fun ds => o ds fun es => ∀ p, μ1 p = none → Q (.loc p) (updM μ1 p (.lst (es.map Vl.d)))) (rdL4 μ1 xs)
theorem e_cbM {r : List V → Hp → VK → Prop} {o : OLN} {ta : TA} {pa : QA4} (hr : LiCN X r o) (h1 : A4 X ta pa) : E4 X (tMu (tCB r ta)) (qCBM o pa) := by
  intro c hX σ F H μ ρ Q Q4 R hq hp
  refine h1 c hX σ F H μ ρ _ _ R ?_ hp
  intro xs vs F1 H1 μ1 R1 s1 rv q1
  cases e1 : rdL4 μ1 xs with
  | none => rw [e1] at q1; exact q1.elim
  | some ds =>
    rw [e1] at q1
    refine hr (c.c3 F1 H1) hX σ F1 H1 (view ρ) vs ds Q _ R1.rel (rdL4_rn R1 rv e1) (fun es p F' H' R' s n q => ?_) q1
    obtain ⟨R3, hn⟩ := R1.newL R' n
    exact hq (.loc p) (.ref p) F' H' _ R3 (tr s1 s) rfl (q p hn)
def qLstK (pa : QA4) : QE4 := fun ρ μ Q => pa ρ μ fun xs μ' => ∃ ds, allD xs = some ds ∧ ds.length ≤ sizeLine ∧ Q (.d (.lst ds)) μ'
theorem allD_len : ∀ {xs : List Vl} {ds : List D}, allD xs = some ds → ds.length = xs.length
  | xs, ds, h => by rw [allD_is h, List.length_map]
theorem e_lstK {ta : TA} {pa : QA4} (h : A4 X ta pa) : E4 X (tLst ta) (qLstK pa) := by
  intro c hX σ F H μ ρ Q Q4 R hq hp
  refine h c hX σ F H μ ρ _ _ R ?_ hp
  rintro xs vs F' H' μ' R' s r ⟨ds, e, z, q⟩
  have rp := allD_rp r e
  refine ⟨by rw [rp.len]; exact z, fun p np => ?_⟩
  have s2 : Same F' (upd F' p (.lst vs)) := fun _ _ e => old_upd (R'.fnone np) e
  exact hq (.d (.lst ds)) (.ref p) _ _ μ' (R'.alloc np trivial) (tr s s2) ⟨p, vs, rfl, upd_same, rp.mono s2⟩ q
theorem e_lstM {ta : TA} {pa : QA4} (h : A4 X ta pa) : E4 X (tMu (tLst ta)) (qLst4 pa) := e_lst h
def qDicK : QE4 := fun ρ μ Q => Q (.d (.dic [] [])) μ
theorem e_dicK : E4 X tDNewK qDicK := by
  intro c hX σ F H μ ρ Q Q4 R hq hp p np
  have s2 : Same F (upd F p (.dK [])) := fun _ _ e => old_upd (R.fnone np) e
  exact hq (.d (.dic [] [])) (.ref p) _ _ μ (R.alloc np trivial) s2 ⟨p, [], rfl, upd_same, rfl⟩ hp
theorem e_dicM : E4 X (tMu tDNewK) qDic4 := e_dic
def qC4 (v : V) : QE4 := fun ρ μ Q => some1 (fun d => Q (.d d) μ) (vD v)
theorem e_c {v : V} : E4 X (tC v) (qC4 v) := by
  intro c hX σ F H μ ρ Q Q4 R hq h
  match v, h with
  | .non, h => exact hq (.d .non) _ F H μ R (L3.Same.refl F) rfl h
  | .bl b, h => exact hq (.d (.bl b)) _ F H μ R (L3.Same.refl F) rfl h
  | .int b, h => exact hq (.d (.int b)) _ F H μ R (L3.Same.refl F) rfl h
  | .str b, h => exact hq (.d (.str b)) _ F H μ R (L3.Same.refl F) rfl h
  | .ty b, h => exact hq (.d (.ty b)) _ F H μ R (L3.Same.refl F) rfl h
  | .byt _, h => exact h.elim
  | .flt _, h => exact h.elim
  | .ref _, h => exact h.elim
def rs4 (μ : Mu) (Q : Vl → Mu → Prop) : Rs → Prop
  | .val d => Q (.d d) μ
  | .new es => Q (.d (.lst es)) μ
theorem entry4 {c : C4} {F H : Hp} {μ : Mu} {σ : L2.St} {ρ : PS} (R : R4 c F H μ σ ρ) {vs : List V} {ds : List D} (r : RpL c.K F ds vs) : Entry c.X none F H vs ds :=
  ⟨R.sub, R.nt, R.tab, R.tabF, r.len, fun j d v e1 e2 _ => by
    obtain ⟨u, e3, q⟩ := r.get' e1
    rw [e2] at e3
    obtain rfl := Option.some.inj e3
    exact q, fun j z => nomatch z⟩
def qCall3 (P : PSp) (pa : QA4) : QE4 := fun ρ μ Q => pa ρ μ fun xs μ1 => some1 (fun ds => P ds fun r _ => rs4 μ1 Q r) (allD xs)
theorem e_call3 {P : PSp} {ta : TA} {pa : QA4} {E : XK} (h : A4 X ta pa) : E4 X (tCall (lsp X none P) [] E ta) (qCall3 P pa) := by
  intro c hX σ F H μ ρ Q Q4 R hq hp
  subst hX
  refine h c rfl σ F H μ ρ _ _ R ?_ hp
  intro xs vs F1 H1 μ1 R1 s1 rv q1
  rw [List.append_nil]
  cases e : allD xs with
  | none => rw [e] at q1; exact q1.elim
  | some ds =>
    rw [e] at q1
    have q1 : P ds fun r _ => rs4 μ1 Q4 r := q1
    refine ⟨F1, ds, _, entry4 R1 (allD_rp rv e), q1, ?_⟩
    intro r out v F2 H2 ex q
    have R2 : Rel (c.c3 F1 H1) F2 H2 [] [] := ex.step
    match r, ex.res, q with
    | .val d, rp, q => exact hq (.d d) v F2 H2 μ1 (R1.back R2) (tr s1 R2.fr) rp q
    | .new es, ⟨p, ws, e1, f, hn, hp2, hr⟩, q =>
      subst e1
      have n : NewL (c.c3 F1 H1) F2 H2 [] [] p es := ⟨⟨ws, hp2, hr⟩, f, hn, Or.inl hn, fun i f2 ds2 z => by simp at z⟩
      obtain ⟨us, R3, s3, rp⟩ := n.keep R2
      exact hq (.d (.lst es)) (.ref p) _ H2 μ1 (R1.back R3) (tr (tr s1 R2.fr) s3) rp q
end
end L4
namespace L4
open PySem PySem.Spec PyProof.Rows L2 TB LamX L3
section
variable {X : Sx} {K : PySem.W.Frag} {W : WX}
def zipK : List Str → List D → List (Str × Vl)
  | n :: ns, d :: ds => (n, .d d) :: zipK ns ds
  | _, _ => []
def insOf (μ : Mu) : Vl → Option (Addr × List (Str × Vl))
  | .d (.ins C ns ds) => some (C, zipK ns ds)
  | .loc a => match μ a with
    | some (.ins C _ fs) => some (C, fs)
    | _ => none
  | _ => none
theorem zipK_rk {K : PySem.W.Frag} {F : Hp} : ∀ {ns : List Str} {ds : List D} {vs : List V}, RpL K F ds vs → RK K F (zipK ns ds) (ns.zip vs)
  | [], ds, vs, h => by cases ds <;> exact rfl
  | n :: ns, [], vs, h => by
    have e : vs = [] := h
    rw [e]
    exact rfl
  | n :: ns, d :: ds, vs, h => by
    obtain ⟨v, r, rfl, q, t⟩ := h
    exact ⟨v, ns.zip r, rfl, q, zipK_rk t⟩
theorem insOf_at {c : C4} {F H : Hp} {μ : Mu} {σ : L2.St} {ρ : PS} (R : R4 c F H μ σ ρ) {x : Vl} {C : Addr} {fs : List (Str × Vl)} {v : V} (e : insOf μ x = some (C, fs)) (h : RV c.K F x v) : ∃ a dx gs, v = .ref a ∧ H a = some (.ins C dx gs) ∧ RK c.K F fs gs := by
  cases x with
  | tup xs => exact nomatch (show (none : Option (Addr × List (Str × Vl))) = some (C, fs) from e)
  | loc a =>
    have e2 : (match μ a with | some (.ins C _ fs) => some (C, fs) | _ => none) = some (C, fs) := e
    cases q : μ a with
    | none => rw [q] at e2; exact nomatch e2
    | some m =>
      rw [q] at e2
      cases m with
      | ins C2 dx fs2 =>
        injection e2 with e2
        injection e2 with e3 e4
        subst e3 e4
        obtain ⟨_, gs, ea, _, rk⟩ := R.mu a _ q
        exact ⟨a, dx, gs, h, ea, rk⟩
      | lst _ => exact nomatch e2
      | dic _ => exact nomatch e2
      | dicT _ => exact nomatch e2
  | d d =>
    cases d with
    | ins C2 ns ds =>
      have e2 : some (C2, zipK ns ds) = some (C, fs) := e
      injection e2 with e2
      injection e2 with e3 e4
      subst e3 e4
      obtain ⟨a, dx, vs, rfl, q, _, r⟩ := h
      exact ⟨a, dx, _, rfl, R.sub _ _ q, zipK_rk r⟩
    | _ => exact nomatch e
def qFldA (K : PySem.W.Frag) (f : Str) (pe : QE4) : QE4 := fun ρ μ Q => pe ρ μ fun x μ1 => ∃ C fs y, insOf μ1 x = some (C, fs) ∧ Cls K C ∧ NoAttr K C f ∧ fs.lookup f = some y ∧ Q y μ1
theorem e_fldA {f : Str} {te : TE} {pe : QE4} (h0 : E4 X te pe) : E4 X (tFld K te f) (qFldA K f pe) := by
  intro c hX σ F H μ ρ Q Q4 R hq hp
  refine h0 c hX σ F H μ ρ _ _ R ?_ hp
  rintro x v F1 H1 μ1 R1 s1 rv ⟨C, fs, y, e, c1, c2, el, q⟩
  obtain ⟨a, dx, gs, rfl, ea, rk⟩ := insOf_at R1 e rv
  obtain ⟨u, e2, ru⟩ := rk_some rk el
  exact ⟨a, C, dx, gs, u, rfl, ea, c1, c2, e2, hq y u F1 H1 μ1 R1 s1 ru q⟩
/-- d is an instance of C without an own m -/
def InsD (K : PySem.W.Frag) (C : Addr) (m : Str) (d : D) : Prop := ∀ F v, Rp K F d v → ∃ a dx fs, v = .ref a ∧ F a = some (.ins C dx fs) ∧ fs.lookup m = none
theorem look_none {m : Str} : ∀ {ns : List Str} {vs : List V}, m ∉ ns → (ns.zip vs).lookup m = none
  | [], vs, _ => rfl
  | n :: ns, [], _ => rfl
  | n :: ns, v :: vs, h => by
    rw [List.zip_cons_cons, List.lookup_cons]
    cases c : (m == n) with
    | true => exact absurd (beq_iff_eq.mp c) (fun e => h (by rw [e]; exact List.mem_cons_self))
    | false => exact look_none (fun z => h (List.mem_cons_of_mem _ z))
theorem InsD.ins {C : Addr} {m : Str} {ns : List Str} {ds : List D} (h : m ∉ ns) : InsD K C m (.ins C ns ds) := by
  rintro F v ⟨a, dx, vs, rfl, q, _, r⟩
  exact ⟨a, dx, _, rfl, q, look_none h⟩
def qMeth3 (K : PySem.W.Frag) (C : Addr) (m : Str) (P : PSp) (pe : QE4) (pa : QA4) : QE4 := fun ρ μ Q => pe ρ μ fun x μ1 => ∃ d, x = .d d ∧ InsD K C m d ∧ pa ρ μ1 fun xs μ2 => some1 (fun ds => P (d :: ds) fun r _ => rs4 μ2 Q r) (allD xs)
theorem e_meth3 {C : Addr} {m : Str} {P : PSp} {te : TE} {ta : TA} {pe : QE4} {pa : QA4} {E : XK} (h0 : E4 X te pe) (h : A4 X ta pa) (hK : X.K = K := by rfl) : E4 X (tMeth C m (lsp X none P) [] E te ta) (qMeth3 K C m P pe pa) := by
  subst hK
  intro c hX σ F H μ ρ Q Q4 R hq hp
  subst hX
  refine h0 c rfl σ F H μ ρ _ _ R ?_ hp
  rintro x v F1 H1 μ1 R1 s1 rv ⟨d, rfl, hd, q1⟩
  have rv : Rp c.K F1 d v := rv
  obtain ⟨a, dx, fs, rfl, ea, el⟩ := hd F1 v rv
  refine ⟨a, dx, fs, rfl, R1.sub _ _ ea, el, ?_⟩
  refine h c rfl σ F1 H1 μ1 ρ _ _ R1 ?_ q1
  intro xs vs F2 H2 μ2 R2 s2 rv2 q2
  rw [List.append_nil]
  cases e : allD xs with
  | none => rw [e] at q2; exact q2.elim
  | some ds =>
    rw [e] at q2
    have q2 : P (d :: ds) fun r _ => rs4 μ2 Q4 r := q2
    have r2 : RpL c.K F2 (d :: ds) (V.ref a :: vs) := ⟨_, _, rfl, Rp.mono s2 rv, allD_rp rv2 e⟩
    refine ⟨F2, d :: ds, _, entry4 R2 r2, q2, ?_⟩
    intro r out v F3 H3 ex q
    have R3 : Rel (c.c3 F2 H2) F3 H3 [] [] := ex.step
    have s3 : Same F F2 := tr s1 s2
    match r, ex.res, q with
    | .val d, rp, q => exact hq (.d d) v F3 H3 μ2 (R2.back R3) (tr s3 R3.fr) rp q
    | .new es, ⟨p, ws, e1, f, hn, hp2, hr⟩, q =>
      subst e1
      have n : NewL (c.c3 F2 H2) F3 H3 [] [] p es := ⟨⟨ws, hp2, hr⟩, f, hn, Or.inl hn, fun i f2 ds2 z => by simp at z⟩
      obtain ⟨us, R4', s4, rp⟩ := n.keep R3
      exact hq (.d (.lst es)) (.ref p) _ H3 μ2 (R2.back R4') (tr (tr s3 R3.fr) s4) rp q
def qCallIo4 (j : Nat) (P : PSp) (pa : QA4) : QE4 := fun ρ μ Q => pa ρ μ fun xs μ1 => ∃ (a : Addr) (es : List D) (ds : List D), xs[j]? = some (.loc a) ∧ μ1 a = some (.lst (es.map Vl.d)) ∧ allD (xs.set j (.d (.lst es))) = some ds ∧ P ds fun r out => ∃ d os, r = .val d ∧ out = some os ∧ Q (.d d) (updM μ1 a (.lst (os.map Vl.d)))
theorem allD_get {xs : List Vl} {ds : List D} (h : allD xs = some ds) {j : Nat} {d : D} (e : ds[j]? = some d) : xs[j]? = some (.d d) := by
  rw [allD_is h, List.getElem?_map, e]
  rfl
theorem e_callIo {j : Nat} {P : PSp} {ta : TA} {pa : QA4} {E : XK} (h : A4 X ta pa) : E4 X (tCall (lsp X (some j) P) [] E ta) (qCallIo4 j P pa) := by
  intro c hX σ F H μ ρ Q Q4 R hq hp
  subst hX
  refine h c rfl σ F H μ ρ _ _ R ?_ hp
  rintro xs vs F1 H1 μ1 R1 s1 rv ⟨a, es, ds, ex, em, ed, q1⟩
  rw [List.append_nil]
  obtain ⟨hF, ws, ea, rw1⟩ := R1.mu a _ em
  have rw2 : RpL c.K F1 es ws := RVs.data rw1
  obtain ⟨va, ev, rva⟩ := rv.get' ex
  obtain rfl : va = .ref a := rva
  have hj : j < xs.length := (List.getElem?_eq_some_iff.mp ex).1
  have dj : ds[j]? = some (.lst es) := by
    have hl := allD_len ed
    rw [List.length_set] at hl
    have h2 : ds[j]? = some ds[j] := List.getElem?_eq_getElem (by omega)
    have h3 := allD_get ed h2
    rw [List.getElem?_set_self hj] at h3
    rw [h2]
    injection h3 with h3
    injection h3 with h3
    rw [← h3]
  have en : Entry c.X (some j) F1 H1 vs ds := by
    refine ⟨R1.sub, R1.nt, R1.tab, R1.tabF, ?_, fun k d v e1 e2 ne => ?_, fun k e => ?_⟩
    · have hl := allD_len ed
      rw [List.length_set] at hl
      rw [rv.len, hl]
    · have h3 := allD_get ed e1
      rw [List.getElem?_set_ne (fun z => ne (by rw [z]))] at h3
      obtain ⟨u, e3, q⟩ := rv.get' h3
      rw [e2] at e3
      obtain rfl := Option.some.inj e3
      exact q
    · obtain rfl := Option.some.inj e
      exact ⟨a, ws, es, ev, dj, hF, ea, rw2⟩
  refine ⟨F1, ds, _, en, q1, ?_⟩
  rintro r out v F2 H2 ex2 ⟨d, os, rfl, rfl, q⟩
  obtain ⟨os2, us, eo, ho, ro⟩ := ex2.out j a rfl ev
  obtain rfl := Option.some.inj eo
  have st := ex2.step
  have hB : ioB (some j) vs = [a] := by unfold ioB; simp only [ev]
  have kp : ∀ b o, H1 b = some o → (∀ ps, o ≠ .tbl ps) → b ≠ a → H2 b = some o := fun b o e n ne => st.kp b o e (by rw [hB]; simpa using ne) (R1.notab e n)
  have fa : F2 a = none := by
    cases q2 : F2 a with
    | none => rfl
    | some u =>
      rcases st.nw a u q2 with z | z | ⟨_, z⟩ | z
      · have z2 : F1 a = some u := z
        rw [hF] at z2; exact nomatch z2
      · have z2 : H1 a = none := z
        rw [ea] at z2; exact nomatch z2
      · have z2 : H1 a = none := z
        rw [ea] at z2; exact nomatch z2
      · have z2 := st.sub _ _ q2
        rw [ho] at z2
        obtain rfl := Option.some.inj z2
        exact z.elim
  have R2 : R4 c F2 H2 (updM μ1 a (.lst (os.map Vl.d))) σ ρ := by
    refine ⟨R1.len, st.sub, fun i x e => ?_, fun b m e => ?_, fun b m e => ?_, st.nt, st.tab, st.tabF, tr R1.fr st.fr, fun b o e n t => ?_, fun b e => R1.dom b (st.dom b e), fun b o e => ?_⟩
    · obtain ⟨v, e1, q⟩ := R1.slot i x e
      exact ⟨v, e1, q.mono st.fr⟩
    · by_cases z : b = a
      · subst z
        rw [updM_same] at e
        obtain rfl := Option.some.inj e
        exact ⟨fa, us, ho, RVs.ofData ro⟩
      · rw [updM_ne z] at e
        obtain ⟨f, mo⟩ := R1.mu b m e
        obtain ⟨o, eo, mto⟩ := mo.at
        have ntb : ∀ ps, o ≠ .tbl ps := fun ps z => by rw [z] at mto; exact mto
        have eo2 : H2 b = some o := kp b o eo ntb z
        refine ⟨?_, mo.keep st.fr fun b2 u e2 hb => ?_⟩
        · cases q2 : F2 b with
          | none => rfl
          | some u =>
            rcases st.nw b u q2 with z | z | ⟨_, z⟩ | z
            · have z2 : F1 b = some u := z
              rw [f] at z2; exact nomatch z2
            · have z2 : H1 b = none := z
              rw [eo] at z2; exact nomatch z2
            · have z2 : H1 b = none := z
              rw [eo] at z2; exact nomatch z2
            · have z2 := st.sub _ _ q2
              rw [eo2] at z2
              obtain rfl := Option.some.inj z2
              cases o <;> first | exact mto.elim | exact z.elim
        · rcases hb with rfl | hb
          · rw [eo] at e2
            obtain rfl := Option.some.inj e2
            exact eo2
          · refine kp b2 u e2 (fun ps z => by rw [hb] at z; exact nomatch z) fun z2 => ?_
            rw [z2, ea] at e2
            rw [hb] at e2
            exact nomatch e2
    · by_cases z : b = a
      · rw [z]; exact R1.mf a _ em
      · rw [updM_ne z] at e
        exact R1.mf b m e
    · refine st.kp b o (R1.kp b o e n t) ?_ t
      rw [hB]
      intro z
      rw [List.mem_singleton] at z
      rw [z] at e n
      rcases R1.mf a _ em with y | y
      · exact y n
      · rw [y] at e; exact nomatch e
    · rcases st.nw b o e with z | z | ⟨_, z⟩ | z
      · exact R1.nw b o z
      · exact Or.inr (Or.inl (R1.dom b z))
      · exact Or.inr (Or.inl (R1.dom b z))
      · exact Or.inr (Or.inr (Or.inr z))
  exact hq (.d d) v F2 H2 _ R2 (tr s1 st.fr) ex2.res q
end
end L4
namespace L4
open PySem PySem.Spec PyProof.Rows L2 TB LamX L3
section
variable {X : Sx} {K : PySem.W.Frag} {W : WX}
theorem R4.inst {c : C4} {F H : Hp} {μ : Mu} {σ : L2.St} {ρ : PS} (R : R4 c F H μ σ ρ) {x dx C : Addr} (nx : H x = none) (ndx : H dx = none) (ne : dx ≠ x) : R4 c F (upd (upd H dx (.own x)) x (.ins C dx [])) (updM μ x (.ins C dx [])) σ ρ := by
  have R1 := R.allocH (o := .own x) ndx trivial
  have nx1 : upd H dx (.own x) x = none := by rw [upd_ne (fun z => ne z.symm)]; exact nx
  exact R1.newM (m := .ins C dx []) nx1 trivial ⟨[], upd_same, by rw [upd_ne ne]; exact upd_same, rfl⟩
/-- what defaults are -/
def DvOk (K : PySem.W.Frag) (dv : List D) (dvs : List V) : Prop := ∀ F, RpL K F dv dvs
theorem DvOk.nil : DvOk K [] [] := fun _ => rfl
theorem DvOk.non : DvOk K [.non] [.non] := fun _ => ⟨_, _, rfl, rfl, rfl⟩
theorem rk_dataS {K : PySem.W.Frag} {F : Hp} : ∀ {kvs : List (Str × Vl)} {ws : List (Str × V)} {ds : List D}, RK K F kvs ws → allD (kvs.map (·.2)) = some ds → ∃ vs, ws = (kvs.map (·.1)).zip vs ∧ RpL K F ds vs
  | [], ws, ds, h, e => by
    obtain rfl : [] = ds := Option.some.inj e
    exact ⟨[], h, rfl⟩
  | (k, x) :: kvs, ws, ds, h, e => by
    obtain ⟨v, r, rfl, q, t⟩ := h
    cases x with
    | loc a => exact nomatch (show (none : Option (List D)) = some ds from e)
    | tup xs => exact nomatch (show (none : Option (List D)) = some ds from e)
    | d d =>
      have e2 : (allD (kvs.map (·.2))).map (d :: ·) = some ds := e
      obtain ⟨es, e3, rfl⟩ := Option.map_eq_some_iff.mp e2
      obtain ⟨vs, rfl, rp⟩ := rk_dataS t e3
      exact ⟨v :: vs, rfl, v, vs, rfl, q, rp⟩
/-- an instance of data, made since, stays as it is from now on -/
theorem R4.freezeI {c : C4} {F H : Hp} {μ : Mu} {σ : L2.St} {ρ : PS} (R : R4 c F H μ σ ρ) {p C dx : Addr} {fs : List (Str × Vl)} {ds : List D} (h : μ p = some (.ins C dx fs)) (ed : allD (fs.map (·.2)) = some ds) (n1 : c.H0 p = none) (n2 : c.H0 dx = none) : ∃ F', R4 c F' H (delM μ p) σ ρ ∧ Same F F' ∧ Rp c.K F' (.ins C (fs.map (·.1)) ds) (.ref p) := by
  obtain ⟨hF, gs, e, eo, rk⟩ := R.mu p _ h
  obtain ⟨vs, rfl, rp⟩ := rk_dataS rk ed
  have nd : dx ≠ p := ne_of eo e (fun z => nomatch z)
  have sF1 : Same F (upd F dx (.own p)) := by
    intro b o eb
    by_cases q : b = dx
    · subst q
      rw [upd_same]
      have := R.sub _ _ eb
      rw [eo] at this
      exact this
    · rw [upd_ne q]; exact eb
  have nF1 : upd F dx (.own p) p = none := by rw [upd_ne (fun z => nd z.symm)]; exact hF
  have sF2 : Same (upd F dx (.own p)) (upd (upd F dx (.own p)) p (.ins C dx ((fs.map (·.1)).zip vs))) := fun _ _ e => old_upd nF1 e
  have sF := tr sF1 sF2
  refine ⟨upd (upd F dx (.own p)) p (.ins C dx ((fs.map (·.1)).zip vs)), ⟨R.len, fun b u e2 => ?_, fun i x e2 => ?_, fun a m e2 => ?_, fun a m e2 => ?_, R.nt, R.tab, fun x hx => ?_, tr R.fr sF, R.kp, R.dom, fun b u e2 => ?_⟩, sF, p, dx, vs, rfl, upd_same, by rw [upd_ne nd]; exact upd_same, rp.mono sF⟩
  · by_cases q : b = p
    · subst q
      rw [upd_same] at e2
      rw [e]; exact e2
    · rw [upd_ne q] at e2
      by_cases q2 : b = dx
      · subst q2
        rw [upd_same] at e2
        rw [eo]; exact e2
      · rw [upd_ne q2] at e2
        exact R.sub _ _ e2
  · obtain ⟨v, e1, r⟩ := R.slot i x e2
    exact ⟨v, e1, r.mono sF⟩
  · by_cases q : a = p
    · rw [q, delM_same] at e2; exact nomatch e2
    · rw [delM_ne q] at e2
      obtain ⟨f, mo⟩ := R.mu a m e2
      have q2 : a ≠ dx := by
        rintro rfl
        obtain ⟨o, eo2, mto⟩ := mo.at
        rw [eo] at eo2
        obtain rfl := Option.some.inj eo2
        exact mto
      exact ⟨by rw [upd_ne q, upd_ne q2]; exact f, mo.keep sF fun _ _ z _ => z⟩
  · by_cases q : a = p
    · rw [q, delM_same] at e2; exact nomatch e2
    · rw [delM_ne q] at e2
      exact R.mf a m e2
  · rw [upd_ne (fun z => R.mtab h x hx z.symm), upd_ne (fun z => R.notab eo (fun ps => by simp) x hx z.symm)]
    exact R.tabF x hx
  · by_cases q : b = p
    · subst q
      exact Or.inr (Or.inl n1)
    · rw [upd_ne q] at e2
      by_cases q2 : b = dx
      · subst q2
        exact Or.inr (Or.inl n2)
      · rw [upd_ne q2] at e2
        exact R.nw b u e2
theorem rv_d {K : PySem.W.Frag} {F : Hp} {d : D} {v : V} (h : Rp K F d v) : RV K F (.d d) v := h
def wipe4 (ρ : PS) : List Nat → PS
  | [] => ρ
  | v :: vs => (wipe4 ρ vs).set v none
theorem wipe4_len (ρ : PS) : ∀ vs, (wipe4 ρ vs).length = ρ.length
  | [] => rfl
  | v :: vs => by rw [wipe4, List.length_set, wipe4_len ρ vs]
theorem wipe4_get {ρ : PS} {i : Nat} {x : Vl} : ∀ {vs : List Nat}, (wipe4 ρ vs)[i]? = some (some x) → ρ[i]? = some (some x) ∧ i ∉ vs
  | [], h => ⟨h, by simp⟩
  | v :: vs, h => by
    unfold wipe4 at h
    by_cases hi : v = i
    · subst hi
      by_cases hv : v < (wipe4 ρ vs).length
      · rw [List.getElem?_set_self hv] at h
        exact nomatch (Option.some.inj h)
      · rw [List.getElem?_eq_none (by simpa using hv)] at h; cases h
    · rw [List.getElem?_set_ne hi] at h
      obtain ⟨h1, h2⟩ := wipe4_get h
      exact ⟨h1, by simp only [List.mem_cons, not_or]; exact ⟨fun e => hi e.symm, h2⟩⟩
theorem R4.wipe {c : C4} {F H : Hp} {μ : Mu} {σ : L2.St} {ρ : PS} (R : R4 c F H μ σ ρ) (vs : List Nat) : R4 c F H μ (L2.wipe σ vs) (wipe4 ρ vs) := by
  refine ⟨by rw [wipe_length, wipe4_len]; exact R.len, R.sub, fun i x h => ?_, R.mu, R.mf, R.nt, R.tab, R.tabF, R.fr, R.kp, R.dom, R.nw⟩
  obtain ⟨h1, h2⟩ := wipe4_get h
  rw [wipe_out' h2]
  exact R.slot i x h1
/-- a turn: the item x, what is kept -/
def LcP4 (k : Wk) (g : QG4) (pt : QT4) (pe : QE4) (vs : List Nat) (ρ0 : PS) (μ0 : Mu) (Q : List Vl → Mu → Prop) : Prop := ∃ I : Nat → List Vl → Mu → Prop, I 0 [] μ0 ∧ ∀ i acc μ, I i acc μ → k.ok μ ∧ (k.vs[i]? = none → Q acc μ) ∧
  ∀ x, k.vs[i]? = some x → g x (wipe4 ρ0 vs) μ fun ρ2 μ2 => pt ρ2 μ2 fun b μ3 => if b = true then pe ρ2 μ3 fun y μ4 => acc.length < sizeLine ∧ I (i + 1) (acc ++ [y]) μ4 else I (i + 1) acc μ3
def qLcK (pi : QI4) (g : QG4) (pt : QT4) (pe : QE4) (vs : List Nat) : QE4 := fun ρ μ Q => pi ρ μ fun k μ1 => LcP4 k g pt pe vs ρ μ1 fun acc μ2 => ∃ ds, allD acc = some ds ∧ Q (.d (.lst ds)) μ2
/-- the list at A in the making: nobody's -/
structure Mkg (c : C4) (F H : Hp) (μ : Mu) (A : Addr) (acc : List Vl) : Prop where
  l : ∃ ws, H A = some (.lst ws) ∧ RVs c.K F acc ws
  f : F A = none
  m : μ A = none
  b : c.H0 A = none
theorem lc_run {wi : TI} {g : TG} {tt : TT} {te : TE} {vs : List Nat} {pi : QI4} {pg : QG4} {pt : QT4} {pe : QE4} {t : List Nat} (h0 : I4 X wi pi) (h1 : G4 X g pg t) (h2 : T4 X tt pt) (h3 : E4 X te pe) (ht : ∀ i ∈ t, i ∈ vs)
    {c : C4} (hX : c.X = X) {σ : L2.St} {F H : Hp} {μ : Mu} {ρ : PS} {Q : VK} {Q4 : List Vl → Mu → Prop} (R : R4 c F H μ σ ρ) (hq : ∀ acc A F' H' μ', R4 c F' H' μ' σ ρ → Same F F' → Mkg c F' H' μ' A acc → Q4 acc μ' → Q (.ref A) H')
    (h : pi ρ μ fun k μ1 => LcP4 k pg pt pe vs ρ μ1 Q4) : tLc wi g tt te vs σ H Q := by
  refine h0 c hX σ F H μ ρ _ _ R ?_ h
  rintro k J F1 H1 μ1 R1 s1 wd ⟨I, w0, turn⟩
  intro A nA
  have RA := R1.allocH (o := .lst []) nA trivial
  have mA : Mkg c F1 (upd H1 A (.lst [])) μ1 A [] := ⟨⟨[], upd_same, rfl⟩, R1.fnone nA, R1.mnone nA, R1.dom A nA⟩
  refine ⟨fun i m H' => m = k.vs.length - i ∧ ∃ F' μ' acc, R4 c F' H' μ' σ ρ ∧ Same F1 F' ∧ Mkg c F' H' μ' A acc ∧ I i acc μ', ⟨_, rfl, F1, μ1, [], RA, L3.Same.refl F1, mA, w0⟩, ?_⟩
  rintro i m H2 ⟨rfl, F2, μ2, acc, R2, s2, n2, w2⟩
  obtain ⟨ok, t1, t2⟩ := turn i acc μ2 w2
  have R2h := R2.here
  have hXh : (c.at F2 H2 μ2).X = X := hX
  obtain ⟨ws, hA2, rA2⟩ := n2.l
  have ntb : NoTb4 c.X A := R2.notab hA2 (fun ps => by simp)
  obtain ⟨d1, d2⟩ := wd i _ σ F2 H2 μ2 ρ hXh s2 R2h ok
  cases e1 : k.vs[i]? with
  | none => exact Or.inl ⟨d2 e1, hq acc A F2 H2 μ2 R2 (tr s1 s2) n2 (t1 e1)⟩
  | some x =>
    obtain ⟨go, yl⟩ := d1 x e1
    have hlt := (List.getElem?_eq_some_iff.mp e1).1
    refine Or.inr ⟨go, fun H' => ∃ F' μ' acc, R4 c F' H' μ' σ ρ ∧ Same F1 F' ∧ Mkg c F' H' μ' A acc ∧ I (i + 1) acc μ', fun H' ⟨F', μ', acc', R', s', n', w'⟩ => ⟨k.vs.length - (i + 1), by omega, rfl, F', μ', acc', R', s', n', w'⟩, ?_⟩
    intro v H3 hy
    obtain ⟨F3, R3, s3, rp⟩ := yl v H3 hy
    have Rw := R3.wipe vs
    have after : ∀ {F4 H4 : Hp} {μ4 : Mu} {σ4 : L2.St} {ρ4 : PS}, R4 (c.at F2 H2 μ2) F4 H4 μ4 σ4 ρ4 → R4 c F4 H4 μ4 σ ρ ∧ Mkg c F4 H4 μ4 A acc ∧ Same F2 F4 := by
      intro F4 H4 μ4 σ4 ρ4 R4'
      have sF : Same F2 F4 := R4'.fr
      have RR := R2.slots R4'
      have hA4 : H4 A = some (.lst ws) := R4'.kp A _ hA2 n2.m ntb
      refine ⟨RR, ⟨⟨ws, hA4, rA2.mono sF⟩, ?_, ?_, n2.b⟩, sF⟩
      · cases e : F4 A with
        | none => rfl
        | some o =>
          rcases R4'.nw A o e with z | z | z | z
          · have z2 : F2 A = some o := z
            rw [n2.f] at z2; exact nomatch z2
          · have z2 : H2 A = none := z
            rw [hA2] at z2; exact nomatch z2
          · exact absurd n2.m z
          · have z2 := R4'.sub _ _ e
            rw [hA4] at z2
            cases z2
            exact z.elim
      · cases e : μ4 A with
        | none => rfl
        | some mm =>
          rcases R4'.mf A mm e with z | z
          · exact absurd n2.m z
          · have z2 : H2 A = none := z
            rw [hA2] at z2; exact nomatch z2
    refine h1 _ hXh (L2.wipe σ vs) F3 H3 μ2 (wipe4 ρ vs) x v _ _ Rw (by rw [← hX] at rp; exact rp) ?_ (t2 x e1)
    intro ρ4 σ4 F4 H4 μ4 R4' s4 l4 o4 q4
    have hw4 : L2.wipe σ4 vs = L2.wipe σ vs := by
      refine wipe_eq (by rw [l4, wipe_length]) (fun j hj => ?_)
      rw [o4 j (fun z => hj (ht j z))]
    refine ⟨hw4, ?_⟩
    refine h2 _ hXh σ4 F4 H4 μ4 ρ4 _ _ R4' ?_ q4
    intro b F5 H5 μ5 R5 s5 q5
    cases b with
    | false =>
      obtain ⟨R6, n6, s6⟩ := after R5
      exact ⟨F5, μ5, acc, R6, tr s2 s6, n6, q5⟩
    | true =>
      refine h3 _ hXh σ4 F5 H5 μ5 ρ4 _ _ R5 ?_ q5
      rintro y u F6 H6 μ6 R6 s6 ru ⟨hz, q6⟩
      obtain ⟨R7, n7, s7⟩ := after R6
      obtain ⟨us, hA7, rA7⟩ := n7.l
      have rA8 : RVs c.K F6 (acc ++ [y]) (us ++ [u]) := rA7.app (RVs.one ru)
      have R8 : R4 c F6 (upd H6 A (.lst (us ++ [u]))) μ6 σ ρ := by
        have R9 := (R7.own (m := .lst acc) n7.f ⟨us, hA7, rA7⟩ (Or.inr n7.b)).mutL updM_same rA8
        refine ⟨R9.len, R9.sub, R9.slot, fun b m e => ?_, R7.mf, R9.nt, R9.tab, R9.tabF, R9.fr, R9.kp, R9.dom, R9.nw⟩
        have ne : b ≠ A := fun z => by rw [z, n7.m] at e; exact nomatch e
        have e2 : updM (updM μ6 A (.lst acc)) A (.lst (acc ++ [y])) b = some m := by rw [updM_ne ne, updM_ne ne]; exact e
        exact R9.mu b m e2
      exact ⟨us, hA7, by rw [rA7.len]; exact hz, F6, μ6, acc ++ [y], R8, tr s2 s7, ⟨⟨us ++ [u], upd_same, rA8⟩, n7.f, n7.m, n7.b⟩, q6⟩
theorem e_lcK {wi : TI} {g : TG} {tt : TT} {te : TE} {vs : List Nat} {pi : QI4} {pg : QG4} {pt : QT4} {pe : QE4} {t : List Nat} (h0 : I4 X wi pi) (h1 : G4 X g pg t) (h2 : T4 X tt pt) (h3 : E4 X te pe) (ht : ∀ i ∈ t, i ∈ vs) : E4 X (tLc wi g tt te vs) (qLcK pi pg pt pe vs) := by
  intro c hX σ F H μ ρ Q Q4 R hq h
  refine lc_run h0 h1 h2 h3 ht hX R ?_ h
  rintro acc A F' H' μ' R' s n ⟨ds, e, q⟩
  obtain ⟨ws, hA, rA⟩ := n.l
  have hm : allD acc = some ds := e
  obtain ⟨us, R3, s3, rp⟩ := (R'.own (m := .lst (ds.map Vl.d)) n.f ⟨ws, hA, by rw [← allD_is hm]; exact rA⟩ (Or.inr n.b)).freezeL updM_same
  refine hq (.d (.lst ds)) (.ref A) _ H' μ' ⟨R3.len, R3.sub, R3.slot, fun b m e => ?_, R'.mf, R3.nt, R3.tab, R3.tabF, R3.fr, R3.kp, R3.dom, R3.nw⟩ (tr s s3) rp q
  have ne : b ≠ A := fun z => by rw [z, n.m] at e; exact nomatch e
  exact R3.mu b m (by rw [delM_ne ne, updM_ne ne]; exact e)
end
end L4
namespace L4
open PySem PySem.Spec PyProof.Rows L2 TB LamX L3
theorem szN {n : Nat} (h : n ≤ 1000000) : n ≤ sizeLine := by rw [sizeLine_eq]; omega
theorem szL {n : Nat} (h : n < 1000000) : n < sizeLine := by rw [sizeLine_eq]; omega
def tupK (xs : List Vl) (F : Vl → Prop) : Prop := xs.length ≤ sizeLine ∧ F (mkTup xs)
section
variable {K : PySem.W.Frag} {P : P4} {ρ : PS} {μ : Mu} {Q : Vl → Mu → Prop} {QT : Bool → Mu → Prop} {QA : List Vl → Mu → Prop} {QO : Option Int → Mu → Prop} {QG : PS → Mu → Prop} {p q : QS4} {pe pb po pd pk pv : QE4} {pa : QA4} {pt pu : QT4} {g : QG4} {gs : QGs4} {pi : QI4} {i j : Nat} {x y : Vl} {d : D} {C : Addr}
theorem v_next (h : P.nx ρ μ) : sNext4 P ρ μ := h
theorem v_seq (h : p { P with nx := q P } ρ μ) : sSeq4 p q P ρ μ := h
theorem v_drop (h : pe ρ μ fun _ μ' => P.nx ρ μ') : sDrop4 pe P ρ μ := h
theorem v_ret (h : pe ρ μ fun x μ' => P.rt x μ') : sRet4 pe P ρ μ := h
theorem v_ifs (h : pt ρ μ fun b μ1 => if b = true then p P ρ μ1 else q P ρ μ1) : sIf4 pt p q P ρ μ := h
theorem v_asg (h : pe ρ μ fun x μ1 => g x ρ μ1 P.nx) : sAsg4 pe g P ρ μ := h
theorem v_for (h : pi ρ μ fun k μ1 => For4 k g p P ρ μ1) : sFor4 pi g p P ρ μ := h
theorem v_name (h : QG (ρ.set i (some x)) μ) : gName4 i x ρ μ QG := h
theorem v_gnil (h : QG ρ μ) : gNil4 [] ρ μ QG := ⟨rfl, h⟩
theorem v_gcons {xs : List Vl} (h : g x ρ μ fun ρ' μ' => gs xs ρ' μ' QG) : gCons4 g gs (x :: xs) ρ μ QG := ⟨x, xs, rfl, h⟩
theorem v_gtup {n : Nat} {xs : List Vl} (e : tupOf x = some xs) (hn : xs.length = n) (h : gs xs ρ μ QG) : gTup4 n gs x ρ μ QG := ⟨xs, e, hn, h⟩
theorem v_var (e : ρ[i]? = some (some x)) (h : Q x μ) : qVar4 i ρ μ Q := ⟨x, e, h⟩
theorem v_c {v : V} {d : D} (e : vD v = some d) (h : Q (.d d) μ) : qC4 v ρ μ Q := by
  show some1 _ (vD v)
  rw [e]
  exact h
theorem v_nil (h : QA [] μ) : aNil ρ μ QA := h
theorem v_cons (h : pe ρ μ fun x μ1 => pa ρ μ1 fun xs μ2 => QA (x :: xs) μ2) : aCons pe pa ρ μ QA := h
theorem v_tup (h : pa ρ μ fun xs μ' => tupK xs fun v => Q v μ') : qTup4 pa ρ μ Q := h
theorem v_tupD {xs : List Vl} {ds : List D} {F : Vl → Prop} (e : allD xs = some ds) (hz : xs.length ≤ 1000000) (h : F (.d (.tup ds))) : tupK xs F := ⟨szN hz, by unfold mkTup; rw [e]; exact h⟩
theorem v_lstK (h : pa ρ μ fun xs μ' => ∃ ds, allD xs = some ds ∧ ds.length ≤ sizeLine ∧ Q (.d (.lst ds)) μ') : qLstK pa ρ μ Q := h
theorem v_lstD {xs : List Vl} {ds : List D} {F : List D → Prop} (e : allD xs = some ds) (hz : ds.length ≤ 1000000) (h : F ds) : ∃ ds, allD xs = some ds ∧ ds.length ≤ sizeLine ∧ F ds := ⟨ds, e, szN hz, h⟩
theorem v_lst (h : pa ρ μ fun xs μ' => xs.length ≤ sizeLine ∧ ∀ p, μ' p = none → Q (.loc p) (updM μ' p (.lst xs))) : qLst4 pa ρ μ Q := h
theorem v_dicK (h : Q (.d (.dic [] [])) μ) : qDicK ρ μ Q := h
theorem v_dic (h : ∀ p, μ p = none → Q (.loc p) (updM μ p (.dic []))) : qDic4 ρ μ Q := h
theorem v_test (h : pe ρ μ fun x μ' => isB4 (fun b => QT b μ') x) : qTest4 pe ρ μ QT := h
theorem v_isB {F : Bool → Prop} {b : Bool} (h : F b) : isB4 F (.d (.bl b)) := h
theorem v_and (h : pt ρ μ fun b μ1 => if b = true then pu ρ μ1 QT else QT false μ1) : qAnd4 pt pu ρ μ QT := h
theorem v_or (h : pt ρ μ fun b μ1 => if b = true then QT true μ1 else pu ρ μ1 QT) : qOr4 pt pu ρ μ QT := h
theorem v_not (h : pt ρ μ fun b μ1 => QT (!b) μ1) : qNot4 pt ρ μ QT := h
theorem v_yes (h : QT true μ) : qYes4 ρ μ QT := h
theorem v_if (h : pt ρ μ fun k μ1 => if k = true then pe ρ μ1 Q else pb ρ μ1 Q) : qIf4 pt pe pb ρ μ Q := h
theorem v_op {o : O2} (h : pe ρ μ fun x μ1 => pb ρ μ1 fun y μ2 => some2 (fun dx dy => o dx dy fun d => Q (.d d) μ2) (rd4 μ2 x) (rd4 μ2 y)) : qOp4 o pe pb ρ μ Q := h
theorem v_opK {o : O2N} (h : pe ρ μ fun x μ1 => pb ρ μ1 fun y μ2 => some2 (fun dx dy => o dx dy fun ds => Q (.d (.lst ds)) μ2) (rd4 μ2 x) (rd4 μ2 y)) : qOpK o pe pb ρ μ Q := h
theorem v_un {o : O1} (h : pe ρ μ fun x μ1 => some1 (fun dx => o dx fun d => Q (.d d) μ1) (rd4 μ1 x)) : qUn4 o pe ρ μ Q := h
theorem v_cb {o : OL} (h : pa ρ μ fun xs μ1 => some1 (fun ds => o ds fun d => Q (.d d) μ1) (rdL4 μ1 xs)) : qCB4 o pa ρ μ Q := h
theorem v_cbK {o : OLN} (h : pa ρ μ fun xs μ1 => some1 (fun ds => o ds fun es => Q (.d (.lst es)) μ1) (rdL4 μ1 xs)) : qCBK o pa ρ μ Q := h
theorem v_cbM {o : OLN} (h : pa ρ μ fun xs μ1 => some1 (fun ds => o ds fun es => ∀ p, μ1 p = none → Q (.loc p) (updM μ1 p (.lst (es.map Vl.d)))) (rdL4 μ1 xs)) : qCBM o pa ρ μ Q := h
theorem v_call {S : PSp4} (h : pa ρ μ fun xs μ1 => S xs μ1 Q (fun _ _ => False)) : qCall4 S pa ρ μ Q := h
theorem v_call3 {S : PSp} (h : pa ρ μ fun xs μ1 => some1 (fun ds => S ds fun r _ => rs4 μ1 Q r) (allD xs)) : qCall3 S pa ρ μ Q := h
theorem v_callIo {S : PSp} (h : pa ρ μ fun xs μ1 => ∃ (a : Addr) (es : List D) (ds : List D), xs[j]? = some (.loc a) ∧ μ1 a = some (.lst (es.map Vl.d)) ∧ allD (xs.set j (.d (.lst es))) = some ds ∧ S ds fun r out => ∃ d os, r = .val d ∧ out = some os ∧ Q (.d d) (updM μ1 a (.lst (os.map Vl.d)))) : qCallIo4 j S pa ρ μ Q := h
theorem v_rsV (h : Q (.d d) μ) : rs4 μ Q (.val d) := h
theorem v_rsN {ds : List D} (h : Q (.d (.lst ds)) μ) : rs4 μ Q (.new ds) := h
theorem v_meth3 {m : Str} {S : PSp} (h : pe ρ μ fun x μ1 => ∃ d, x = .d d ∧ InsD K C m d ∧ pa ρ μ1 fun xs μ2 => some1 (fun ds => S (d :: ds) fun r _ => rs4 μ2 Q r) (allD xs)) : qMeth3 K C m S pe pa ρ μ Q := h
theorem v_fldA {f : Str} (h : pe ρ μ fun x μ1 => ∃ C fs y, insOf μ1 x = some (C, fs) ∧ Cls K C ∧ NoAttr K C f ∧ fs.lookup f = some y ∧ Q y μ1) : qFldA K f pe ρ μ Q := h
theorem v_sfld {f : Str} (h : pe ρ μ fun x μ1 => po ρ μ1 fun o μ2 => ∃ a C dx fs, o = .loc a ∧ μ2 a = some (.ins C dx fs) ∧ Cls K C ∧ NoAttr K C f ∧ fs.length < 1000 ∧ P.nx ρ (updM μ2 a (.ins C dx (put4 f x fs)))) : sFld4 K f po pe P ρ μ := h
theorem v_lcK {vs : List Nat} (h : pi ρ μ fun k μ1 => LcP4 k g pt pe vs ρ μ1 fun acc μ2 => ∃ ds, allD acc = some ds ∧ Q (.d (.lst ds)) μ2) : qLcK pi g pt pe vs ρ μ Q := h
theorem v_dput (h : pv ρ μ fun x μ1 => pd ρ μ1 fun o μ2 => pk ρ μ2 fun y μ3 => ∃ a kvs k, o = .loc a ∧ μ3 a = some (.dic kvs) ∧ keyOf y = some k ∧ kvs.length < sizeLine ∧ P.nx ρ (updM μ3 a (.dic (putK4 kvs k x)))) : sDPut4 pd pk pv P ρ μ := h
theorem v_bm {r : OM} (h : pe ρ μ fun x μ1 => ∃ a, x = .loc a ∧ (∃ vs0, μ1 a = some (.lst vs0)) ∧ pa ρ μ1 fun xs μ2 => ∃ vs, μ2 a = some (.lst vs) ∧ r vs xs fun y vs' => Q y (updM μ2 a (.lst vs'))) : qBM4 r pe pa ρ μ Q := h
theorem v_some2 {F : D → D → Prop} {a b : Option D} {dx dy : D} (e1 : a = some dx) (e2 : b = some dy) (h : F dx dy) : some2 F a b := by
  rw [e1, e2]
  exact h
theorem v_some1 {α : Type} {F : α → Prop} {a : Option α} {dx : α} (e1 : a = some dx) (h : F dx) : some1 F a := by
  rw [e1]
  exact h
/-- for: by its data -/
theorem v_for3 {ds : List D} (h : ∃ I : Nat → PS → Mu → Prop, I 0 ρ μ ∧ ∀ i ρ μ, I i ρ μ → (ds[i]? = none → P.nx ρ μ) ∧ ∀ d, ds[i]? = some d → g (.d d) ρ μ fun ρ1 μ1 => p { P with nx := I (i + 1), ct := I (i + 1), bk := P.nx } ρ1 μ1) : For4 ⟨ds.map Vl.d, fun _ => True⟩ g p P ρ μ := by
  obtain ⟨I, h0, h⟩ := h
  refine ⟨I, h0, fun i ρ μ hi => ⟨trivial, fun e => (h i ρ μ hi).1 ?_, fun x e => ?_⟩⟩
  · have e : (ds.map Vl.d)[i]? = none := e
    rw [List.getElem?_map] at e
    exact Option.map_eq_none_iff.mp e
  · have e : (ds.map Vl.d)[i]? = some x := e
    rw [List.getElem?_map] at e
    obtain ⟨d, e1, rfl⟩ := Option.map_eq_some_iff.mp e
    exact (h i ρ μ hi).2 d e1
theorem v_it3 {pq : QI} {R : Wk → Mu → Prop} (h : pq (view ρ) fun ds _ => R ⟨ds.map Vl.d, fun _ => True⟩ μ) : it3 pq ρ μ R := h
theorem v_of3 {pq : QE} (h : pq (view ρ) fun r _ => isVal (fun d => Q (.d d) μ) r) : of3 pq ρ μ Q := h
theorem v_isVal {F : D → Prop} (h : F d) : isVal F (.val d) := h
/-- a comprehension over data that keeps the world -/
theorem v_lcMap {α : Type} {enc : α → D} {xs : List α} {vs : List Nat} {Q : List Vl → Mu → Prop} (f : α → D) (hz : xs.length < 1000000)
    (hs : ∀ x ∈ xs, ∀ (Y : Vl → Mu → Prop) (N : Mu → Prop), Y (.d (f x)) μ → g (.d (enc x)) (wipe4 ρ vs) μ fun ρ2 μ2 => pt ρ2 μ2 fun b μ3 => if b = true then pe ρ2 μ3 Y else N μ3) (hq : Q ((xs.map f).map Vl.d) μ) : LcP4 ⟨(xs.map enc).map Vl.d, fun _ => True⟩ g pt pe vs ρ μ Q := by
  refine ⟨fun i acc μ' => μ' = μ ∧ acc = ((xs.take i).map f).map Vl.d, ⟨rfl, rfl⟩, ?_⟩
  rintro i acc μ' ⟨rfl, rfl⟩
  refine ⟨trivial, fun e => ?_, fun y e => ?_⟩
  · have e : ((xs.map enc).map Vl.d)[i]? = none := e
    rw [List.getElem?_map, List.getElem?_map] at e
    have h1 := List.getElem?_eq_none_iff.mp (Option.map_eq_none_iff.mp (Option.map_eq_none_iff.mp e))
    rw [List.take_of_length_le h1]
    exact hq
  · have e : ((xs.map enc).map Vl.d)[i]? = some y := e
    rw [List.getElem?_map, List.getElem?_map] at e
    obtain ⟨d, e1, rfl⟩ := Option.map_eq_some_iff.mp e
    obtain ⟨x, e2, rfl⟩ := Option.map_eq_some_iff.mp e1
    refine hs x (List.mem_of_getElem? e2) _ _ ⟨?_, rfl, ?_⟩
    · rw [List.length_map, List.length_map, List.length_take]
      exact szL (by omega)
    · rw [take_next e2, List.map_append, List.map_append]
      rfl
theorem allD_map (ds : List D) : allD (ds.map Vl.d) = some ds := by
  induction ds with
  | nil => rfl
  | cons d r ih =>
    show (allD (r.map Vl.d)).map (d :: ·) = some (d :: r)
    rw [ih]
    rfl
end
end L4
namespace L4
open PySem PySem.Spec PyProof.Rows L2 TB LamX L3
section
variable {K : PySem.W.Frag} {ρ : PS} {μ : Mu} {Q : Vl → Mu → Prop} {pe pb : QE4}
theorem v_ix {of : Mu → Vl → Option (List Vl)} (h : pe ρ μ fun x μ1 => pb ρ μ1 fun y μ2 => ∃ (vs : List Vl) (k : Int) (z : Vl), of μ2 x = some vs ∧ y = .d (.int k) ∧ atI vs k = some z ∧ Q z μ2) : qIx4 of pe pb ρ μ Q := h
theorem atI_mapV {ds : List D} {k : Int} {d : D} (h : atI ds k = some d) : atI (ds.map Vl.d) k = some (.d d) := by
  unfold atI at h ⊢
  rw [List.length_map]
  cases q : ixN ds.length k with
  | none => rw [q] at h; exact nomatch h
  | some j =>
    rw [q] at h
    show (ds.map Vl.d)[j]? = _
    rw [List.getElem?_map, show ds[j]? = some d from h]
    rfl
theorem v_ixT {ds : List D} {k : Int} {d : D} {F : Vl → Prop} (e : atI ds k = some d) (h : F (.d d)) : ∃ (vs : List Vl) (k2 : Int) (z : Vl), tupOf (.d (.tup ds)) = some vs ∧ Vl.d (.int k) = .d (.int k2) ∧ atI vs k2 = some z ∧ F z := ⟨_, k, _, rfl, rfl, atI_mapV e, h⟩
end
end L4
namespace L4
open PySem PySem.Spec PyProof.Rows L2 TB LamX L3
section
variable {X : Sx} {K : PySem.W.Frag} {W : WX}
/-- a mutable list stays as it is from now on -/
def tFz (t : TE) : TE := t
theorem toFz {Y : Cx} {e : Expr} {t : TE} (h : PE Y e t) : PE Y e (tFz t) := h
def qFz (pe : QE4) : QE4 := fun ρ μ Q => pe ρ μ fun x μ1 => ∃ a ds, x = .loc a ∧ μ1 a = some (.lst (ds.map Vl.d)) ∧ Q (.d (.lst ds)) (delM μ1 a)
theorem e_fz {te : TE} {pe : QE4} (h : E4 X te pe) : E4 X (tFz te) (qFz pe) := by
  intro c hX σ F H μ ρ Q Q4 R hq hp
  refine h c hX σ F H μ ρ _ _ R ?_ hp
  rintro x v F' H' μ' R' s rv ⟨a, ds, rfl, em, q⟩
  obtain rfl : v = .ref a := rv
  obtain ⟨ws, R2, s2, rp⟩ := R'.freezeL em
  exact hq (.d (.lst ds)) (.ref a) _ H' _ R2 (tr s s2) rp q
theorem v_fz {ρ : PS} {μ : Mu} {Q : Vl → Mu → Prop} {pe : QE4} (h : pe ρ μ fun x μ1 => ∃ a ds, x = .loc a ∧ μ1 a = some (.lst (ds.map Vl.d)) ∧ Q (.d (.lst ds)) (delM μ1 a)) : qFz pe ρ μ Q := h
theorem delM_upd {μ : Mu} {a : Addr} {m : MO} (h : μ a = none) : delM (updM μ a m) a = μ := by
  funext b
  unfold delM updM
  by_cases q : b = a
  · rw [if_pos q, q, h]
  · rw [if_neg q, if_neg q]
theorem delM_comm {μ : Mu} {a b : Addr} {m : MO} (h : a ≠ b) : delM (updM μ a m) b = updM (delM μ b) a m := by
  funext x
  by_cases q : x = a
  · subst q
    rw [delM_ne h, updM_same, updM_same]
  · by_cases q2 : x = b
    · subst q2
      rw [delM_same, updM_ne q, delM_same]
    · rw [delM_ne q2, updM_ne q, updM_ne q, delM_ne q2]
end
def planF (p : PlanL) : List (Str × Vl) := [("own_locks", .d (.lst (strsD p.locks))), ("own_cells", .d (.lst (p.cells.map clD))), ("own_tasks", .d (.lst (p.tasks.map tkD))), ("own_names", .d (.lst (strsD p.taken)))]
def pPlanInit (C : Addr) : PSp4 := fun xs μ Q _ => ∃ (a dx : Addr) (p : PlanL) (t : D), xs = [.loc a, .d (.lst (strsD p.locks)), .d (.lst (p.cells.map clD)), .d t] ∧ (t = .lst (p.tasks.map tkD) ∨ t = .non ∧ p.tasks = []) ∧ μ a = some (.ins C dx []) ∧ PlanOk p ∧ Q (.d .non) (updM μ a (.ins C dx (planF p)))
def pCellOf (C : Addr) : PSp := fun ds Q => ∃ (p : PlanL) (c : Cl), ds = [planD C p, .str c.name] ∧ PlanOk p ∧ c ∈ p.cells ∧ Q (.val (clD c)) none
def pLockOf (C : Addr) : PSp := fun ds Q => ∃ (p : PlanL) (c : Cl), ds = [planD C p, .str c.name] ∧ PlanOk p ∧ c ∈ p.cells ∧ Q (.val (.str c.lock)) none
end L4
namespace L4
open PySem PySem.Spec PyProof.Rows L2 TB LamX L3
theorem v_szA {n : Nat} {B : Prop} (hz : n ≤ 1000000) (h : B) : n ≤ sizeLine ∧ B := ⟨szN hz, h⟩
theorem i_isN {A B : Prop} (h : A) : if L3.isNon D.non = true then A else B := h
theorem i_isNL {A B : Prop} {ds : List D} (h : B) : if L3.isNon (.lst ds) = true then A else B := i_ff h
theorem updM_self {μ : Mu} {a : Addr} {m : MO} (h : μ a = some m) : updM μ a m = μ := by
  funext b
  by_cases q : b = a
  · rw [q, updM_same, h]
  · rw [updM_ne q]
end L4
namespace L3
open PySem PySem.Spec PyProof.Rows L2 TB LamX
theorem filter_one {α : Type} {k : α → Str} : ∀ {xs : List α} {x : α}, (xs.map k).Nodup → x ∈ xs → xs.filter (fun y => decide (k y = k x)) = [x]
  | [], x, _, h => nomatch h
  | y :: ys, x, nd, h => by
    rw [List.map_cons, List.nodup_cons] at nd
    rcases List.mem_cons.mp h with rfl | h
    · rw [List.filter_cons, if_pos (decide_eq_true rfl)]
      congr 1
      refine List.filter_eq_nil_iff.mpr fun z hz => ?_
      have : k z ≠ k x := fun e => nd.1 (by rw [← e]; exact List.mem_map_of_mem hz)
      simpa using this
    · have : k y ≠ k x := fun e => nd.1 (by rw [e]; exact List.mem_map_of_mem h)
      rw [List.filter_cons, if_neg (by simpa using this)]
      exact filter_one nd.2 h
theorem PlanOk.ndC {p : PlanL} (ok : PlanOk p) : (p.cells.map (·.name)).Nodup := (List.nodup_append.mp (List.nodup_append.mp ok.nd).1).2.1
theorem PlanOk.ndL {p : PlanL} (ok : PlanOk p) : p.locks.Nodup := (List.nodup_append.mp (List.nodup_append.mp ok.nd).1).1
theorem PlanOk.nmL {p : PlanL} (ok : PlanOk p) : ∀ z ∈ p.locks, Nm z := fun z h => ok.nm z (List.mem_append_left _ (List.mem_append_left _ h))
theorem PlanOk.nmC {p : PlanL} (ok : PlanOk p) {c : Cl} (h : c ∈ p.cells) : Nm c.name := ok.nm _ (List.mem_append_left _ (List.mem_append_right _ (List.mem_map_of_mem h)))
theorem cln_dd {ls ns : List Str} {d : Dd} (h : d.ok ls ns) (hl : ∀ z ∈ ls, Nm z) (hn : ∀ z ∈ ns, Nm z) : cln (ddD d) = true := by
  have hw : PyData.strOk d.w = true := by cases d <;> (show PyData.strOk (Str.ofString _) = true; decide +kernel)
  show clnL (.str d.w :: d.ps) = true
  show (PyData.strOk d.w && clnL d.ps) = true
  rw [hw, Bool.true_and]
  cases d with
  | set n => rfl
  | add n => rfl
  | take l => show (PyData.strOk l && true) = true; rw [strOk_nm (hl l h)]; rfl
  | read l => show (PyData.strOk l && true) = true; rw [strOk_nm (hn l h)]; rfl
  | write l => show (PyData.strOk l && true) = true; rw [strOk_nm (hn l h)]; rfl
  | skip n m => rfl
  | quit => rfl
theorem dpt_dd (d : Dd) : dpt (ddD d) ≤ 1 := by cases d <;> simp [ddD, dpt, dptL, Dd.ps]
end L3
namespace L3
open PySem PySem.Spec PyProof.Rows L2 TB LamX
theorem isI_ins {K : PySem.W.Frag} {C : Addr} {m : Str} {ns : List Str} {ds : List D} (h : m ∉ ns) : IsI K C m (.ins C ns ds) := L4.InsD.ins h
theorem w_planM {K : PySem.W.Frag} {C : Addr} {m : Str} {p : PlanL} {F : D → Prop} (e : m ∉ (["own_locks", "own_cells", "own_tasks", "own_names"] : List Str)) (h : F (planD C p)) : ∃ d, Rv.val (planD C p) = .val d ∧ IsI K C m d ∧ F d := ⟨_, rfl, isI_ins e, h⟩
end L3
namespace L4
open PySem PySem.Spec PyProof.Rows L2 TB LamX L3
end L4
namespace L2
open PySem PySem.Spec PyProof.Rows TB
end L2
namespace L3
open PySem PySem.Spec PyProof.Rows L2 TB LamX
end L3
namespace L3
open PySem PySem.Spec PyProof.Rows L2 TB LamX
/-- what is no part of a plan -/
inductive Od : D → Prop
  | it {d : D} : It d → Od d
  | dic : Od (.dic [.inr "a"] [.int 1])
/-- a part of a spoilt deed -/
inductive Im : D → Prop
  | od {d : D} : Od d → Im d
  | num {i : Int} : i.natAbs < 10 ^ 19 → Im (.int i)
  | deed {d : Dd} {ls ns : List Str} : d.ok ls ns → (∀ z ∈ ls, Nm z) → (∀ z ∈ ns, Nm z) → Im (ddD d)
theorem Im.str {z : Str} (h : Sg z) : Im (.str z) := .od (.it (.str h))
theorem sg_lit {z : Str} (h : z.length ≤ 100 ∧ (z.cps.toList.all fun c => decide (c < 1114112)) = true) : Sg z := ⟨h.1, fun c hc => of_decide_eq_true (List.all_eq_true.mp h.2 c hc)⟩
theorem dd_sg (d : Dd) : Sg d.w := by
  have go : ∀ w ∈ (["set", "add", "take", "read", "write", "skip", "quit"] : List Str), Sg w := by
    intro w hw
    refine sg_lit ?_
    have : ∀ w ∈ (["set", "add", "take", "read", "write", "skip", "quit"] : List Str), w.length ≤ 100 ∧ (w.cps.toList.all fun c => decide (c < 1114112)) = true := by decide +kernel
    exact this w hw
  refine go _ ?_
  cases d <;> simp [Dd.w]
theorem far_lt {n : Int} (h : -far ≤ n ∧ n ≤ far) : n.natAbs < 10 ^ 19 := by
  have e : far = 1000000000000000000 := by decide
  rw [e] at h
  have e2 : (10 : Nat) ^ 19 = 10000000000000000000 := by decide
  rw [e2]
  omega
/-- the parts of a deed -/
theorem dd_im {d : Dd} {ls ns : List Str} (h : d.ok ls ns) (h1 : ∀ z ∈ ls, Nm z) (h2 : ∀ z ∈ ns, Nm z) : ∀ x ∈ (D.str d.w :: d.ps), (∃ z, x = .str z ∧ Sg z) ∨ ∃ i : Int, x = .int i ∧ i.natAbs < 10 ^ 19 := by
  intro x hx
  rcases List.mem_cons.mp hx with rfl | hx
  · exact Or.inl ⟨_, rfl, dd_sg d⟩
  · cases d with
    | set n => rw [List.mem_singleton.mp hx]; exact Or.inr ⟨_, rfl, far_lt h⟩
    | add n => rw [List.mem_singleton.mp hx]; exact Or.inr ⟨_, rfl, far_lt h⟩
    | take l => rw [List.mem_singleton.mp hx]; exact Or.inl ⟨_, rfl, Nm.sg (h1 _ h)⟩
    | read l => rw [List.mem_singleton.mp hx]; exact Or.inl ⟨_, rfl, Nm.sg (h2 _ h)⟩
    | write l => rw [List.mem_singleton.mp hx]; exact Or.inl ⟨_, rfl, Nm.sg (h2 _ h)⟩
    | skip n m =>
      have hx : x = .int n ∨ x = .int m := by simpa [Dd.ps] using hx
      rcases hx with rfl | rfl
      · exact Or.inr ⟨_, rfl, far_lt h.1⟩
      · refine Or.inr ⟨_, rfl, ?_⟩
        have h3 := h.2
        have e2 : (10 : Nat) ^ 19 = 10000000000000000000 := by decide
        rw [e2]
        omega
    | quit => exact absurd hx List.not_mem_nil
/-- held against a text -/
theorem Im.eq {x : D} (h : Im x) {z : Str} (hz : Sg z) : ∃ b, eqXD x (.str z) b ∧ (b = true ↔ x = .str z) := by
  have flat : ∀ {e : PyData}, pd x = some e → e.canLay0 = true → e.depth ≤ 64 → PyData.eqv (.str z) e = false → x ≠ .str z → ∃ b, eqXD x (.str z) b ∧ (b = true ↔ x = .str z) := by
    intro e h1 h2 h3 h4 h5
    refine ⟨false, Or.inl ⟨.str z, e, rfl, h1, ?_, sh_flat h2 h3, h4.symm⟩, (fun y => nomatch y), fun y => absurd y h5⟩
    exact sh_flat hz.ok (by simp [PyData.depth])
  have lays : ∀ {ds : List D}, (∀ d ∈ ds, cln d = true ∧ dpt d ≤ 1) → ∃ xs, pdL ds = some xs ∧ PyData.canLayAll0 xs = true ∧ PyData.depthAll xs ≤ 2 := by
    intro ds hd
    obtain ⟨xs, e, c, dp⟩ := clnL_pd (clnL_iff.mpr fun d m => (hd d m).1)
    exact ⟨xs, e, c, by rw [dp]; exact Nat.le_trans (dptL_le (n := 1) fun d m => (hd d m).2) (by decide)⟩
  have txs : ∀ {ws : List Str}, (∀ y ∈ ws, Sg y) → ∀ d ∈ strsD ws, cln d = true ∧ dpt d ≤ 1 := by
    intro ws hw d hd
    obtain ⟨y, hy, rfl⟩ := List.mem_map.mp hd
    exact ⟨(hw y hy).ok, by simp [dpt]⟩
  cases h with
  | num h => exact flat (e := .int _) rfl (by simp [PyData.canLay0]) (by simp [PyData.depth]) rfl (fun y => nomatch y)
  | @deed d ls ns h h1 h2 =>
    obtain ⟨xs, e, c, dp⟩ := lays (ds := D.str d.w :: d.ps) fun x hx => by
      rcases dd_im h h1 h2 x hx with ⟨y, rfl, s⟩ | ⟨i, rfl, _⟩
      · exact ⟨s.ok, by simp [dpt]⟩
      · exact ⟨rfl, by simp [dpt]⟩
    refine flat (e := .tuple xs) ?_ c ?_ rfl (fun y => nomatch y)
    · show (pdL (D.str d.w :: d.ps)).map _ = _
      rw [e]
      rfl
    · simp only [PyData.depth]
      omega
  | od h =>
    cases h with
    | dic => exact ⟨false, Or.inr (Or.inr ⟨_, _, z, rfl, rfl, rfl⟩), (fun y => nomatch y), fun y => nomatch y⟩
    | it h =>
      cases h with
      | @str y hy =>
        refine ⟨PyData.eqv (.str z) (.str y), Or.inl ⟨.str z, .str y, rfl, rfl, sh_flat hz.ok (by simp [PyData.depth]), sh_flat hy.ok (by simp [PyData.depth]), rfl⟩, ?_⟩
        simp only [PyData.eqv, beq_iff_eq]
        exact ⟨fun e => by rw [e], fun e => by injection e with e; exact e.symm⟩
      | non => exact flat (e := .none) rfl rfl (by simp [PyData.depth]) rfl (fun y => nomatch y)
      | int h => exact flat (e := .int _) rfl (by simp [PyData.canLay0]) (by simp [PyData.depth]) rfl (fun y => nomatch y)
      | bl => exact flat (e := .bool _) rfl (by simp [PyData.canLay0]) (by simp [PyData.depth]) rfl (fun y => nomatch y)
      | @lst ws _ hw =>
        obtain ⟨xs, e, c, dp⟩ := lays (txs hw)
        refine flat (e := .list xs) ?_ c ?_ rfl (fun y => nomatch y)
        · show (pdL (strsD ws)).map _ = _
          rw [e]
          rfl
        · simp only [PyData.depth]
          omega
      | @tup ws _ hw =>
        obtain ⟨xs, e, c, dp⟩ := lays (txs hw)
        refine flat (e := .tuple xs) ?_ c ?_ rfl (fun y => nomatch y)
        · show (pdL (strsD ws)).map _ = _
          rw [e]
          rfl
        · simp only [PyData.depth]
          omega
      | dic => exact ⟨false, Or.inr (Or.inr ⟨_, _, z, rfl, rfl, rfl⟩), (fun y => nomatch y), fun y => nomatch y⟩
/-- what is_deed is asked of -/
def Ac (t : D) : Prop := Od t ∨ ∃ ds, (t = .lst ds ∨ t = .tup ds) ∧ ds.length ≤ 8 ∧ ∀ d ∈ ds, Im d
theorem od_tup {ds : List D} (h : Od (.tup ds)) : ds.length ≤ 8 ∧ ∀ d ∈ ds, Im d := by
  generalize e : D.tup ds = t at h
  cases h with
  | dic => exact nomatch e
  | it h =>
    cases h with
    | @tup ws h1 h2 =>
      obtain rfl : ds = strsD ws := by injection e
      refine ⟨by rw [List.length_map]; exact h1, fun d hd => ?_⟩
      obtain ⟨z, hz, rfl⟩ := List.mem_map.mp hd
      exact Im.str (h2 z hz)
    | _ => exact nomatch e
theorem Ac.tup {ds : List D} (h : Ac (.tup ds)) : ds.length ≤ 8 ∧ ∀ d ∈ ds, Im d := by
  rcases h with h | ⟨es, e | e, h1, h2⟩
  · exact od_tup h
  · exact nomatch e
  · obtain rfl : ds = es := by injection e
    exact ⟨h1, h2⟩
def one (f : D → Bool) : List D → Bool
  | [a] => f a
  | _ => false
def Cz (n : Nat) (z : Str) : Prop := z.length ≤ n ∧ ∀ c ∈ z.cps.toList, c < 1114112
theorem Cz.app {n m : Nat} {a b : Str} (h1 : Cz n a) (h2 : Cz m b) : Cz (n + m) (a ++ b) := by
  have e : (a ++ b).cps = a.cps ++ b.cps := PySem.Str.cps_append a b
  refine ⟨?_, fun c hc => ?_⟩
  · show (a ++ b).cps.size ≤ _
    rw [e, Array.size_append]
    exact Nat.add_le_add h1.1 h2.1
  · rw [e, Array.toList_append] at hc
    exact (List.mem_append.mp hc).elim (h1.2 c) (h2.2 c)
end L3
namespace L4
open PySem PySem.Spec PyProof.Rows L2 TB LamX L3
section
variable {X : Sx} {K : PySem.W.Frag}
def mu0 : Mu := fun _ => none
theorem rel_bare {c : Ct} {F H : Hp} {σ : L2.St} {ρ : PSt} (R : Rel c F H σ ρ) : R4 ⟨c.X, F, H, mu0⟩ F H mu0 [] [] :=
  ⟨rfl, R.sub, (fun i x e => by simp at e), (fun a m e => nomatch e), (fun a m e => nomatch e), R.nt, R.tab, R.tabF, L3.Same.refl F, (fun b o e _ _ => e), (fun b e => e), (fun b o e => Or.inl e)⟩
def qMkP (C : Addr) (P : PSp4) (dv : List D) (pa : QA) : QE := fun ρ Q => pa ρ fun rs ρ1 => ∃ ds : List D, rs = ds.map Rv.val ∧
  ∀ x dx : Addr, P (.loc x :: (ds.map Vl.d ++ dv.map Vl.d)) (updM mu0 x (.ins C dx [])) (fun r μ2 => r = .d .non ∧ ∃ fs es, μ2 x = some (.ins C dx fs) ∧ allD (fs.map (·.2)) = some es ∧ Q (.val (.ins C (fs.map (·.1)) es)) ρ1) (fun _ _ => False)
theorem li_mkP {C : Addr} {P : PSp4} {dv : List D} {dvs : List V} {ta : TA} {pa : QA} {E : XK} (hd : DvOk X.K dv dvs) (h1 : LiA X ta pa) : LiE X (tMake C (lsp4 X P) dvs E ta) (qMkP C P dv pa) := by
  intro c hX σ F H ρ Q Q3 R hq h
  subst hX
  refine h1 c rfl σ F H ρ _ _ R ?_ h
  rintro rs ρ1 vs F1 H1 R1 s1 rv ⟨ds, rfl, hp⟩ x dx nx ndx ne
  have rl := rvl_vals rv
  have R2 := (rel_bare R1).inst (C := C) nx ndx ne
  refine ⟨F1, _, .loc x :: (ds.map Vl.d ++ dv.map Vl.d), _, _, R2.here.bare, ⟨_, _, rfl, rfl, (RVs.ofData rl).app (RVs.ofData (hd F1))⟩, hp x dx, ?_, fun _ _ _ _ _ _ _ _ z => z.elim⟩
  rintro r v F3 H3 μ3 R3 rr ⟨rfl, fs, es, em, ed, q⟩
  obtain ⟨F4, R4', s4, rp⟩ := (R2.slots R3).freezeI em ed nx ndx
  have st : Step c.X [] F1 H1 F4 H3 := by
    exact ⟨rfl, R4'.sub, (fun i pv e => by simp at e), (fun i j f1 o1 f2 o2 p e => by simp at e), R4'.nt, R4'.tab, R4'.tabF, R4'.fr, (fun b o e _ nt => R4'.kp b o e rfl nt), R4'.dom, (fun b o e => by
      rcases R4'.nw b o e with h | h | h | h
      · exact Or.inl h
      · exact Or.inr (Or.inl h)
      · exact absurd rfl h
      · exact Or.inr (Or.inr (Or.inr h))), fun p hp => R4'.dom p hp⟩
  have rp2 : L3.RV c F4 σ (Rv.val (D.ins C (fs.map (·.1)) es)) (V.ref x) := rp
  exact ⟨rr, hq _ ρ1 _ F4 H3 (Step.own st R1) (tr s1 st.fr) rp2 q⟩
theorem w_mkP {C : Addr} {P : PSp4} {dv : List D} {pa : QA} {ρ : PSt} {Q : Rv → PSt → Prop} (h : pa ρ fun rs ρ1 => ∃ ds : List D, rs = ds.map Rv.val ∧
  ∀ x dx : Addr, P (.loc x :: (ds.map Vl.d ++ dv.map Vl.d)) (updM mu0 x (.ins C dx [])) (fun r μ2 => r = .d .non ∧ ∃ fs es, μ2 x = some (.ins C dx fs) ∧ allD (fs.map (·.2)) = some es ∧ Q (.val (.ins C (fs.map (·.1)) es)) ρ1) (fun _ _ => False)) : qMkP C P dv pa ρ Q := h
end
end L4
namespace L4
open PySem PySem.Spec PyProof.Rows L2 TB LamX L3
theorem dd_inj {d e : Dd} (h : ddD d = ddD e) : d = e := by
  have h : D.str d.w :: d.ps = D.str e.w :: e.ps := by unfold ddD at h; injection h
  obtain ⟨h1, h2⟩ := List.cons.inj h
  have h1 := str_injD h1
  cases d <;> cases e <;> dsimp only [Dd.w] at h1 <;> first
    | (exact absurd h1 (by decide +kernel))
    | (simp only [Dd.ps, List.cons.injEq, D.int.injEq, D.str.injEq, and_true] at h2; first | (subst h2; rfl) | (obtain ⟨rfl, rfl⟩ := h2; rfl) | rfl)
theorem map_inj {α : Type} {f : α → D} (h : ∀ {a b}, f a = f b → a = b) : ∀ {xs ys : List α}, xs.map f = ys.map f → xs = ys
  | [], [], _ => rfl
  | [], _ :: _, e => nomatch e
  | _ :: _, [], e => nomatch e
  | x :: xs, y :: ys, e => by
    obtain ⟨h1, h2⟩ := List.cons.inj e
    rw [h h1, map_inj h h2]
theorem cl_inj {a b : Cl} (h : clD a = clD b) : a = b := by
  obtain ⟨a1, a2, a3⟩ := a
  obtain ⟨b1, b2, b3⟩ := b
  simp only [clD, D.tup.injEq, List.cons.injEq, D.str.injEq, D.int.injEq, and_true] at h
  obtain ⟨rfl, rfl, rfl⟩ := h
  rfl
theorem tk_inj {a b : Tk} (h : tkD a = tkD b) : a = b := by
  obtain ⟨a1, a2⟩ := a
  obtain ⟨b1, b2⟩ := b
  simp only [tkD, D.tup.injEq, List.cons.injEq, D.str.injEq, D.lst.injEq, and_true] at h
  obtain ⟨rfl, h⟩ := h
  rw [map_inj dd_inj h]
theorem str_inj {a b : List Str} (h : strsD a = strsD b) : a = b := map_inj (f := D.str) str_injD h
/-- what a plan holds -/
def planT (p : PlanL) : D := .tup [.lst (strsD p.locks), .lst (p.cells.map clD), .lst (p.tasks.map tkD)]
theorem planT_inj {p q : PlanL} : planT p = planT q ↔ p = q := by
  constructor
  · intro h
    obtain ⟨a1, a2, a3⟩ := p
    obtain ⟨b1, b2, b3⟩ := q
    simp only [planT, D.tup.injEq, List.cons.injEq, D.lst.injEq, and_true] at h
    obtain ⟨h1, h2, h3⟩ := h
    rw [str_inj h1, map_inj cl_inj h2, map_inj tk_inj h3]
  · rintro rfl
    rfl
theorem _root_.L3.PlanOk.nml {p : PlanL} (ok : PlanOk p) : ∀ z ∈ p.locks, Nm z := fun z hz => ok.nm z (List.mem_append_left _ (List.mem_append_left _ hz))
theorem _root_.L3.PlanOk.nmc {p : PlanL} (ok : PlanOk p) : ∀ z ∈ p.cellNames, Nm z := fun z hz => ok.nm z (List.mem_append_left _ (List.mem_append_right _ hz))
theorem _root_.L3.PlanOk.nmt {p : PlanL} (ok : PlanOk p) : ∀ z ∈ p.names, Nm z := fun z hz => ok.nm z (List.mem_append_right _ hz)
theorem cln_tk {p : PlanL} (ok : PlanOk p) : ∀ t ∈ p.tasks, cln (tkD t) = true := fun t ht => clnL_iff.mpr fun d hd => by
  simp only [List.mem_cons, List.not_mem_nil, or_false] at hd
  rcases hd with rfl | rfl
  · exact L3.strOk_nm (ok.nmt _ (List.mem_map_of_mem ht))
  · exact cln_map fun e he => cln_dd ((ok.bd t ht).ok e he) ok.nml ok.nmc
theorem dpt_tk (t : Tk) : dpt (tkD t) ≤ 3 := by
  have h := dpt_map (enc := ddD) (n := 1) (xs := t.2) fun e _ => dpt_dd e
  show dptL [D.str t.1, .lst (t.2.map ddD)] + 1 ≤ 3
  have : dptL [D.str t.1, .lst (t.2.map ddD)] ≤ 2 := dptL_le fun d hd => by
    simp only [List.mem_cons, List.not_mem_nil, or_false] at hd
    rcases hd with rfl | rfl
    · simp [dpt]
    · exact h
  omega
theorem cln_plan {p : PlanL} (ok : PlanOk p) : cln (planT p) = true := clnL_iff.mpr fun d hd => by
  simp only [List.mem_cons, List.not_mem_nil, or_false] at hd
  rcases hd with rfl | rfl | rfl
  · exact cln_map (enc := D.str) fun z hz => L3.strOk_nm (ok.nml z hz)
  · exact cln_map fun c hc => cln_cl (ok.nmc _ (List.mem_map_of_mem hc)) (ok.nml _ (ok.cl c hc).1)
  · exact cln_map (cln_tk ok)
theorem dpt_plan (p : PlanL) : dpt (planT p) ≤ 10 := by
  show dptL [D.lst (strsD p.locks), .lst (p.cells.map clD), .lst (p.tasks.map tkD)] + 1 ≤ 10
  have : dptL [D.lst (strsD p.locks), .lst (p.cells.map clD), .lst (p.tasks.map tkD)] ≤ 9 := dptL_le fun d hd => by
    simp only [List.mem_cons, List.not_mem_nil, or_false] at hd
    rcases hd with rfl | rfl | rfl
    · exact Nat.le_trans (dpt_map (enc := D.str) (n := 0) fun _ _ => Nat.le_refl _) (by decide)
    · exact Nat.le_trans (dpt_map (n := 1) fun c _ => Nat.le_of_eq (dpt_cl c)) (by decide)
    · exact Nat.le_trans (dpt_map (n := 3) fun t _ => dpt_tk t) (by decide)
  omega
theorem w_eqPlanT {p q : PlanL} {F : D → Prop} (hp : PlanOk p) (hq : PlanOk q) (h : ∀ b : Bool, (b = true ↔ p = q) → F (.bl b)) : oEqD false (planT p) (planT q) F :=
  w_eqC (cln_plan hp) (cln_plan hq) (Nat.le_trans (dpt_plan p) (by decide)) (Nat.le_trans (dpt_plan q) (by decide)) fun b hb => h b (hb.trans planT_inj)
def pPlEq (C : Addr) : PSp := fun ds Q => (∃ p q, ds = [planD C p, planD C q] ∧ PlanOk p ∧ PlanOk q ∧ ∀ b : Bool, (b = true ↔ p = q) → Q (.val (.bl b)) none) ∨ ∃ p y, ds = [planD C p, y] ∧ othD y = true ∧ Q (.val (.bl false)) none
end L4
namespace L3
open PySem PySem.Spec PyProof.Rows L2 TB LamX
section
variable {X : Sx} {K : PySem.W.Frag}
inductive LiEs (X : Sx) : List TE → List QE → Prop
  | nil : LiEs X [] []
  | cons {t : TE} {p : QE} {ts : List TE} {ps : List QE} (h : LiE X t p) (r : LiEs X ts ps) : LiEs X (t :: ts) (p :: ps)
end
end L3
namespace L3
open PySem PySem.Spec PyProof.Rows L2 TB LamX OwnE
section
variable {X : Sx} {K : PySem.W.Frag}
structure IsiC (K : PySem.W.Frag) (C : Addr) : Prop where
  ic : C8.InsC K C
  no : ∀ T ∈ tys, PySem.W.kitOne K (.type T) (.ref C) = some false
theorem isiC_of {C : Addr} (h : insCB K C = true) (c : Cls K C) : IsiC K C := ⟨(insC_of h c).1, (insC_of h c).2⟩
theorem lc_isiP {C : Addr} (ic : IsiC K C) (hK : X.K = K := by rfl) : LiC X (rIsi K) (oIsiC C) := by
  subst hK
  intro c hX σ F H ρ xs dxs Q Q3 R rx hq h
  subst hX
  rcases h with ⟨ns, es, rfl, h⟩ | ⟨d, rfl, o, h⟩
  · obtain ⟨v, u, rfl, rv, v2, u2, rfl, rv2, eu⟩ := rx
    obtain rfl : u2 = [] := eu
    obtain rfl : v2 = .ref C := rv2
    obtain ⟨a, dx, fs, rfl, hA⟩ := ins_at R.sub rv
    exact ⟨.ref a, .ref C, .ref C, .ref C, true, rfl, .own C, .base (.ins hA ic.ic.cl ic.ic.ha ic.ic.hn ic.ic.htk ic.ic.hm), ic.ic.me, hq (.bl true) _ F H R (L3.Same.refl F) rfl h⟩
  · obtain ⟨v, u, rfl, rv, v2, u2, rfl, rv2, eu⟩ := rx
    obtain rfl : u2 = [] := eu
    obtain rfl : v2 = .ref C := rv2
    obtain ⟨T, hT, t⟩ := oth_ty R.sub rv o
    exact ⟨v, .ref C, .type T, .ref C, false, rfl, .own C, t, ic.no T hT, hq (.bl false) _ F H R (L3.Same.refl F) rfl h⟩
theorem li_isiP {C : Addr} {ta : TA} {pa : QA} (ic : IsiC K C) (ha : LiA X ta pa) (hK : X.K = K := by rfl) : LiE X (tCB (rIsi K) ta) (qCB (oIsiC C) pa) := li_cb (lc_isiP ic hK) ha
end
end L3
namespace L3
open PySem PySem.Spec PyProof.Rows L2 TB LamX
theorem Dd.ok.mono {ls ns ls' ns' : List Str} (h1 : ∀ z ∈ ls, z ∈ ls') (h2 : ∀ z ∈ ns, z ∈ ns') : ∀ {d : Dd}, d.ok ls ns → d.ok ls' ns'
  | .set _, h => h
  | .add _, h => h
  | .take _, h => h1 _ h
  | .read _, h => h2 _ h
  | .write _, h => h2 _ h
  | .skip _ _, h => h
  | .quit, h => h
theorem BodyOk.mono {ls ns ls' ns' : List Str} {b : List Dd} (h1 : ∀ z ∈ ls, z ∈ ls') (h2 : ∀ z ∈ ns, z ∈ ns') (h : BodyOk ls ns b) : BodyOk ls' ns' b := ⟨h.len, fun d hd => Dd.ok.mono h1 h2 (h.ok d hd), h.leap⟩
theorem BodyOk.nil {ls ns : List Str} : BodyOk ls ns [] := ⟨by decide, (fun _ h => nomatch h), fun i d e => by simp at e⟩
theorem BodyOk.tail {ls ns : List Str} {b : List Dd} (h : BodyOk ls ns b) : BodyOk ls ns (b.drop 1) := by
  refine ⟨by rw [List.length_drop]; have := h.len; omega, fun d hd => h.ok d (List.mem_of_mem_drop hd), fun i d e => ?_⟩
  rw [List.getElem?_drop] at e
  have h1 := h.leap _ d e
  have h2 := (List.getElem?_eq_some_iff.mp e).1
  rw [List.length_drop]
  omega
theorem BodyOk.quit {ls ns : List Str} {b : List Dd} (h : BodyOk ls ns b) (l : b.length < 12) : BodyOk ls ns (b ++ [Dd.quit]) := by
  refine ⟨by rw [List.length_append, List.length_singleton]; omega, fun d hd => ?_, fun i d e => ?_⟩
  · rcases List.mem_append.mp hd with hd | hd
    · exact h.ok d hd
    · rw [List.mem_singleton.mp hd]; exact trivial
  · rw [List.length_append, List.length_singleton]
    by_cases c : i < b.length
    · rw [List.getElem?_append_left c] at e
      have := h.leap i d e
      omega
    · rw [List.getElem?_append_right (by omega)] at e
      have hm := List.mem_of_getElem? e
      rw [List.mem_singleton.mp hm]
      have hi : i - b.length < 1 := (List.getElem?_eq_some_iff.mp e).1
      show (-1 : Int) < _
      omega
theorem BodyOk.set {ls ns : List Str} {b : List Dd} {k : Nat} {d e : Dd} (h : BodyOk ls ns b) (hk : b[k]? = some d) (he : e.ok ls ns) (hl : e.leap = d.leap) : BodyOk ls ns (b.set k e) := by
  refine ⟨by rw [List.length_set]; exact h.len, fun x hx => ?_, fun i x ex => ?_⟩
  · rcases List.mem_or_eq_of_mem_set hx with hx | rfl
    · exact h.ok x hx
    · exact he
  · rw [List.length_set]
    by_cases c : k = i
    · subst c
      rw [List.getElem?_set_self (List.getElem?_eq_some_iff.mp hk).1] at ex
      obtain rfl := Option.some.inj ex
      rw [hl]
      exact h.leap k d hk
    · rw [List.getElem?_set_ne c] at ex
      exact h.leap i x ex
def pBuilt (C : Addr) : PSp := fun ds Q => ∃ p, ds = [drawnD p] ∧ PlanOk p ∧ Q (.val (planD C p)) none
end L3
namespace L2
open PySem PySem.Spec PyProof.Rows TB
end L2
namespace L3
open PySem PySem.Spec PyProof.Rows L2 TB LamX OwnE
/-- what a plan is held against -/
abbrev DueP (C : Addr) (p : PlanL) (x : D) (due : Bool) : Prop := (∃ q, x = planD C q ∧ PlanOk q ∧ (due = true ↔ p = q)) ∨ (othD x = true ∧ due = false)
section
open L4 (pPlEq)
variable {C : Addr}
theorem ownp_a {neg c1 c2 : Bool} {p : PlanL} {x : D} {due : Bool} {Q : Bool → Prop} (hp : PlanOk p) (o : DueP C p x due) (h : Q (if neg then !due else due)) : oOwn C neg (pPlEq C) c1 c2 (planD C p) x Q := by
  rcases o with ⟨q, rfl, hq, e⟩ | ⟨o, rfl⟩
  · refine w_eqOwn1 (Or.inl ⟨_, _, rfl⟩) (Or.inl ⟨p, q, rfl, hp, hq, fun b hb => ⟨Or.inr rfl, _, rfl, ?_⟩⟩)
    obtain rfl : b = due := by
      have := hb.trans e.symm
      cases b <;> cases due <;> simp_all
    exact h
  · exact w_eqOwn1 (Or.inr o) (Or.inr ⟨p, x, rfl, o, Or.inr rfl, _, rfl, h⟩)
end
end L3
namespace L3
open PySem PySem.Spec PyProof.Rows L2 TB LamX
end L3
namespace L3
open PySem PySem.Spec PyProof.Rows L2 TB LamX OwnE
end L3
namespace L2
open PySem PySem.Spec PyProof.Rows LiI
abbrev SI := Str × Int
def dSI (b : SI) : PyData := .tuple [.str b.1, .int b.2]
def leSI : SI → SI → Bool := PySem.W.dataLe false dSI
def entSI (b : SI) : Key × V := (Sum.inr b.1, .int b.2)
/-- a list of new pairs at l -/
def pairsAt (H : Hp) (l : Addr) (ts : List Addr) (kvs : List (Key × V)) : Hp := putT (upd H l (.lst (ts.map V.ref))) ts kvs
def NewTs (H : Hp) (l : Addr) (ts : List Addr) : Prop := ts.Nodup ∧ (∀ t ∈ ts, H t = none) ∧ H l = none ∧ l ∉ ts
section
variable {X : Cx}
theorem laidT {pins : List (Addr × Obj)} {σ : L2.St} {H : Hp} {s : Shared} {h' : Heap} {tk : Nat} {kvs : List (Key × V)} {acc : Array Value} {c : Nat} {S : Addr} {ts : List Addr} (I : Inv X pins σ H s) (hz : kvs.length ≤ sizeLine)
    (hk : ∀ b o, s.heap.get? b = some o → h'.get? b = some o) (hSlo : s.heap.objs.size ≤ S) (hlo : ∀ t ∈ ts, s.heap.objs.size ≤ t) (nd : ts.Nodup) (hSn : S ∉ ts) (hS : h'.get? S = some { cls := .type "list", dict := none, data := .seq acc c, slots := #[] }) (hacc : acc.toList = ts.map Value.ref) (hl : ts.length = kvs.length)
    (hT : ∀ (j : Nat) (t : Addr), ts[j]? = some t → ∃ pk key x, kvs[j]? = some pk ∧ RelV (kV pk.1) key ∧ RelV pk.2 x ∧ h'.get? t = some { cls := .type "tuple", data := .seq #[key, x] }) :
    Inv X pins σ (pairsAt H S ts kvs) { s with heap := h', toks := tk } ∧ NewTs H S ts := by
  have new : ∀ t ∈ ts, H t = none := fun t ht => I.hok.fresh (hlo t ht)
  have newS : H S = none := I.hok.fresh hSlo
  have atP := putT_at ts kvs (upd H S (.lst (ts.map V.ref))) hl nd
  have off : ∀ b, b ∉ ts → b ≠ S → putT (upd H S (.lst (ts.map V.ref))) ts kvs b = H b := fun b h1 h2 => by rw [putT_off ts kvs _ h1, upd_ne h2]
  have low : ∀ b o, s.heap.get? b = some o → b ∉ ts ∧ b ≠ S := fun b o e => ⟨fun z => absurd (Heap.lt_size e) (Nat.not_lt.mpr (hlo b z)), Nat.ne_of_lt (Nat.lt_of_lt_of_le (Heap.lt_size e) hSlo)⟩
  have kp : ∀ b u, H b = some u → (putT (upd H S (.lst (ts.map V.ref))) ts kvs) b = some u := fun b u e => by
    rw [off b (fun z => by rw [new b z] at e; cases e) (fun z => by rw [z, newS] at e; cases e)]
    exact e
  have eS : putT (upd H S (.lst (ts.map V.ref))) ts kvs S = some (.lst (ts.map V.ref)) := by rw [putT_off ts kvs _ hSn, upd_same]
  refine ⟨?_, nd, new, newS, hSn⟩
  unfold pairsAt
  refine I.call' (ch := []) rfl ⟨fun b o q _ _ _ => hk b o q, fun b o q _ _ _ => ⟨o.slots, hk b o q⟩, fun b o q n _ => ?_, fun b o q _ => ⟨o, hk b o q⟩, fun b xs q => kp b _ q, fun b o u q => kp b _ q, fun b ps q => ⟨#[], by rw [kp b _ q]; simp⟩⟩ (fun b u q => ?_) I.bare fun b z => by simp at z
  · obtain ⟨z1, z2⟩ := low b o q
    rw [off b z1 z2]
    exact n
  · by_cases hb : b ∈ ts
    · obtain ⟨j, pk, e1, e2, e3⟩ := paired_ix atP hb
      rw [e3] at q
      cases q
      obtain ⟨pk2, key, x, f1, f2, f3, f4⟩ := hT j b e1
      rw [f1] at e2
      cases e2
      exact ⟨by show 2 ≤ sizeLine; decide, [key, x], .cons f2 (.cons f3 .nil), ⟨_, f4, rfl, _, rfl⟩⟩
    · by_cases hb2 : b = S
      · rw [hb2] at q ⊢
        rw [eS] at q
        cases q
        refine ⟨by rw [List.length_map]; omega, acc.toList, c, by rw [hacc]; exact vals_refs ts, ?_⟩
        rw [Array.toArray_toList]
        exact hS
      · rw [off b hb hb2] at q
        exact (I.hok b u q).stay (fun d v _ y => hk d v y) (fun d y => kp d _ y) fun d xs y => kp d _ y
def tListIt (te : TE) : TE := fun σ H Q => te σ H fun x H1 => ∃ (d : Addr) (kvs : List (Key × V)), x = .ref d ∧ H1 d = some (.dK kvs) ∧ ∀ (ts : List Addr) (l : Addr), ts.length = kvs.length → NewTs H1 l ts → Q (.ref l) (pairsAt H1 l ts kvs)
def tSortIt (te : TE) : TE := fun σ H Q => te σ H fun x H1 => ∃ (d : Addr) (kvs : List SI), x = .ref d ∧ H1 d = some (.dK (kvs.map entSI)) ∧ ∀ (ts : List Addr) (l : Addr), ts.length = kvs.length → NewTs H1 l ts → Q (.ref l) (pairsAt H1 l ts ((kvs.mergeSort leSI).map entSI))
variable {e : Expr} {te : TE} {p apos cpos pos : Pos}
/-- list(e.items()) -/
theorem pe_listIt (hc : X.calm = true) (he : PE X e te) (hg : Gl X "list") (hm : X.mg "list" = none) (hv : bootBuiltins "list" = some (.type "list") := by decide +kernel) (hbase : attributeBase e "items" X.env (eval e X.env) = eval e X.env := by rfl) (hline : (apos.endLine == cpos.line) = true := by rfl)
    (hs : starEach [.Call (.Attribute e "items" apos) [] [] cpos] X.env = (false, eval (.Call (.Attribute e "items" apos) [] [] cpos) X.env) :: starEach [] X.env := by rfl) :
    PE X (.Call (.Name "list" p) [.Call (.Attribute e "items" apos) [] [] cpos] [] pos) (tListIt te) := by
  refine ⟨fun pins s σ H Q I hq => ?_⟩
  refine wpAny_Call_Name_kw (ld_blt I hg hm hv ?_)
  refine PyProof.Rows.callWith_type1 ?_ hs rfl
  rw [hs]
  show wpAny _ _ (spliced ((false, eval (.Call (.Attribute e "items" apos) [] [] cpos) X.env) :: backTo pos (starEach [] X.env))) _ _ s
  refine Calls.spliced_cons ?_
  refine wpAny_Call_method (T := "dict") (id := "dict.items") hbase rfl hline F.plainAttrs_dict F.slot_dict_items F.type_dict_items (thn (he.run pins s σ H _ I hq) fun u s1 ⟨x, H1, I1, rx, d, kvs, ex, hd, q⟩ => ?_)
  subst ex
  obtain rfl : u = Value.ref d := rx
  obtain ⟨hz, hs0, vs, kv, hdo⟩ := I1.hok d _ hd
  obtain ⟨ep, hat⟩ := hdo.dictAt
  have lk : kvs.length = vs.length := Paired.length kv
  have I2 : Inv X pins σ H1 { s1 with heap := s1.heap.push { cls := .type "dict_items", data := .fields #[.ref d] } } := I1.kept (t' := s1.toks) fun b ob q => Heap.get?_push_of_some _ q
  refine ⟨hdo.typeIs, hdo.mapOf.noDict, ?_⟩
  show wpAny _ _ (callWith cpos (.builtin "dict.items") [.ref d] [] []) _ X.xe s1
  refine method_meetsIn F.slot_dict_items F.entry_dict_items rfl (PySem.evalArgs_none ⟨rfl, hdo.typeIs, F.args_dict_items_1 _, _, meets_dict_items (mixKind X.prog X.w) d hs0, ⟨vs, hdo⟩, ?_⟩)
  refine Calls.spliced_nil ?_
  refine PySem.W.kdx_call (knd := mixKind X.prog X.w) (kvs := vs) (ep := ep) (I1.ok.hd hc) ⟨_, Heap.get?_push_size _ rfl, rfl, rfl⟩ (hat.push _) (by omega) fun h' tk acc c as hk hS hl hG hacc => ?_
  obtain ⟨J, nt⟩ := laidT (tk := tk) I2 hz hk (Nat.le_refl _) (fun t ht => Nat.le_of_lt (hG.above t ht)) (List.Pairwise.imp (fun {a b} (h : a < b) => Nat.ne_of_lt h) hG.rise) (fun z => Nat.lt_irrefl _ (hG.above _ z)) hS hacc (by omega) fun j t ht => by
    obtain ⟨key, k, x, f1, f2, f3⟩ := hG.pairs j t ht
    obtain ⟨pk, g0, g2, g3⟩ := DX.pget kv f1
    exact ⟨pk, key, x, g0, by rw [g2]; exact relV_key (show keyIs k key = true from f2), g3, f3⟩
  exact ⟨.ref _, _, J, rfl, q as _ (by omega) nt⟩
def RSI (h : Heap) (lo : Nat) (v : Value) (b : SI) : Prop := ∃ (t : Addr) (t1 t2 : Tok), v = .ref t ∧ lo ≤ t ∧ h.get? t = some { cls := .type "tuple", data := .seq #[.str b.1 t1, .int b.2 t2] }
theorem each_refs {h : Heap} {lo : Nat} : ∀ {as : List Addr} {bs : List SI}, as.length = bs.length → (∀ (j : Nat) (a : Addr) (b : SI), as[j]? = some a → bs[j]? = some b → RSI h lo (.ref a) b) → PySem.W.EachIs (RSI h lo) (as.map Value.ref) bs
  | [], [], _, _ => .nil
  | [], _ :: _, e, _ => nomatch e
  | _ :: _, [], e, _ => nomatch e
  | a :: as, b :: bs, e, h => .cons (h 0 a b rfl rfl) (each_refs (Nat.succ.inj e) fun j x y h1 h2 => h (j + 1) x y (by simpa using h1) (by simpa using h2))
theorem each_out {h : Heap} {lo : Nat} : ∀ {out : List Value} {bs : List SI}, PySem.W.EachIs (RSI h lo) out bs → ∃ ts : List Addr, out = ts.map Value.ref ∧ ts.length = bs.length ∧ ∀ (j : Nat) (t : Addr) (b : SI), ts[j]? = some t → bs[j]? = some b → RSI h lo (.ref t) b
  | _, _, .nil => ⟨[], rfl, rfl, fun j t b e => by simp at e⟩
  | _, _, .cons ⟨t, t1, t2, e, l, g⟩ r => by
    obtain ⟨ts, rfl, hl, hk⟩ := each_out r
    subst e
    refine ⟨t :: ts, rfl, congrArg Nat.succ hl, fun j a b e1 e2 => ?_⟩
    cases j with
    | zero =>
      obtain rfl := Option.some.inj (show some _ = some a from e1)
      obtain rfl := Option.some.inj (show some _ = some b from e2)
      exact ⟨t, t1, t2, rfl, l, g⟩
    | succ j => exact hk j a b (by simpa using e1) (by simpa using e2)
theorem depth_SI (b : SI) : (dSI b).depth ≤ 1 := by simp [dSI, PyData.depth, PyData.depthAll]
theorem pe_sortIt (hc : X.calm = true) (hu : X.A.units + 65 < cLine) (he : PE X e te) (hg : Gl X "sorted") (hm : X.mg "sorted" = none) (hv : bootBuiltins "sorted" = some (.builtin "sorted") := by decide +kernel) (hbase : attributeBase e "items" X.env (eval e X.env) = eval e X.env := by rfl) (hline : (apos.endLine == cpos.line) = true := by rfl)
    (hs : starEach [.Call (.Attribute e "items" apos) [] [] cpos] X.env = (false, eval (.Call (.Attribute e "items" apos) [] [] cpos) X.env) :: starEach [] X.env := by rfl) :
    PE X (.Call (.Name "sorted" p) [.Call (.Attribute e "items" apos) [] [] cpos] [] pos) (tSortIt te) := by
  refine ⟨fun pins s σ H Q I hq => ?_⟩
  refine wpAny_Call_Name_kw (ld_blt I hg hm hv ?_)
  refine PyProof.Rows.callWith_builtin1 ?_ hs rfl
  rw [hs]
  show wpAny _ _ (spliced ((false, eval (.Call (.Attribute e "items" apos) [] [] cpos) X.env) :: backTo pos (starEach [] X.env))) _ _ s
  refine Calls.spliced_cons ?_
  refine wpAny_Call_method (T := "dict") (id := "dict.items") hbase rfl hline F.plainAttrs_dict F.slot_dict_items F.type_dict_items (thn (he.run pins s σ H _ I hq) fun u s1 ⟨x, H1, I1, rx, d, bs, ex, hd, q⟩ => ?_)
  subst ex
  obtain rfl : u = Value.ref d := rx
  obtain ⟨hz, hs0, vs, kv, hdo⟩ := I1.hok d _ hd
  obtain ⟨ep, hat⟩ := hdo.dictAt
  have lk : bs.length = vs.length := by
    have := Paired.length kv
    rw [List.length_map] at this
    exact this
  have I2 : Inv X pins σ H1 { s1 with heap := s1.heap.push { cls := .type "dict_items", data := .fields #[.ref d] } } := I1.kept (t' := s1.toks) fun b ob q => Heap.get?_push_of_some _ q
  refine ⟨hdo.typeIs, hdo.mapOf.noDict, ?_⟩
  show wpAny _ _ (callWith cpos (.builtin "dict.items") [.ref d] [] []) _ X.xe s1
  refine method_meetsIn F.slot_dict_items F.entry_dict_items rfl (PySem.evalArgs_none ⟨rfl, hdo.typeIs, F.args_dict_items_1 _, _, meets_dict_items (mixKind X.prog X.w) d hs0, ⟨vs, hdo⟩, ?_⟩)
  refine Calls.spliced_nil ?_
  have hh : X.A.handled = none := I1.ok.hd hc
  have nd : (bs.map (·.1)).Nodup := by
    obtain ⟨_, _, _, _, _, _, _, _, n⟩ := hdo
    have e1 : vs.map (·.1) = (bs.map (·.1)).map (fun z => (Sum.inr z : Key)) := by
      have : ∀ {bs : List SI} {vs : List (Key × Value)}, KV (bs.map entSI) vs → vs.map (·.1) = (bs.map (·.1)).map (fun z => (Sum.inr z : Key)) := by
        intro bs
        induction bs with
        | nil => intro vs h; cases h; rfl
        | cons b bs ih =>
          intro vs h
          rw [List.map_cons] at h
          cases h with
          | cons h1 h2 =>
            rw [List.map_cons, ih h2, ← h1.1]
            rfl
      exact this kv
    rw [e1] at n
    exact List.Pairwise.of_map _ (fun a b h e => h (by rw [e])) n
  have hz2 : bs.length ≤ sizeLine := by rw [List.length_map] at hz; exact hz
  refine PySem.Calls.call_function_entry kind_sorted plain_sorted entry_sorted (args_sorted1 _) ?_
  unfold Builtin.«sorted»
  refine wpAny_bind (m := checkCount "sorted" 1 1 _) (wpAny_pure ?_)
  refine wpAny_bind (PySem.W.kdx_collect (knd := mixKind X.prog X.w) (kvs := vs) (ep := ep) (A := X.A.in1) hh ⟨_, Heap.get?_push_size _ rfl, rfl, rfl⟩ (hat.push _) (by omega) fun h' tk as hk hl hG => ?_)
  refine wpAny_bind (wpAny_newList ?_ (by rw [List.length_map, hl]; omega))
  have gt : ∀ (j : Nat) (a : Addr) (b : SI), as[j]? = some a → bs[j]? = some b → RSI (h'.push { cls := .type "list", data := .seq (as.map Value.ref).toArray }) (s1.heap.objs.size + 1) (.ref a) b := by
    intro j a b e1 e2
    obtain ⟨key, k, x, f1, f2, f3⟩ := hG.pairs j a e1
    obtain ⟨pk, g0, g2, g3⟩ := DX.pget kv f1
    rw [List.getElem?_map, e2] at g0
    obtain rfl := Option.some.inj g0
    have r1 : RelV (.str b.1) key := by
      have := relV_key (show keyIs k key = true from f2)
      have g4 : (Sum.inr b.1 : Key) = k := g2
      rw [← g4] at this
      exact this
    obtain ⟨t1, rfl⟩ := r1
    obtain ⟨t2, rfl⟩ := g3
    have hm : a ∈ as := List.mem_of_getElem? e1
    refine ⟨a, t1, t2, rfl, Nat.le_of_lt (Nat.lt_of_le_of_lt ?_ (hG.above a hm)), Heap.get?_push_of_some _ f3⟩
    show s1.heap.objs.size + 1 ≤ (s1.heap.push _).objs.size
    rw [Heap.size_push]
    exact Nat.le_refl _
  have eR := each_refs (lo := s1.heap.objs.size + 1) (bs := bs) (by omega) gt
  have hob : (h'.push { cls := .type "list", data := .seq (as.map Value.ref).toArray }).get? h'.objs.size = some (seqObj "list" (as.map Value.ref).toArray 0) := Heap.get?_push_size _ rfl
  have hn1 : ∀ a ∈ as, a ≠ h'.objs.size := fun a ha => Nat.ne_of_lt (hG.there ha)
  have eRd : PySem.W.EachIs (fun v b => ∃ zs, Reads (h'.push { cls := .type "list", data := .seq (as.map Value.ref).toArray }) v (dSI b) zs ∧ h'.objs.size ∉ zs) (as.map Value.ref) bs :=
    eR.mono fun v b ⟨t, t1, t2, e1, _, g⟩ => ⟨[] ++ ([] ++ []), by rw [e1]; exact .tuple g rfl rfl (.cons (.str _ _) (.cons (.int _ _) .nil)), by simp⟩
  have hg := PySem.W.list_sort_data (prog := X.prog) (w := X.w) (A := X.A.in1) (E := X.xe) (s := { s1 with heap := h'.push { cls := .type "list", data := .seq (as.map Value.ref).toArray }, toks := tk }) (Q := fun _ s' => EP X pins σ Q (.ref h'.objs.size) s') (enc := dSI) (bs := bs) hob eR eRd
    (PySem.W.AllAlike.of fun b b' => by simp [dSI, PySem.W.alike, PySem.W.alikeAll]) (PySem.W.Sortable.tuples fun b => ⟨_, _, rfl⟩) hz2 (fun b _ => by
      have := depth_SI b
      show X.A.units + 1 + 1 + (dSI b).depth < cLine
      omega) (fun out ho he => ?_)
  · refine wpAny_bind (wpAny_holding (wpAny_mono hg (fun _ s' x => ?_) fun _ _ e => e))
    exact wpAny_pure ⟨_, rfl, x⟩
  · obtain ⟨ts, rfl, hl2, hts⟩ := each_out he
    have pm : (bs.mergeSort (PySem.W.dataLe false dSI)).Perm bs := List.mergeSort_perm _ _
    have nd2 : ((bs.mergeSort (PySem.W.dataLe false dSI)).map (·.1)).Nodup := (pm.map (·.1)).nodup_iff.mpr nd
    obtain ⟨c, hat2⟩ := sortedHeap_at (vs := as.map Value.ref) (out := (ts.map Value.ref).toArray) hob
    have sz : (h'.push { cls := .type "list", data := .seq (as.map Value.ref).toArray }).objs.size = h'.objs.size + 1 := Heap.size_push _ _
    have old : ∀ b o, b ≠ h'.objs.size → (h'.push { cls := .type "list", data := .seq (as.map Value.ref).toArray }).get? b = some o → (sortedHeap (h'.push { cls := .type "list", data := .seq (as.map Value.ref).toArray }) h'.objs.size (as.map Value.ref) (ts.map Value.ref).toArray).get? b = some o := fun b o hb e => by
      rw [sortedHeap_old hb (Heap.lt_size e)]
      exact e
    have tne : ∀ t ∈ ts, t ≠ h'.objs.size ∧ s1.heap.objs.size + 1 ≤ t := fun t ht => by
      obtain ⟨j, hj, ej⟩ := List.mem_iff_getElem.mp ht
      have e1 : ts[j]? = some t := by rw [← ej]; exact List.getElem?_eq_getElem hj
      obtain ⟨b, e2⟩ : ∃ b, (bs.mergeSort (PySem.W.dataLe false dSI))[j]? = some b := ⟨_, List.getElem?_eq_getElem (by omega)⟩
      obtain ⟨t', t1, t2, e3, l, g⟩ := hts j t b e1 e2
      cases e3
      refine ⟨fun z => ?_, l⟩
      rw [z, hob] at g
      have g2 := congrArg Obj.cls (Option.some.inj g)
      exact absurd (show Value.type "list" = Value.type "tuple" from g2) (by decide)
    have ndt : ts.Nodup := by
      rw [List.nodup_iff_pairwise_ne, List.pairwise_iff_getElem]
      intro i j hi hj hij e
      have e1 : ts[i]? = some ts[i] := List.getElem?_eq_getElem hi
      have e2 : ts[j]? = some ts[i] := by rw [e]; exact List.getElem?_eq_getElem hj
      have hi2 : i < (bs.mergeSort (PySem.W.dataLe false dSI)).length := by omega
      have hj2 : j < (bs.mergeSort (PySem.W.dataLe false dSI)).length := by omega
      obtain ⟨_, t1, t2, e3, l, g⟩ := hts i _ _ e1 (List.getElem?_eq_getElem hi2)
      obtain ⟨_, u1, u2, e4, _, g2⟩ := hts j _ _ e2 (List.getElem?_eq_getElem hj2)
      cases e3
      cases e4
      rw [g] at g2
      have g3 := congrArg Obj.data (Option.some.inj g2)
      injection g3 with g3
      have g4 := congrArg (fun a : Array Value => a.toList) g3
      injection g4 with g4 _
      injection g4 with g5
      have n3 : (bs.mergeSort (PySem.W.dataLe false dSI)).map (·.1) = (bs.mergeSort (PySem.W.dataLe false dSI)).map (·.1) := rfl
      have := (List.getElem_inj (i := i) (j := j) (h₀ := by rw [List.length_map]; exact hi2) (h₁ := by rw [List.length_map]; exact hj2) nd2).mp (by rw [List.getElem_map, List.getElem_map]; exact g5)
      omega
    have hview : s1.heap.objs.size < h'.objs.size := Heap.lt_size (hk _ _ (Heap.get?_push_size _ rfl))
    obtain ⟨J, nt⟩ := laidT (tk := tk) (kvs := (bs.mergeSort leSI).map entSI) (S := h'.objs.size) (ts := ts) (h' := sortedHeap (h'.push { cls := .type "list", data := .seq (as.map Value.ref).toArray }) h'.objs.size (as.map Value.ref) (ts.map Value.ref).toArray) I2 (by rw [List.length_map]; show (bs.mergeSort (PySem.W.dataLe false dSI)).length ≤ _; rw [pm.length_eq]; exact hz2) (fun b o e => old b o (Nat.ne_of_lt (Heap.lt_size (hk b o e))) (Heap.get?_push_of_some _ (hk b o e))) (by
      show (s1.heap.push _).objs.size ≤ _
      rw [Heap.size_push]; exact hview) (fun t ht => by
      show (s1.heap.push _).objs.size ≤ _
      rw [Heap.size_push]; exact (tne t ht).2) ndt (fun z => (tne _ z).1 rfl) hat2 (by simp) (by rw [List.length_map]; exact hl2) (fun j t ht => by
      obtain ⟨b, e2⟩ : ∃ b, (bs.mergeSort (PySem.W.dataLe false dSI))[j]? = some b := ⟨_, List.getElem?_eq_getElem (by have := (List.getElem?_eq_some_iff.mp ht).1; omega)⟩
      obtain ⟨t', t1, t2, e3, l, g⟩ := hts j t b ht e2
      cases e3
      refine ⟨entSI b, .str b.1 t1, .int b.2 t2, ?_, ⟨t1, rfl⟩, ⟨t2, rfl⟩, old _ _ (tne t (List.mem_of_getElem? ht)).1 g⟩
      rw [List.getElem?_map]
      show ((bs.mergeSort (PySem.W.dataLe false dSI))[j]?).map entSI = _
      rw [e2]
      rfl)
    have lts : ts.length = bs.length := by rw [hl2, pm.length_eq]
    exact ⟨.ref _, _, J, rfl, q ts _ lts nt⟩
end
end L2
namespace L2
open PySem PySem.Spec PyProof.Rows
theorem tuple_keys_none : typeLookup (.type "tuple") "keys" = pure none := am_miss_of_fast (by first | decide +kernel | rfl)
section
variable {prog : Program} {w : World} {A : Around} {E : Value → Shared → Prop}
theorem miss_tuple {s : Shared} {a : Addr} {o : Obj} {xs : Array Value} {k : Nat} {Q : Option Value → Shared → Prop} (hx : s.heap.get? a = some o) (hc : o.cls = .type "tuple") (hdat : o.data = .seq xs k) (hd : o.dict = none) (hA : A.handled = none)
    (h : ∀ h' tk, (∀ b ob, s.heap.get? b = some ob → h'.get? b = some ob) → Q none { s with heap := h', toks := tk }) : wpAny (model prog w) A (getAttr? (.ref a) "keys") Q E s := by
  obtain ⟨c, dct, dat, sl⟩ := o
  simp only at hc hdat hd
  subst hc hdat hd
  obtain ⟨hp, g, d, tk, os⟩ := s
  have hT : ∀ tk', (⟨hp, g, d, tk', os⟩ : Shared).TypeIs (.ref a) "tuple" := fun _ => ⟨_, hx, rfl⟩
  have hmiss := tuple_keys_none
  have hname : (["__module__", "__name__", "__qualname__", "__doc__", "__annotations__"] : List Str).contains "keys" = false := by decide +kernel
  have hsz : ("keys" : Str).length + 100 ≤ sizeLine := by first | size_fits | decide +kernel
  have f1 := sub_AttributeError
  have f3 := PySem.F.slot_tuple_getattribute.lookup
  have f4 := PySem.F.slot_tuple_getattribute.bind (.ref a)
  have f5 := am_tuple_getattr_none
  unfold getAttr? getAttrBy? getAttrBy
  repeat (any_goals (first | assumption | exact hT _ | ((with_reducible show wpAny _ _ (call (Value.builtin "tuple.__getattribute__") _ _) _ _ _); refine call_meets PySem.F.slot_tuple_getattribute (hT _) am_entry_tuple_getattribute (PySem.F.args_tuple_getattribute_2 _ _) (meets_getattribute_miss_tuple a xs k sl "keys" _ hmiss hname hsz) ⟨hx, hA, fun h' tk' e hx' => ?_⟩) | wp_step))
  obtain ⟨t', u', he⟩ := hx'.there
  show wpAny _ _ (getattributeRaised _ _ _ _ _ _ _) _ _ _
  unfold getattributeRaised
  repeat (any_goals (first | assumption | wp_step))
  all_goals first | exact h _ _ hx'.keeps | (dsimp only; repeat (any_goals (first | assumption | exact h _ _ hx'.keeps | wp_step)))
theorem upd_loopT {R : Result → Shared → Prop} {S I l : Addr} {items : Array Value} {res : Value} (hh : A.handled = none) (hlI : l ≠ I) (hSI : S ≠ I) (hSl : S ≠ l) :
    ∀ (rest : List (Key × Value)) (i : Nat) (acc : List (Key × Value)) (ix : Int) (t : Tok) (s : Shared), items.size = i + rest.length → acc.length + rest.length ≤ sizeLine →
      (∀ (j : Nat) (q : Key × Value), rest[j]? = some q → ∃ (b : Addr) (u : Value), items[i + j]? = some (.ref b) ∧ b ≠ S ∧ b ≠ I ∧ IsTup s.heap b #[u, q.2] ∧ keyIs q.1 u = true) →
      IsTupIter s.heap I l i → IsTup s.heap l items → s.heap.DictOf (mixKind prog w) S acc →
      (∀ h' tk, h'.DictOf (mixKind prog w) S (merged acc rest) → (∀ b o, b ≠ S → b ≠ I → s.heap.get? b = some o → h'.get? b = some o) → R (.ok (.ret res)) { s with heap := h', toks := tk }) →
      codeAny (model prog w) A (.builtin "dict.update.loop" ⟨[.ref S, .ref I, .int ix t, res], []⟩) R s
  | [], i, acc, ix, t, s, hsz, hln, ht, hit, hl, hm, hR => by
    refine codeAny_builtin ud_entry ?_
    rw [Around.under_plainId ud_plain _]
    show wpAny _ A.in1 (pyNext (.ref I) >>= _) _ _ s
    refine wpAny_bind (next_tuple_end (A := A.in1) hh hit hl (by first | exact Array.getElem?_eq_none (Nat.le_of_eq hsz) | (simp at hsz; simp; omega)) fun h' he => ?_)
    show wpAny _ A.in1 (Builtin.Dict.addKeywords S [] >>= _) _ _ _
    refine wpAny_bind (wpAny_pure (wpAny_pure ?_))
    exact hR h' s.toks (hm.extBut he hSI) fun b o _ hb e => he b o hb e
  | q :: rest, i, acc, ix, t, s, hsz, hln, ht, hit, hl, hm, hR => by
    obtain ⟨b, u, hb, hbS, hbI, htup, hk⟩ := ht 0 q rfl
    rw [List.length_cons] at hsz hln
    refine codeAny_builtin ud_entry ?_
    rw [Around.under_plainId ud_plain _]
    show wpAny _ A.in1 (pyNext (.ref I) >>= _) _ _ s
    refine wpAny_bind (next_tuple_item (x := .ref b) hit hl (by simpa using hb) fun h1 hit1 hs1 => ?_)
    have ht1 : IsTup h1 b #[u, q.2] := htup.extBut hs1.extBut hbI
    have hl1 : IsTup h1 l items := hl.extBut hs1.extBut hlI
    have hm1 : h1.DictOf (mixKind prog w) S acc := hm.extBut hs1.extBut hSI
    obtain ⟨o, ho, hc, n, hd⟩ := id ht1
    show wpAny _ A.in1 (holding [Value.ref b] _ >>= _) _ _ _
    refine wpAny_bind (wpAny_holding ?_)
    refine wpAny_bind (wpAny_tryCatch ?_)
    unfold Builtin.Dict.pairItems
    refine wpAny_bind (wpAny_typeOf (T := "tuple") ⟨o, ho, hc⟩ ?_)
    rw [if_pos (by first | decide | rfl | simp)]
    refine wpAny_bind (wpAny_seqItems ho hd (wpAny_pure ?_))
    show wpAny _ A.in1 (holding [u, q.2] (dictSet S u q.2)) _ _ _
    refine wpAny_holding (wpAny_dictSet_pairs (knd := mixKind prog w) (k := q.1) hk hm1 (fun h2 hm2 hs2 => ?_) (by omega))
    refine wpAny_pure ⟨plainId_quiet ud_plain _, upd_loopT (items := items) hh hlI hSI hSl rest (i + 1) (stored acc q.1 q.2) (ix + 1) 0 _ (show items.size = i + 1 + rest.length by omega) ?_ (fun j q' e => ?_) ?_ ?_ hm2 fun h' tk hd' k => ?_⟩
    · have z := stored_length_le acc q.1 q.2
      omega
    · obtain ⟨b', u', hb', hbS', hbI', htup', hk'⟩ := ht (j + 1) q' (by simpa using e)
      refine ⟨b', u', ?_, hbS', hbI', (htup'.extBut hs1.extBut hbI').extBut hs2.extBut hbS', hk'⟩
      rw [show i + 1 + j = i + (j + 1) by omega]
      exact hb'
    · obtain ⟨oi, hoi, r⟩ := hit1
      exact ⟨oi, hs2.extBut I oi (Ne.symm hSI) hoi, r⟩
    · exact hl1.extBut hs2.extBut (Ne.symm hSl)
    · exact hR h' tk hd' fun c oc h3 h4 e => k c oc h3 h4 (hs2.extBut c oc h3 (hs1.extBut c oc h4 e))
theorem iter_tup {t : Addr} {items : Array Value} {s : Shared} {Q : Value → Shared → Prop} (ht : IsTup s.heap t items)
    (hQ : Q (.ref s.heap.objs.size) { s with heap := s.heap.push { cls := .type "tuple_iterator", data := .fields #[.ref t, .int 0 0] } }) :
    wpAny (model prog w) A (pyIter (.ref t)) Q E s := by
  obtain ⟨o, ho, hc, n, hd⟩ := ht
  exact wpAny_pyIter_tuple (items := items) ⟨o, ho, hc, n, hd⟩ hQ
theorem call_dict_tup {s : Shared} {l : Addr} {ol : Obj} {items : Array Value} {n : Nat} {prs : List (Key × Value)} {Q : Value → Shared → Prop} (hh : A.handled = none) (hl : s.heap.get? l = some ol) (hc : ol.cls = .type "tuple") (hd : ol.dict = none)
    (hdat : ol.data = .seq items n) (hsz : items.size = prs.length) (hln : prs.length ≤ sizeLine)
    (ht : ∀ (j : Nat) (q : Key × Value), prs[j]? = some q → ∃ (b : Addr) (u : Value), items[j]? = some (.ref b) ∧ IsTup s.heap b #[u, q.2] ∧ keyIs q.1 u = true)
    (h : ∀ h' tk, h'.DictOf (mixKind prog w) s.heap.objs.size (merged [] prs) → (∀ b o, s.heap.get? b = some o → h'.get? b = some o) → Q (.ref s.heap.objs.size) { s with heap := h', toks := tk }) :
    wpAny (model prog w) A (call (.type "dict") [.ref l]) Q E s := by
  refine callType_codes (Q₁ := fun obj s₁ => obj = .ref s.heap.objs.size ∧ s₁ = { s with heap := s.heap.push { cls := .type "dict", data := .dict #[] } }) PySem.F.kt_called_dict (PySem.F.kt_typeCall_dict_1 _) PySem.F.entry_dict_init (kt_code_dict_new _ ⟨rfl, rfl⟩) ?_
  rintro obj s₁ ⟨rfl, rfl⟩
  have hnew : (s.heap.push { cls := .type "dict", data := .dict #[] }).DictOf (mixKind prog w) s.heap.objs.size [] := Heap.DictOf.new s.heap
  have k0 : ∀ b o, s.heap.get? b = some o → (s.heap.push { cls := .type "dict", data := .dict #[] }).get? b = some o := fun b o e => Heap.get?_push_of_some _ e
  refine ⟨hnew.typeIs, PySem.F.args_dict_init_2 _ _, ?_⟩
  unfold Builtin.«dict.__init__»
  refine wpAny_bind ?_
  unfold Builtin.Dict.selfAndRest
  refine wpAny_bind (wpAny_notOrdered_dict hnew.typeIs ?_)
  show wpAny _ _ (pure (s.heap.objs.size, [Value.ref l])) _ _ _
  refine wpAny_pure ?_
  show wpAny _ _ (Builtin.Dict.updateFrom "dict.__init__" s.heap.objs.size (.ref l) [] .none) _ _ _
  unfold Builtin.Dict.updateFrom
  refine wpAny_bind (wpAny_typeOf (T := "tuple") ⟨ol, k0 _ _ hl, hc⟩ ?_)
  rw [if_pos (by first | decide | rfl | simp)]
  refine wpAny_bind (miss_tuple (k0 _ _ hl) hc hdat hd hh fun h1 tk1 hk1 => ?_)
  rw [if_pos (show (none : Option Value).isNone = true from rfl)]
  refine wpAny_bind (wpAny_rule ?_)
  have hl1 : IsTup h1 l items := ⟨ol, hk1 _ _ (k0 _ _ hl), hc, n, hdat⟩
  have hS1 : s.heap.objs.size < h1.objs.size := by
    have e : (s.heap.push { cls := .type "dict", data := .dict #[] }).get? s.heap.objs.size = some { cls := .type "dict", data := .dict #[] } := Heap.get?_push_size _ rfl
    exact Heap.lt_size (hk1 _ _ e)
  refine wpAny_bind (iter_tup hl1 ?_)
  have k2 : ∀ b o, h1.get? b = some o → (h1.push { cls := .type "tuple_iterator", data := .fields #[.ref l, .int 0 0] }).get? b = some o := fun b o e => Heap.get?_push_of_some _ e
  have hlt : l < s.heap.objs.size := Heap.lt_size hl
  have key := upd_loopT (prog := prog) (w := w) (A := A.in1) (R := wants (fun r s₂ => r = .none ∧ Q (.ref s.heap.objs.size) s₂) E) (S := s.heap.objs.size) (I := h1.objs.size) (l := l) (items := items) (res := Value.none) hh
    (Nat.ne_of_lt (Nat.lt_trans hlt hS1)) (Nat.ne_of_lt hS1) (Nat.ne_of_gt hlt) prs 0 [] 0 0
    { s with heap := h1.push { cls := .type "tuple_iterator", data := .fields #[.ref l, .int 0 0] }, toks := tk1 } (by rw [hsz, Nat.zero_add]) (by rw [List.length_nil, Nat.zero_add]; exact hln)
    (fun j q e => by
      obtain ⟨b, u, e1, e2, e3⟩ := ht j q e
      have hb : b < s.heap.objs.size := e2.lt
      exact ⟨b, u, by rw [Nat.zero_add]; exact e1, Nat.ne_of_lt hb, Nat.ne_of_lt (Nat.lt_trans hb hS1), e2.keeps fun c o z => k2 _ _ (hk1 _ _ (k0 _ _ z)), e3⟩)
    ⟨_, Heap.get?_push_size _ rfl, rfl, rfl⟩ (hl1.keeps fun b o e => k2 _ _ e) ((hnew.at fun o e => hk1 _ _ e).at fun o e => k2 _ _ e)
    (fun h' tk hd' k => ⟨rfl, h h' tk hd' fun b o e => k b o (Nat.ne_of_lt (Heap.lt_size e)) (Nat.ne_of_lt (Nat.lt_trans (Heap.lt_size e) hS1)) (k2 _ _ (hk1 _ _ (k0 _ _ e)))⟩)
  first
    | exact wpAny_pure ⟨plainId_quiet ud_plain _, key⟩
    | exact wpAny_bind (wpAny_pure (wpAny_pure ⟨plainId_quiet ud_plain _, key⟩))
end
/-- a tuple whose object is known -/
def KnT (K : PySem.W.Frag) (H : Hp) (a : Addr) (vs : List V) : Prop := (∃ o : Obj, o.dict = none ∧ H a = some (.frz o (.tup vs))) ∨ ∃ o : Obj, K.lookup a = some o ∧ o.cls = .type "tuple" ∧ o.dict = none ∧ (∃ n, o.data = .seq #[] n) ∧ vs = []
def rDictT (K : PySem.W.Frag) : List V → Hp → VK → Prop := fun xs H Q => ∃ (a : Addr) (ps : List Addr) (kvs : List (Key × V)), xs = [.ref a] ∧ KnT K H a (ps.map V.ref) ∧ Paired (fun p kv => SqT K H p [kV kv.1, kv.2]) ps kvs ∧
    ∀ p, H p = none → Q (.ref p) (upd H p (.dK (mergeK [] kvs)))
section
variable {X : Cx}
theorem KnT.at {pins : List (Addr × Obj)} {σ : St} {H : Hp} {s : Shared} (I : Inv X pins σ H s) {a : Addr} {vs : List V} (h : KnT X.K H a vs) : ∃ (o : Obj) (its : List Value) (n : Nat), s.heap.get? a = some o ∧ o.cls = .type "tuple" ∧ o.dict = none ∧ o.data = .seq its.toArray n ∧ Vals vs its ∧ vs.length ≤ sizeLine := by
  rcases h with ⟨o, hd, h⟩ | ⟨o, hk, hc, hd, ⟨n, hdat⟩, rfl⟩
  · obtain ⟨e, hz, its, rv, o2, e2, c2, n, d2⟩ := I.hok a _ h
    rw [e] at e2
    obtain rfl := Option.some.inj e2
    exact ⟨o, its, n, e, c2, hd, d2, rv, hz⟩
  · exact ⟨o, [], n, I.kIn _ _ hk, hc, hd, hdat, .nil, Nat.zero_le _⟩
theorem call_dictT (K : PySem.W.Frag) (hcalm : X.calm = true) (hK : X.K = K := by rfl) : CallR X (.type "dict") (rDictT K) := by
  subst hK
  intro pins s σ H xs us Q I r q
  obtain ⟨a, ps, kvs, ex, hq, hp, q⟩ := q
  subst ex
  obtain ⟨u, eu, rx⟩ := vals1 r
  subst eu
  cases rx
  obtain ⟨o, its, n, ho, hc, hd, hdat, rv, hz⟩ := hq.at I
  have ei := refs_at rv
  subst ei
  rw [List.length_map] at hz
  obtain ⟨prs, rel, hl, hpr⟩ := pairs_of I hp
  refine call_dict_tup (prs := prs) (I.ok.hd hcalm) ho hc hd hdat (by simp [hl]) (by rw [hl]; exact hz) (fun j q' e => ?_) fun h' tk hd' k => ?_
  · obtain ⟨b, u, e1, e2, e3⟩ := hpr j q' e
    exact ⟨b, u, by simp [e1], e2, e3⟩
  · have hm : (s.heap.objs.size == sysModules) = false := beq_eq_false_iff_ne.mpr (Nat.ne_of_gt I.big)
    have hlen : (mergeK [] kvs).length ≤ sizeLine := by
      refine Nat.le_trans (length_mergeK kvs []) ?_
      rw [List.length_nil, Nat.zero_add, rel.length, hl]
      exact hz
    exact ⟨.ref s.heap.objs.size, upd H s.heap.objs.size (.dK (mergeK [] kvs)), I.laid (t' := tk) k (Nat.le_refl _) (show ObjOk X.prog X.w _ _ _ (.dK (mergeK [] kvs)) from ⟨hlen, hm, merged [] prs, KV.merge rel .nil, hd'⟩), rfl, q _ (I.hok.fresh (Nat.le_refl _))⟩
/-- tuple(xs): its object is known -/
def rTupG (K : PySem.W.Frag) : List V → Hp → VK → Prop := fun xs H Q => ∃ (p : Addr) (vs : List V), xs = [.ref p] ∧ SqL K H p vs ∧ ∀ (l : Addr) (o : Obj), H l = none → o.dict = none → Q (.ref l) (upd H l (.frz o (.tup vs)))
theorem call_tupG (K : PySem.W.Frag) (hK : X.K = K := by rfl) : CallR X (.type "tuple") (rTupG K) := by
  subst hK
  intro pins s σ H xs us Q I r h
  obtain ⟨p, vs, rfl, hq, q⟩ := h
  obtain ⟨u, rfl, rx⟩ := vals1 r
  cases rx
  obtain ⟨its, r2, pl, hz⟩ := I.list hq
  refine call_tuple_list pl.isList ?_ (by rw [List.size_toArray, ← r2.length]; exact hz)
  intro h' kp
  have I1 : Inv X pins σ H { s with heap := h' } := I.kept (t' := s.toks) kp
  exact ⟨.ref h'.objs.size, _, I1.laid (o := .frz { cls := .type "tuple", data := .seq its.toArray } (.tup vs)) (t' := s.toks) (fun b o e => Heap.get?_push_of_some _ e) (Nat.le_refl _) ⟨Heap.get?_push_size _ rfl, hz, its, r2, IsTup.new _ _⟩, rfl, q _ _ (I1.hok.fresh (Nat.le_refl _)) rfl⟩
end
end L2
namespace L4
open PySem PySem.Spec PyProof.Rows L2 TB LamX L3
def keyD : Key → D
  | .inl i => .int i
  | .inr z => .str z
theorem keyD_rp {K : PySem.W.Frag} {F : Hp} (k : Key) : Rp K F (keyD k) (kV k) := by cases k <;> rfl
theorem keyOf_keyD (k : Key) : keyOf (.d (keyD k)) = some k := by cases k <;> rfl
def dKV (m : List (Key × D)) : List (Key × Vl) := m.map fun p => (p.1, .d p.2)
def dicD (m : List (Key × D)) : D := .dic (m.map (·.1)) (m.map (·.2))
def pairD (p : Key × D) : D := .tup [keyD p.1, p.2]
def zipKk : List Key → List D → List (Key × Vl)
  | n :: ns, d :: ds => (n, .d d) :: zipKk ns ds
  | _, _ => []
theorem zipKk_rk {K : PySem.W.Frag} {F : Hp} : ∀ {ns : List Key} {ds : List D} {vs : List V}, RpL K F ds vs → RK K F (zipKk ns ds) (ns.zip vs)
  | [], ds, vs, h => by cases ds <;> exact rfl
  | n :: ns, [], vs, h => by
    have e : vs = [] := h
    rw [e]
    exact rfl
  | n :: ns, d :: ds, vs, h => by
    obtain ⟨v, r, rfl, q, t⟩ := h
    exact ⟨v, ns.zip r, rfl, q, zipKk_rk t⟩
theorem zipKk_map : ∀ m : List (Key × D), zipKk (m.map (·.1)) (m.map (·.2)) = dKV m
  | [] => rfl
  | p :: m => congrArg (_ :: ·) (zipKk_map m)
def dicOf (μ : Mu) : Vl → Option (List (Key × Vl))
  | .d (.dic ks ds) => some (zipKk ks ds)
  | .loc a => match μ a with
    | some (.dic kvs) => some kvs
    | _ => none
  | _ => none
theorem dicOf_dicD {μ : Mu} (m : List (Key × D)) : dicOf μ (.d (dicD m)) = some (dKV m) := congrArg some (zipKk_map m)
theorem dicOf_loc {μ : Mu} {a : Addr} {kvs : List (Key × Vl)} (h : μ a = some (.dic kvs)) : dicOf μ (.loc a) = some kvs := by
  show (match μ a with | some (MO.dic kvs) => some kvs | _ => none) = _
  rw [h]
theorem dicOf_at {c : C4} {F H : Hp} {μ : Mu} {σ : L2.St} {ρ : PS} (R : R4 c F H μ σ ρ) {x : Vl} {kvs : List (Key × Vl)} {v : V} (e : dicOf μ x = some kvs) (h : RV c.K F x v) : ∃ a ws, v = .ref a ∧ H a = some (.dK ws) ∧ RK c.K F kvs ws := by
  cases x with
  | tup xs => exact nomatch (show (none : Option (List (Key × Vl))) = some kvs from e)
  | loc a =>
    have e2 : (match μ a with | some (MO.dic kvs) => some kvs | _ => none) = some kvs := e
    cases q : μ a with
    | none => rw [q] at e2; exact nomatch e2
    | some m =>
      rw [q] at e2
      cases m with
      | dic us =>
        obtain rfl : us = kvs := Option.some.inj e2
        obtain ⟨_, ws, ea, r⟩ := R.mu a _ q
        exact ⟨a, ws, h, ea, r⟩
      | lst _ => exact nomatch e2
      | dicT _ => exact nomatch e2
      | ins _ _ _ => exact nomatch e2
  | d d =>
    cases d with
    | dic ks ds =>
      obtain rfl : zipKk ks ds = kvs := Option.some.inj e
      obtain ⟨a, vs, rfl, q, r⟩ := h
      exact ⟨a, _, rfl, R.sub _ _ q, zipKk_rk r⟩
    | _ => exact nomatch e
section
variable {X : Sx} {K : PySem.W.Frag} {W : WX}
def qDGetA (pd pk : QE4) : QE4 := fun ρ μ Q => pd ρ μ fun x μ1 => pk ρ μ1 fun y μ2 => ∃ kvs k z, dicOf μ2 x = some kvs ∧ keyOf y = some k ∧ val4 kvs k = some z ∧ Q z μ2
theorem e_dgetA {td tk : TE} {pd pk : QE4} (h0 : E4 X td pd) (h1 : E4 X tk pk) : E4 X (tDGet td tk) (qDGetA pd pk) := by
  intro c hX σ F H μ ρ Q Q4 R hq hp
  refine h0 c hX σ F H μ ρ _ _ R ?_ hp
  intro x v F1 H1 μ1 R1 s1 rv q1
  refine h1 c hX σ F1 H1 μ1 ρ _ _ R1 ?_ q1
  rintro y u F2 H2 μ2 R2 s2 ru ⟨kvs, k, z, e, ek, ez, q⟩
  obtain rfl := keyOf_at ek ru
  obtain ⟨a, ws, rfl, ea, rk⟩ := dicOf_at R2 e (rv.mono s2)
  obtain ⟨w, e2, rw2⟩ := (rk_val rk).2 z ez
  exact ⟨a, w, rfl, by rw [← e2]; exact DGet.k ea, hq z w F2 H2 μ2 R2 (tr s1 s2) rw2 q⟩
def qDGet2A (pd pk px : QE4) : QE4 := fun ρ μ Q => pd ρ μ fun x μ1 => (∃ kvs, dicOf μ1 x = some kvs) ∧ pk ρ μ1 fun y μ2 => px ρ μ2 fun w μ3 => ∃ kvs k, dicOf μ3 x = some kvs ∧ keyOf y = some k ∧ Q ((val4 kvs k).getD w) μ3
theorem e_dget2A {td tk tx : TE} {pd pk px : QE4} (h0 : E4 X td pd) (h1 : E4 X tk pk) (h2 : E4 X tx px) : E4 X (tDGet2 td tk tx) (qDGet2A pd pk px) := by
  intro c hX σ F H μ ρ Q Q4 R hq hp
  refine h0 c hX σ F H μ ρ _ _ R ?_ hp
  rintro x v F1 H1 μ1 R1 s1 rv ⟨⟨kv0, e0⟩, q1⟩
  obtain ⟨a, ws0, rfl, ea0, _⟩ := dicOf_at R1 e0 rv
  refine ⟨a, rfl, Or.inl ⟨_, Or.inl ea0⟩, ?_⟩
  refine h1 c hX σ F1 H1 μ1 ρ _ _ R1 ?_ q1
  intro y u F2 H2 μ2 R2 s2 ru q2
  refine h2 c hX σ F2 H2 μ2 ρ _ _ R2 ?_ q2
  rintro w t F3 H3 μ3 R3 s3 rt ⟨kvs, k, e, ek, q⟩
  obtain rfl := keyOf_at ek ru
  obtain ⟨a2, ws, e3, ea, rk⟩ := dicOf_at R3 e ((rv.mono s2).mono s3)
  obtain rfl : a = a2 := by injection e3
  refine ⟨_, DGet.k ea, ?_⟩
  cases ez : val4 kvs k with
  | none =>
    rw [(rk_val rk).1 ez]
    rw [ez] at q
    exact hq w t F3 H3 μ3 R3 (tr (tr s1 s2) s3) rt q
  | some z =>
    obtain ⟨w2, e2, rw2⟩ := (rk_val rk).2 z ez
    rw [e2]
    rw [ez] at q
    exact hq z w2 F3 H3 μ3 R3 (tr (tr s1 s2) s3) rw2 q
def QPs4 := PS → Mu → (List (Vl × Vl) → Mu → Prop) → Prop
def Pr4 (X : Sx) (trs : List (TE × TE)) (pp : QPs4) : Prop := ∀ (c : C4), c.X = X → ∀ (σ : L2.St) (F H : Hp) (μ : Mu) (ρ : PS) (Q : List (V × V) → Hp → Prop) (Q4 : List (Vl × Vl) → Mu → Prop), R4 c F H μ σ ρ →
  (∀ xs ps F' H' μ', R4 c F' H' μ' σ ρ → Same F F' → RVs c.K F' (xs.map (·.1)) (ps.map (·.1)) → RVs c.K F' (xs.map (·.2)) (ps.map (·.2)) → ps.length = xs.length → Q4 xs μ' → Q ps H') → pp ρ μ Q4 → tPairs trs σ H Q
def pNil : QPs4 := fun ρ μ Q => Q [] μ
def pCons (pk pv : QE4) (pp : QPs4) : QPs4 := fun ρ μ Q => pk ρ μ fun x μ1 => pv ρ μ1 fun y μ2 => pp ρ μ2 fun xs μ3 => Q ((x, y) :: xs) μ3
theorem p_nil : Pr4 X [] pNil := by
  intro c hX σ F H μ ρ Q Q4 R hq h
  exact hq [] [] F H μ R (L3.Same.refl F) rfl rfl rfl h
theorem p_cons {tk tv : TE} {trs : List (TE × TE)} {pk pv : QE4} {pp : QPs4} (h1 : E4 X tk pk) (h2 : E4 X tv pv) (h3 : Pr4 X trs pp) : Pr4 X ((tk, tv) :: trs) (pCons pk pv pp) := by
  intro c hX σ F H μ ρ Q Q4 R hq h
  refine h1 c hX σ F H μ ρ _ _ R ?_ h
  intro x v F1 H1 μ1 R1 s1 rv q1
  refine h2 c hX σ F1 H1 μ1 ρ _ _ R1 ?_ q1
  intro y u F2 H2 μ2 R2 s2 ru q2
  refine h3 c hX σ F2 H2 μ2 ρ _ _ R2 ?_ q2
  intro xs ps F3 H3 μ3 R3 s3 r1 r2 l q3
  exact hq ((x, y) :: xs) ((v, u) :: ps) F3 H3 μ3 R3 (tr (tr s1 s2) s3) ⟨v, _, rfl, (rv.mono s2).mono s3, r1⟩ ⟨u, _, rfl, ru.mono s3, r2⟩ (congrArg Nat.succ l) q3
/-- the keys seen -/
def keys4 : List (Vl × Vl) → Option (List (Key × Vl))
  | [] => some []
  | (x, y) :: r => match keyOf x, keys4 r with
    | some k, some l => some ((k, y) :: l)
    | _, _ => none
theorem keys4_at {K : PySem.W.Frag} {F : Hp} : ∀ {xs : List (Vl × Vl)} {ps : List (V × V)} {kvs : List (Key × Vl)}, keys4 xs = some kvs → ps.length = xs.length → RVs K F (xs.map (·.1)) (ps.map (·.1)) → RVs K F (xs.map (·.2)) (ps.map (·.2)) → ∃ ws : List (Key × V), ps = ws.map (fun kv => (kV kv.1, kv.2)) ∧ RK K F kvs ws
  | [], [], kvs, e, _, _, _ => by
    obtain rfl : [] = kvs := Option.some.inj e
    exact ⟨[], rfl, rfl⟩
  | [], _ :: _, _, _, l, _, _ => nomatch l
  | _ :: _, [], _, _, l, _, _ => nomatch l
  | (x, y) :: xs, (v, u) :: ps, kvs, e, l, r1, r2 => by
    obtain ⟨v2, t, e1, rv, r1⟩ := r1
    obtain ⟨rfl, rfl⟩ := List.cons.inj e1
    obtain ⟨u2, t2, e2, ru, r2⟩ := r2
    obtain ⟨rfl, rfl⟩ := List.cons.inj e2
    have e3 : (match keyOf x, keys4 xs with | some k, some l => some ((k, y) :: l) | _, _ => none) = some kvs := e
    cases h1 : keyOf x with
    | none => rw [h1] at e3; exact nomatch e3
    | some k =>
      cases h2 : keys4 xs with
      | none => rw [h1, h2] at e3; exact nomatch e3
      | some l2 =>
        rw [h1, h2] at e3
        obtain rfl := Option.some.inj e3
        obtain ⟨ws, rfl, rk⟩ := keys4_at h2 (Nat.succ.inj l) r1 r2
        have := keyOf_at h1 rv
        exact ⟨(k, u) :: ws, by rw [List.map_cons]; exact congrArg (· :: _) (Prod.ext this rfl), u, ws, rfl, ru, rk⟩
def merge4 (kvs more : List (Key × Vl)) : List (Key × Vl) := more.foldl (fun acc kv => putK4 acc kv.1 kv.2) kvs
theorem rk_merge {K : PySem.W.Frag} {F : Hp} : ∀ {more : List (Key × Vl)} {ms : List (Key × V)} {kvs : List (Key × Vl)} {ws : List (Key × V)}, RK K F more ms → RK K F kvs ws → RK K F (merge4 kvs more) (mergeK ws ms)
  | [], ms, kvs, ws, r, r2 => by rw [show ms = [] from r]; exact r2
  | (k, x) :: more, ms, kvs, ws, r, r2 => by
    obtain ⟨v, t, rfl, q, z⟩ := r
    exact rk_merge (more := more) (ms := t) (kvs := putK4 kvs k x) (ws := putK ws k v) z (rk_putK q r2)
def qDisp4 (pp : QPs4) : QE4 := fun ρ μ Q => ∀ p, μ p = none → pp ρ (updM μ p (.dic [])) fun xs μ' => μ' p = some (.dic []) ∧ ∃ kvs, keys4 xs = some kvs ∧ kvs.length ≤ 15 ∧ Q (.loc p) (updM μ' p (.dic (merge4 [] kvs)))
theorem e_disp {trs : List (TE × TE)} {pp : QPs4} (h : Pr4 X trs pp) : E4 X (tDisp trs) (qDisp4 pp) := by
  intro c hX σ F H μ ρ Q Q4 R hq hp p np
  have R1 := R.newM (m := .dic []) (o := .dK []) np trivial ⟨[], upd_same, rfl⟩
  refine h c hX σ F _ _ ρ _ _ R1 ?_ (hp p (R.mnone np))
  rintro xs ps F' H' μ' R' s r1 r2 l ⟨em, kvs, ek, lk, q⟩
  obtain ⟨hF, ws0, ea, rk0⟩ := R'.mu p _ em
  obtain rfl : ws0 = [] := rk0
  obtain ⟨ws, ep, rk⟩ := keys4_at ek l r1 r2
  refine ⟨ea, ws, ep, by rw [rk_len rk]; exact lk, ?_⟩
  exact hq (.loc p) (.ref p) F' _ _ (R'.mut (m' := .dic (merge4 [] kvs)) em trivial ⟨_, upd_same, rk_merge rk rfl⟩) s rfl q
theorem R4.putT {c : C4} {μ : Mu} {σ : L2.St} {ρ : PS} : ∀ {ts : List Addr} {kvs : List (Key × V)} {m : List (Key × D)} {F H : Hp}, R4 c F H μ σ ρ → ts.length = m.length → RK c.K F (dKV m) kvs → ts.Nodup → (∀ t ∈ ts, H t = none) →
    ∃ F', R4 c F' (LiI.putT H ts kvs) μ σ ρ ∧ Same F F' ∧ RpL c.K F' (m.map pairD) (ts.map V.ref) ∧ ∀ b, b ∉ ts → F' b = F b
  | [], kvs, m, F, H, R, l, r, nd, hn => by
    obtain rfl : m = [] := List.eq_nil_of_length_eq_zero l.symm
    exact ⟨F, by cases kvs <;> exact R, L3.Same.refl F, rfl, fun _ _ => rfl⟩
  | t :: ts, kvs, [], F, H, R, l, r, nd, hn => nomatch l
  | t :: ts, kvs, (k, d) :: m, F, H, R, l, r, nd, hn => by
    obtain ⟨v, ws, rfl, q, z⟩ := r
    have np := hn t List.mem_cons_self
    have R1 := R.alloc (p := t) (o := .tup [kV k, v]) np trivial
    have s1 : Same F (upd F t (.tup [kV k, v])) := fun _ _ e => old_upd (R.fnone np) e
    obtain ⟨n1, n2⟩ := List.nodup_cons.mp nd
    obtain ⟨F', R', s', rp, off⟩ := R4.putT (ts := ts) (kvs := ws) (m := m) R1 (Nat.succ.inj l) (RK.mono s1 z) n2 fun b hb => by rw [upd_ne (fun e => n1 (by rw [← e]; exact hb))]; exact hn b (List.mem_cons_of_mem _ hb)
    refine ⟨F', R', tr s1 s', ⟨.ref t, _, rfl, ?_, rp⟩, fun b hb => ?_⟩
    · have q2 : Rp c.K F d v := q
      exact ⟨t, _, rfl, sqT_of (s' _ _ upd_same), _, _, rfl, keyD_rp k, _, _, rfl, (q2.mono s1).mono s', rfl⟩
    · rw [off b (fun z => hb (List.mem_cons_of_mem _ z)), upd_ne (fun z => hb (by rw [z]; exact List.mem_cons_self))]
/-- .. kept as they stand -/
theorem R4.pairs {c : C4} {μ : Mu} {σ : L2.St} {ρ : PS} {ts : List Addr} {l : Addr} {kvs : List (Key × V)} {m : List (Key × D)} {F H : Hp} (R : R4 c F H μ σ ρ) (hl : ts.length = m.length) (r : RK c.K F (dKV m) kvs) (n : NewTs H l ts) :
    ∃ F', R4 c F' (pairsAt H l ts kvs) μ σ ρ ∧ Same F F' ∧ Rp c.K F' (.lst (m.map pairD)) (.ref l) := by
  obtain ⟨nd, hn, hl0, hln⟩ := n
  have R1 := R.allocH (o := .lst (ts.map V.ref)) hl0 trivial
  obtain ⟨F', R2, s2, rp, off⟩ := R4.putT (ts := ts) (kvs := kvs) (m := m) R1 hl r nd fun t ht => by rw [upd_ne (fun e => hln (by rw [← e]; exact ht))]; exact hn t ht
  have e1 : pairsAt H l ts kvs l = some (.lst (ts.map V.ref)) := by
    unfold pairsAt
    rw [LiI.putT_off ts kvs _ hln, upd_same]
  have hF : F' l = none := (off l hln).trans (R.fnone hl0)
  have hM : μ l = none := R.mnone hl0
  have R2 : R4 c F' (pairsAt H l ts kvs) μ σ ρ := R2
  obtain ⟨ws, R3, s3, rp3⟩ := (R2.own (m := .lst ((m.map pairD).map Vl.d)) hF ⟨_, e1, RVs.ofData rp⟩ (Or.inr (R.dom l hl0))).freezeL updM_same
  rw [show delM (updM μ l (.lst ((m.map pairD).map Vl.d))) l = μ by
    funext b
    by_cases q : b = l
    · rw [q, delM_same, hM]
    · rw [delM_ne q, updM_ne q]] at R3
  exact ⟨_, R3, tr s2 s3, rp3⟩
def qListIt (pe : QE4) : QE4 := fun ρ μ Q => pe ρ μ fun x μ1 => ∃ m : List (Key × D), dicOf μ1 x = some (dKV m) ∧ Q (.d (.lst (m.map pairD))) μ1
theorem e_listIt {te : TE} {pe : QE4} (h : E4 X te pe) : E4 X (tListIt te) (qListIt pe) := by
  intro c hX σ F H μ ρ Q Q4 R hq hp
  refine h c hX σ F H μ ρ _ _ R ?_ hp
  rintro x v F1 H1 μ1 R1 s1 rv ⟨m, e, q⟩
  obtain ⟨a, ws, rfl, ea, rk⟩ := dicOf_at R1 e rv
  refine ⟨a, ws, rfl, ea, fun ts l hl n => ?_⟩
  obtain ⟨F', R2, s2, rp⟩ := R1.pairs (hl.trans ((rk_len rk).trans (by rw [dKV, List.length_map]))) rk n
  exact hq (.d _) (.ref l) F' _ μ1 R2 (tr s1 s2) (rv_d rp) q
def siK (b : SI) : Key × D := (.inr b.1, .int b.2)
def sortSI (kvs : List SI) : List SI := kvs.mergeSort leSI
def dicSI (kvs : List SI) : D := dicD (kvs.map siK)
def kvSI (kvs : List SI) : List (Key × Vl) := dKV (kvs.map siK)
def pairSI (b : SI) : D := .tup [.str b.1, .int b.2]
theorem rk_si {K : PySem.W.Frag} {F : Hp} : ∀ {kvs : List SI} {ws : List (Key × V)}, RK K F (kvSI kvs) ws → ws = kvs.map entSI
  | [], ws, r => r
  | b :: kvs, ws, r => by
    obtain ⟨v, t, rfl, q, z⟩ := r
    have q2 : v = .int b.2 := q
    rw [q2, rk_si (kvs := kvs) z]
    rfl
theorem si_rk {K : PySem.W.Frag} {F : Hp} : ∀ kvs : List SI, RK K F (kvSI kvs) (kvs.map entSI)
  | [] => rfl
  | b :: kvs => ⟨.int b.2, _, rfl, rfl, si_rk kvs⟩
theorem sort_rel {c : C4} {F H : Hp} {μ : Mu} {σ : L2.St} {ρ : PS} (R : R4 c F H μ σ ρ) {kvs : List SI} {ts : List Addr} {l : Addr} (hl : ts.length = kvs.length) (n : NewTs H l ts) : ∃ F', R4 c F' (pairsAt H l ts ((kvs.mergeSort leSI).map entSI)) μ σ ρ ∧ Same F F' ∧ Rp c.K F' (.lst ((sortSI kvs).map pairSI)) (.ref l) := by
  have pm : (kvs.mergeSort leSI).Perm kvs := List.mergeSort_perm _ _
  obtain ⟨F', R2, s2, rp⟩ := R.pairs (m := (sortSI kvs).map siK) (kvs := (kvs.mergeSort leSI).map entSI) (by rw [List.length_map, sortSI, pm.length_eq]; exact hl) (si_rk _) n
  rw [List.map_map] at rp
  exact ⟨F', R2, s2, rp⟩
def KnR (K : PySem.W.Frag) (ds : List D) (F : Hp) (v : V) : Prop := ∃ a vs, v = .ref a ∧ KnT K F a vs ∧ RpL K F ds vs
theorem KnT.mono {F F' : Hp} {a : Addr} {vs : List V} (s : Same F F') (h : KnT K F a vs) : KnT K F' a vs := by
  rcases h with ⟨o, hd, h⟩ | h
  · exact Or.inl ⟨o, hd, s _ _ h⟩
  · exact Or.inr h
theorem KnT.sq {F : Hp} {a : Addr} {vs : List V} (h : KnT K F a vs) : SqT K F a vs := by
  rcases h with ⟨o, hd, h⟩ | ⟨o, hk, hc, hd, ⟨n, hdat⟩, rfl⟩
  · exact Or.inl (Or.inr ⟨o, h⟩)
  · exact Or.inr ⟨o, #[], n, hk, hc, hdat, Nat.zero_le _, .nil⟩
/-- a tuple of data whose object is known -/
def knD (K : PySem.W.Frag) (ds : List D) : D := .op ⟨KnR K ds, fun s h => by
  obtain ⟨a, vs, e, k, r⟩ := h
  exact ⟨a, vs, e, KnT.mono s k, r.mono s⟩⟩
theorem knD_tup {F : Hp} {ds : List D} {v : V} (h : Rp K F (knD K ds) v) : Rp K F (.tup ds) v := by
  obtain ⟨a, vs, e, k, r⟩ := h
  exact ⟨a, vs, e, KnT.sq k, r⟩
/-- tuple(sorted(d.items())) -/
def qTupSort (K : PySem.W.Frag) (pe : QE4) : QE4 := fun ρ μ Q => pe ρ μ fun x μ1 => ∃ kvs : List SI, dicOf μ1 x = some (kvSI kvs) ∧ Q (.d (knD K ((sortSI kvs).map pairSI))) μ1
theorem e_tupSort {te : TE} {pe : QE4} (h : E4 X te pe) (hK : X.K = K := by rfl) : E4 X (tCB (rTupG K) (tCons (tSortIt te) tNil)) (qTupSort K pe) := by
  subst hK
  intro c hX σ F H μ ρ Q Q4 R hq hp
  subst hX
  refine h c rfl σ F H μ ρ _ _ R ?_ hp
  rintro x v F1 H1 μ1 R1 s1 rv ⟨kvs, e, q⟩
  obtain ⟨a, ws, rfl, ea, rk⟩ := dicOf_at R1 e rv
  rw [rk_si rk] at ea
  refine ⟨a, kvs, rfl, ea, fun ts l hl n => ?_⟩
  obtain ⟨F', R2, s2, rp⟩ := sort_rel R1 hl n
  obtain ⟨a2, us, e2, hF, r2⟩ := rp
  obtain rfl : l = a2 := by injection e2
  refine ⟨l, us, rfl, sqL_of (R2.sub _ _ hF), fun p o np hd => ?_⟩
  have R3 := R2.alloc (p := p) (o := .frz o (.tup us)) np trivial
  have s3 : Same F' (upd F' p (.frz o (.tup us))) := fun _ _ e => old_upd (R2.fnone np) e
  exact hq (.d (knD c.K ((sortSI kvs).map pairSI))) (.ref p) _ _ μ1 R3 (tr (tr s1 s2) s3) (show KnR c.K _ _ _ from ⟨p, us, rfl, Or.inl ⟨o, hd, upd_same⟩, r2.mono s3⟩) q
def pair4 (v : Vl) : Option (Key × Vl) := match tupOf v with
  | some [k, y] => (keyOf k).map fun z => (z, y)
  | _ => none
def pairs4 : List Vl → Option (List (Key × Vl))
  | [] => some []
  | v :: r => match pair4 v, pairs4 r with
    | some p, some l => some (p :: l)
    | _, _ => none
theorem pair4_at {F : Hp} {v : Vl} {p : Key × Vl} {w : V} (e : pair4 v = some p) (h : RV K F v w) : ∃ a u, w = .ref a ∧ SqT K F a [kV p.1, u] ∧ RV K F p.2 u := by
  have e2 : (match tupOf v with | some [k, y] => (keyOf k).map fun z => (z, y) | _ => none) = some p := e
  cases h1 : tupOf v with
  | none => rw [h1] at e2; exact nomatch e2
  | some l =>
    rw [h1] at e2
    match l, h1, e2 with
    | [k, y], h1, e2 =>
      obtain ⟨z, e3, rfl⟩ := Option.map_eq_some_iff.mp e2
      obtain ⟨a, vs, rfl, sq, r⟩ := tupOf_at h1 h
      obtain ⟨v1, t1, rfl, r1, v2, t2, rfl, r2, et⟩ := r
      obtain rfl : t2 = [] := et
      rw [keyOf_at e3 r1] at sq
      exact ⟨a, v2, rfl, sq, r2⟩
    | [], _, e2 => exact nomatch e2
    | [_], _, e2 => exact nomatch e2
    | _ :: _ :: _ :: _, _, e2 => exact nomatch e2
theorem pairs4_at {F : Hp} : ∀ {vs : List Vl} {kvs : List (Key × Vl)} {ws : List V}, pairs4 vs = some kvs → RVs K F vs ws → ∃ (ps : List Addr) (ms : List (Key × V)), ws = ps.map V.ref ∧ Paired (fun p kv => SqT K F p [kV kv.1, kv.2]) ps ms ∧ RK K F kvs ms
  | [], kvs, ws, e, h => by
    obtain rfl : [] = kvs := Option.some.inj e
    exact ⟨[], [], h, .nil, rfl⟩
  | v :: vs, kvs, ws, e, h => by
    obtain ⟨w, t, rfl, r1, r2⟩ := h
    have e2 : (match pair4 v, pairs4 vs with | some p, some l => some (p :: l) | _, _ => none) = some kvs := e
    cases h1 : pair4 v with
    | none => rw [h1] at e2; exact nomatch e2
    | some p =>
      cases h2 : pairs4 vs with
      | none => rw [h1, h2] at e2; exact nomatch e2
      | some l =>
        rw [h1, h2] at e2
        obtain rfl := Option.some.inj e2
        obtain ⟨ps, ms, rfl, pr, rk⟩ := pairs4_at h2 r2
        obtain ⟨a, u, rfl, sq, ru⟩ := pair4_at h1 r1
        exact ⟨a :: ps, (p.1, u) :: ms, rfl, .cons sq pr, u, ms, rfl, ru, rk⟩
def rDictP (K : PySem.W.Frag) : List V → Hp → VK → Prop := fun xs H Q => ∃ (a : Addr) (ps : List Addr) (kvs : List (Key × V)), xs = [.ref a] ∧ SqL K H a (ps.map V.ref) ∧ Paired (fun p kv => SqT K H p [kV kv.1, kv.2]) ps kvs ∧
    ∀ p, H p = none → Q (.ref p) (upd H p (.dK (mergeK [] kvs)))
theorem cr_dictP {Y : Cx} (K : PySem.W.Frag) (hc : Y.calm = true) (hK : Y.K = K := by rfl) : CallR Y (.type "dict") (rDictP K) := by
  subst hK
  exact call_dictP hc
theorem paired_mono {α β : Type} {F G : α → β → Prop} (f : ∀ a b, F a b → G a b) : ∀ {l₁ : List α} {l₂ : List β}, Paired F l₁ l₂ → Paired G l₁ l₂
  | _, _, .nil => .nil
  | _, _, .cons r t => .cons (f _ _ r) (paired_mono f t)
theorem rk_dicD {F : Hp} {m : List (Key × D)} {ws : List (Key × V)} (r : RK K F (dKV m) ws) : ∃ vs, ws = (m.map (·.1)).zip vs ∧ RpL K F (m.map (·.2)) vs := by
  have e : allD ((dKV m).map (·.2)) = some (m.map (·.2)) := by
    rw [show (dKV m).map (·.2) = (m.map (·.2)).map Vl.d by simp [dKV, List.map_map]]
    exact allD_map _
  obtain ⟨vs, h1, h2⟩ := rk_data r e
  exact ⟨vs, by rw [h1, dKV, List.map_map]; rfl, h2⟩
/-- a new dict of data stays as it is -/
theorem R4.dicD {c : C4} {F H : Hp} {μ : Mu} {σ : L2.St} {ρ : PS} (R : R4 c F H μ σ ρ) {p : Addr} {m : List (Key × D)} {ws : List (Key × V)} (np : H p = none) (rk : RK c.K F (dKV m) ws) : R4 c (upd F p (.dK ws)) (upd H p (.dK ws)) μ σ ρ ∧ Same F (upd F p (.dK ws)) ∧ Rp c.K (upd F p (.dK ws)) (L4.dicD m) (.ref p) := by
  have s2 : Same F (upd F p (.dK ws)) := fun _ _ e => old_upd (R.fnone np) e
  obtain ⟨vs, rfl, rp⟩ := rk_dicD rk
  exact ⟨R.alloc np trivial, s2, p, vs, rfl, upd_same, rp.mono s2⟩
def qDictK (pe : QE4) : QE4 := fun ρ μ Q => pe ρ μ fun x μ1 => ∃ vs kvs, lstOf μ1 x = some vs ∧ pairs4 vs = some kvs ∧ ∃ m, merge4 [] kvs = dKV m ∧ Q (.d (L4.dicD m)) μ1
theorem e_dictK {te : TE} {pe : QE4} (h : E4 X te pe) (hK : X.K = K := by rfl) : E4 X (tCB (rDictP K) (tCons te tNil)) (qDictK pe) := by
  subst hK
  intro c hX σ F H μ ρ Q Q4 R hq hp
  subst hX
  refine h c rfl σ F H μ ρ _ _ R ?_ hp
  rintro x v F1 H1 μ1 R1 s1 rv ⟨vs, kvs, e, ep, m, em, q⟩
  obtain ⟨a, ws, rfl, ea, r⟩ := lstOf_at R1 e rv
  obtain ⟨ps, ms, rfl, pr, rk⟩ := pairs4_at ep r
  refine ⟨a, ps, ms, rfl, sqL_of ea, paired_mono (fun _ _ h => sqT_mono R1.sub h) pr, fun p np => ?_⟩
  have rk2 := rk_merge (kvs := []) (ws := []) rk rfl
  rw [em] at rk2
  obtain ⟨R2, s2, rp⟩ := R1.dicD np rk2
  exact hq (.d _) (.ref p) _ _ μ1 R2 (tr s1 s2) (rv_d rp) q
def qDictTM (K : PySem.W.Frag) (pe : QE4) : QE4 := fun ρ μ Q => pe ρ μ fun x μ1 => ∃ ds kvs, x = .d (knD K ds) ∧ pairs4 (ds.map Vl.d) = some kvs ∧ ∀ p, μ1 p = none → Q (.loc p) (updM μ1 p (.dic (merge4 [] kvs)))
theorem e_dictTM {te : TE} {pe : QE4} (h : E4 X te pe) (hK : X.K = K := by rfl) : E4 X (tMu (tCB (rDictT K) (tCons te tNil))) (qDictTM K pe) := by
  subst hK
  intro c hX σ F H μ ρ Q Q4 R hq hp
  subst hX
  refine h c rfl σ F H μ ρ _ _ R ?_ hp
  rintro x v F1 H1 μ1 R1 s1 rv ⟨ds, kvs, rfl, ep, q⟩
  obtain ⟨a, vs, rfl, kn, r⟩ := rv
  obtain ⟨ps, ms, rfl, pr, rk⟩ := pairs4_at ep (RVs.ofData r)
  refine ⟨a, ps, ms, rfl, KnT.mono R1.sub kn, paired_mono (fun _ _ h => sqT_mono R1.sub h) pr, fun p np => ?_⟩
  have R2 := R1.newM (m := .dic (merge4 [] kvs)) (o := .dK (mergeK [] ms)) np trivial ⟨_, upd_same, rk_merge rk rfl⟩
  exact hq (.loc p) (.ref p) F1 _ _ R2 s1 rfl (q p (R1.mnone np))
end
end L4
namespace L4
open PySem PySem.Spec PyProof.Rows L2 TB LamX L3
section
variable {X : Sx} {K : PySem.W.Frag} {W : WX}
/-- a promise of L4 that asks for data alone, as one of L3 -/
theorem lsp4_of {P4 : PSp4} {P3 : PSp} (h : ∀ ds Q3, P3 ds Q3 → P4 (ds.map Vl.d) mu0 (fun x μ' => (∃ d, x = .d d ∧ Q3 (.val d) none) ∨ ∃ p es, x = .loc p ∧ μ' p = some (.lst (es.map Vl.d)) ∧ Q3 (.new es) none) (fun _ _ => False)) : ∀ vs H Q E, lsp X none P3 vs H Q E → lsp4 X P4 vs H Q E := by
  rintro vs H Q E ⟨F, ds, Q3, en, hP, k⟩
  refine ⟨F, mu0, ds.map Vl.d, _, _, rel_bare (en.rel []), RVs.ofData en.rpl, h ds Q3 hP, ?_, fun _ _ _ _ _ _ _ _ z => z.elim⟩
  intro x v F' H' μ' R rv q
  have st : Step X [] F H F' H' := ⟨rfl, R.sub, (fun i pv e => by simp at e), (fun i j f1 o1 f2 o2 p e => by simp at e), R.nt, R.tab, R.tabF, R.fr, (fun b o e _ nt => R.kp b o e rfl nt), R.dom, (fun b o e => by
      rcases R.nw b o e with h | h | h | h
      · exact Or.inl h
      · exact Or.inr (Or.inl h)
      · exact absurd rfl h
      · exact Or.inr (Or.inr (Or.inr h))), fun p hp => R.dom p hp⟩
  rcases q with ⟨d, rfl, q⟩ | ⟨p, es, rfl, em, q⟩
  · exact k (.val d) none v F' H' ⟨st, rv, fun _ _ z => nomatch z⟩ q
  · obtain rfl : v = .ref p := rv
    obtain ⟨hF, ws, ep, r⟩ := R.mu p _ em
    have hn : H p = none := (R.mf p _ em).elim (fun z => absurd rfl z) id
    exact k (.new es) none (.ref p) F' H' ⟨st, ⟨p, ws, rfl, hF, hn, ep, RVs.data r⟩, fun _ _ z => nomatch z⟩ q
def tKn (t : TE) : TE := t
theorem toKn {Y : Cx} {e : Expr} {t : TE} (h : PE Y e t) : PE Y e (tKn t) := h
def qKn3 (K : PySem.W.Frag) (pe : QE) : QE := fun ρ Q => pe ρ fun r ρ1 => ∃ ds, r = .val (knD K ds) ∧ Q (.val (.tup ds)) ρ1
theorem li_kn {te : TE} {pe : QE} (h : LiE X te pe) (hK : X.K = K := by rfl) : LiE X (tKn te) (qKn3 K pe) := by
  subst hK
  intro c hX σ F H ρ Q Q3 R hq hp
  subst hX
  refine h c rfl σ F H ρ _ _ R ?_ hp
  rintro r ρ1 v F1 H1 R1 s1 rv ⟨ds, rfl, q⟩
  exact hq (.val (.tup ds)) ρ1 v F1 H1 R1 s1 (knD_tup rv) q
def qKn4 (K : PySem.W.Frag) (pe : QE4) : QE4 := fun ρ μ Q => pe ρ μ fun x μ1 => ∃ ds, x = .d (knD K ds) ∧ Q (.d (.tup ds)) μ1
theorem e_kn {te : TE} {pe : QE4} (h : E4 X te pe) (hK : X.K = K := by rfl) : E4 X (tKn te) (qKn4 K pe) := by
  subst hK
  intro c hX σ F H μ ρ Q Q4 R hq hp
  subst hX
  refine h c rfl σ F H μ ρ _ _ R ?_ hp
  rintro x v F1 H1 μ1 R1 s1 rv ⟨ds, rfl, q⟩
  exact hq (.d (.tup ds)) v F1 H1 μ1 R1 s1 (knD_tup rv) q
theorem w_kn {ρ : PSt} {pe : QE} {Q : Rv → PSt → Prop} (h : pe ρ fun r ρ1 => ∃ ds, r = .val (knD K ds) ∧ Q (.val (.tup ds)) ρ1) : qKn3 K pe ρ Q := h
theorem v_kn {ρ : PS} {μ : Mu} {pe : QE4} {Q : Vl → Mu → Prop} (h : pe ρ μ fun x μ1 => ∃ ds, x = .d (knD K ds) ∧ Q (.d (.tup ds)) μ1) : qKn4 K pe ρ μ Q := h
def qDGet3 (pd pk : QE) : QE := fun ρ Q => pd ρ fun r ρ1 => pk ρ1 fun r2 ρ2 => ∃ m k z, r = .val (L4.dicD m) ∧ rdR ρ2 r2 = some (keyD k) ∧ val4 (dKV m) k = some (.d z) ∧ Q (.val z) ρ2
theorem rn_key {F H : Hp} {k : Key} {v : V} (h : Rn K F H (keyD k) v) : v = kV k := by
  cases k <;> exact h
theorem li_dget {td tk : TE} {pd pk : QE} (h0 : LiE X td pd) (h1 : LiE X tk pk) : LiE X (tDGet td tk) (qDGet3 pd pk) := by
  intro c hX σ F H ρ Q Q3 R hq hp
  refine h0 c hX σ F H ρ _ _ R ?_ hp
  intro r ρ1 v F1 H1 R1 s1 rv q1
  refine h1 c hX σ F1 H1 ρ1 _ _ R1 ?_ q1
  rintro r2 ρ2 u F2 H2 R2 s2 ru ⟨m, k, z, rfl, ek, ez, q⟩
  obtain rfl := rn_key (ru.rn R2 ek)
  have rv2 : Rp c.K F2 (L4.dicD m) v := Rp.mono s2 rv
  obtain ⟨a, vs, rfl, ha, rp⟩ := rv2
  have rk := zipKk_rk (K := c.K) (F := F2) (ns := m.map (·.1)) rp
  rw [zipKk_map] at rk
  obtain ⟨w, e2, rw2⟩ := (rk_val rk).2 _ ez
  exact ⟨a, w, rfl, by rw [← e2]; exact DGet.k (R2.sub _ _ ha), hq (.val z) ρ2 w F2 H2 R2 (tr s1 s2) rw2 q⟩
theorem w_dget {ρ : PSt} {pd pk : QE} {Q : Rv → PSt → Prop} (h : pd ρ fun r ρ1 => pk ρ1 fun r2 ρ2 => ∃ m k z, r = .val (L4.dicD m) ∧ rdR ρ2 r2 = some (keyD k) ∧ val4 (dKV m) k = some (.d z) ∧ Q (.val z) ρ2) : qDGet3 pd pk ρ Q := h
def spA (X : Sx) (S : Addr → Option PSp) : Addr → Option Sp := fun f => (S f).map fun P => lsp X none P
def qCallA (i : Nat) (S : Addr → Option PSp) (pa : QA) : QE := fun ρ Q => ∃ f P, ρ[i]? = some (.val (clsD f)) ∧ S f = some P ∧ pa ρ fun rs ρ1 => ∃ ds, rs = ds.map Rv.val ∧ P ds fun r _ => ∃ d, r = .val d ∧ Q (.val d) ρ1
theorem rdL_vals {ρ : PSt} : ∀ ds : List D, rdL ρ (ds.map Rv.val) = some ds
  | [] => rfl
  | d :: ds => by
    show cons2 (some d) (rdL ρ (ds.map Rv.val)) = _
    rw [rdL_vals ds]
    rfl
theorem li_callA {i : Nat} {S : Addr → Option PSp} {ta : TA} {pa : QA} (h1 : LiA X ta pa) : LiE X (tCallA i (spA X S) ta) (qCallA i S pa) := by
  intro c hX σ F H ρ Q Q3 R hq ⟨f, P, ef, eS, h⟩
  subst hX
  obtain ⟨w, ew, rw1⟩ := R.slot i _ ef
  obtain rfl : w = .ref f := rw1
  refine ⟨f, lsp c.X none P, ew, by unfold spA; rw [eS]; rfl, ?_⟩
  refine h1 c rfl σ F H ρ _ _ R ?_ h
  rintro rs ρ1 vs F1 H1 R1 s1 rv ⟨ds, rfl, q1⟩
  have nc : (ds.map Rv.val).any isCell = false := by
    rw [List.any_eq_false]
    intro r hr
    obtain ⟨d, _, rfl⟩ := List.mem_map.mp hr
    exact (fun z => nomatch z)
  refine ⟨F1, ds, _, enterV R1 rv (rdL_vals ds) nc, q1, ?_⟩
  rintro r out v F' H' ex ⟨d, rfl, q⟩
  have R2 := Step.own ex.step R1
  exact hq (.val d) ρ1 v F' H' R2 (tr s1 ex.step.fr) ex.res q
theorem w_callA {i : Nat} {S : Addr → Option PSp} {pa : QA} {ρ : PSt} {Q : Rv → PSt → Prop} {f : Addr} {P : PSp} (ef : ρ[i]? = some (.val (clsD f))) (eS : S f = some P) (h : pa ρ fun rs ρ1 => ∃ ds, rs = ds.map Rv.val ∧ P ds fun r _ => ∃ d, r = .val d ∧ Q (.val d) ρ1) : qCallA i S pa ρ Q := ⟨f, P, ef, eS, h⟩
def qMkL4 (C : Addr) (g3 : List D → Option (List D)) (pk : QA4) : QE4 := fun ρ μ Q => pk ρ μ fun xs μ1 => ∃ ds a b c d, allD xs = some ds ∧ g3 ds = some [a, b, c, d] ∧ Q (.d (lifeD C a b c d)) μ1
theorem e_mkG {C : Addr} {n : Nat} {gV : List V → List V → List V} {E : XK} {tk : TA} {pk : QA4} {g3 : List D → Option (List D)} (g : GLif K n gV g3) (h1 : A4 X tk pk) (hK : X.K = K := by rfl) : E4 X (tMakeK C 0 n (spLifeI C) gV E tNil tk) (qMkL4 C g3 pk) := by
  subst hK
  intro c hX σ F H μ ρ Q Q4 R hq h
  subst hX
  refine h1 c rfl σ F H μ ρ _ _ R ?_ h
  rintro xs zs F1 H1 μ1 R1 s1 rv ⟨ds, a, b, e, d, ed, hgd, q⟩
  have rl := allD_rp rv ed
  refine ⟨rfl, by rw [rl.len]; exact g.len _ _ hgd, fun x dx nx ndx nxx => ?_⟩
  obtain ⟨v1, v2, v3, v4, e1, r1, r2, r3, r4⟩ := g.ok F1 (.ref x) ds zs a b e d rl hgd
  rw [e1]
  obtain ⟨F', R', s', r'⟩ := life_made (C := C) R1.rel nx ndx nxx r1 r2 r3 r4
  exact ⟨x, dx, v1, v2, v3, v4, rfl, upd_same, rfl, hq (.d (lifeD C a b e d)) (.ref x) F' _ μ1 (R1.back R') (tr s1 s') r' q⟩
theorem v_mkG {C : Addr} {g3 : List D → Option (List D)} {pk : QA4} {ρ : PS} {μ : Mu} {Q : Vl → Mu → Prop} (h : pk ρ μ fun xs μ1 => ∃ ds a b c d, allD xs = some ds ∧ g3 ds = some [a, b, c, d] ∧ Q (.d (lifeD C a b c d)) μ1) : qMkL4 C g3 pk ρ μ Q := h
end
section
variable {K : PySem.W.Frag} {P : P4} {ρ : PS} {μ : Mu} {Q : Vl → Mu → Prop} {pe pd pk px : QE4} {pp : QPs4}
theorem v_dgetA (h : pd ρ μ fun x μ1 => pk ρ μ1 fun y μ2 => ∃ kvs k z, dicOf μ2 x = some kvs ∧ keyOf y = some k ∧ val4 kvs k = some z ∧ Q z μ2) : qDGetA pd pk ρ μ Q := h
theorem v_dget2A (h : pd ρ μ fun x μ1 => (∃ kvs, dicOf μ1 x = some kvs) ∧ pk ρ μ1 fun y μ2 => px ρ μ2 fun w μ3 => ∃ kvs k, dicOf μ3 x = some kvs ∧ keyOf y = some k ∧ Q ((val4 kvs k).getD w) μ3) : qDGet2A pd pk px ρ μ Q := h
theorem v_disp (h : ∀ p, μ p = none → pp ρ (updM μ p (.dic [])) fun xs μ' => μ' p = some (.dic []) ∧ ∃ kvs, keys4 xs = some kvs ∧ kvs.length ≤ 15 ∧ Q (.loc p) (updM μ' p (.dic (merge4 [] kvs)))) : qDisp4 pp ρ μ Q := h
theorem v_pnil {R : List (Vl × Vl) → Mu → Prop} (h : R [] μ) : pNil ρ μ R := h
theorem v_pcons {R : List (Vl × Vl) → Mu → Prop} (h : pk ρ μ fun x μ1 => pd ρ μ1 fun y μ2 => pp ρ μ2 fun xs μ3 => R ((x, y) :: xs) μ3) : pCons pk pd pp ρ μ R := h
theorem v_listIt (h : pe ρ μ fun x μ1 => ∃ m : List (Key × D), dicOf μ1 x = some (dKV m) ∧ Q (.d (.lst (m.map pairD))) μ1) : qListIt pe ρ μ Q := h
theorem v_tupSort (h : pe ρ μ fun x μ1 => ∃ kvs : List SI, dicOf μ1 x = some (kvSI kvs) ∧ Q (.d (knD K ((sortSI kvs).map pairSI))) μ1) : qTupSort K pe ρ μ Q := h
theorem v_dictK (h : pe ρ μ fun x μ1 => ∃ vs kvs, lstOf μ1 x = some vs ∧ pairs4 vs = some kvs ∧ ∃ m, merge4 [] kvs = dKV m ∧ Q (.d (L4.dicD m)) μ1) : qDictK pe ρ μ Q := h
theorem v_dictTM (h : pe ρ μ fun x μ1 => ∃ ds kvs, x = .d (knD K ds) ∧ pairs4 (ds.map Vl.d) = some kvs ∧ ∀ p, μ1 p = none → Q (.loc p) (updM μ1 p (.dic (merge4 [] kvs)))) : qDictTM K pe ρ μ Q := h
end
end L4
namespace L4
open PySem PySem.Spec PyProof.Rows L2 TB LamX L3
def kltSI (p q : SI) : Prop := p.1.cps.toList < q.1.cps.toList ∨ (p.1 = q.1 ∧ p.2 < q.2)
instance (p q : SI) : Decidable (kltSI p q) := inferInstanceAs (Decidable (_ ∨ _))
theorem str_cps {x y : Str} (h : x.cps.toList = y.cps.toList) : x = y := by
  cases x; cases y
  congr 1
  exact Array.toList_inj.mp h
theorem dataLt_SI (p q : SI) : PySem.W.dataLt (dSI p) (dSI q) = decide (kltSI p q) := by
  unfold dSI
  rw [PySem.W.dataLt_pair (by simp [PySem.W.alike]) (by simp [PySem.W.alike]), PySem.W.dataLt_int, PySem.W.dataLt_str]
  unfold kltSI
  simp only [PyData.eqv, beq_iff_eq]
  by_cases h1 : p.1 = q.1
  · rw [if_pos h1]
    have n1 : ¬ p.1.cps.toList < q.1.cps.toList := by rw [h1]; exact List.lt_irrefl _
    by_cases h2 : p.2 = q.2
    · rw [if_pos h2]
      refine (decide_eq_false fun h => ?_).symm
      rcases h with h | ⟨_, h⟩
      · exact n1 h
      · omega
    · rw [if_neg h2]
      exact decide_eq_decide.mpr ⟨fun h => Or.inr ⟨h1, h⟩, fun h => h.elim (fun z => absurd z n1) (fun z => z.2)⟩
  · rw [if_neg h1]
    exact decide_eq_decide.mpr ⟨Or.inl, fun h => h.elim id (fun z => absurd z.1 h1)⟩
theorem leSI_eq (p q : SI) : leSI p q = !decide (kltSI q p) := by
  show (!PySem.W.dataLt (dSI q) (dSI p)) = _
  rw [dataLt_SI]
theorem kltSI_as {p q : SI} (h : kltSI p q) : ¬ kltSI q p := by
  unfold kltSI at *
  rintro (l | ⟨l, n⟩) <;> rcases h with h | ⟨h, m⟩
  · exact List.lt_asymm h l
  · rw [h] at l; exact List.lt_irrefl _ l
  · rw [l] at h; exact List.lt_irrefl _ h
  · omega
theorem kltSI_tr {p q r : SI} (h : ¬ kltSI q p) (k : ¬ kltSI r q) : ¬ kltSI r p := by
  unfold kltSI at *
  intro l
  have h1 : ¬ q.1.cps.toList < p.1.cps.toList := fun z => h (Or.inl z)
  have k1 : ¬ r.1.cps.toList < q.1.cps.toList := fun z => k (Or.inl z)
  have le1 : p.1.cps.toList ≤ q.1.cps.toList := List.not_lt.mp h1
  have le2 : q.1.cps.toList ≤ r.1.cps.toList := List.not_lt.mp k1
  have le3 : p.1.cps.toList ≤ r.1.cps.toList := List.le_trans le1 le2
  rcases l with l | ⟨e, m⟩
  · exact List.not_lt.mpr le3 l
  · rw [e] at le2
    have e1 : p.1 = q.1 := str_cps (List.le_antisymm le1 le2)
    have e2 : r.1 = q.1 := e.trans e1
    have h2 : ¬ q.2 < p.2 := fun z => h (Or.inr ⟨e1.symm, z⟩)
    have k2 : ¬ r.2 < q.2 := fun z => k (Or.inr ⟨e2, z⟩)
    omega
theorem leSI_anti {p q : SI} (h : leSI p q = true) (k : leSI q p = true) : p = q := by
  rw [leSI_eq] at h k
  simp only [Bool.not_eq_true', decide_eq_false_iff_not] at h k
  unfold kltSI at h k
  have h1 : ¬ q.1.cps.toList < p.1.cps.toList := fun z => h (Or.inl z)
  have k1 : ¬ p.1.cps.toList < q.1.cps.toList := fun z => k (Or.inl z)
  have e1 : p.1 = q.1 := str_cps (List.le_antisymm (List.not_lt.mp h1) (List.not_lt.mp k1))
  have h2 : ¬ q.2 < p.2 := fun z => h (Or.inr ⟨e1.symm, z⟩)
  have k2 : ¬ p.2 < q.2 := fun z => k (Or.inr ⟨e1, z⟩)
  exact Prod.ext e1 (by omega)
theorem leSI_tr (a b c : SI) (h1 : leSI a b = true) (h2 : leSI b c = true) : leSI a c = true := by
  rw [leSI_eq] at *
  simp only [Bool.not_eq_true', decide_eq_false_iff_not] at *
  exact kltSI_tr h1 h2
theorem leSI_tot (a b : SI) : (leSI a b || leSI b a) = true := by
  rw [leSI_eq, leSI_eq]
  by_cases h : kltSI b a
  · have := kltSI_as h
    simp [h, this]
  · simp [h]
theorem pair_uniq {α : Type} {le : α → α → Bool} (an : ∀ a b, le a b = true → le b a = true → a = b) : ∀ {xs ys : List α}, xs.Perm ys → xs.Pairwise (fun a b => le a b = true) → ys.Pairwise (fun a b => le a b = true) → xs = ys
  | [], ys, h, _, _ => (List.Perm.eq_nil h.symm).symm
  | x :: xs, [], h, _, _ => absurd h.length_eq (by simp)
  | x :: xs, y :: ys, h, p1, p2 => by
    obtain ⟨a1, a2⟩ := List.pairwise_cons.mp p1
    obtain ⟨b1, b2⟩ := List.pairwise_cons.mp p2
    have e : x = y := by
      by_cases e : x = y
      · exact e
      · have hx : x ∈ ys := (List.mem_cons.mp (h.mem_iff.mp List.mem_cons_self)).resolve_left e
        have hy : y ∈ xs := (List.mem_cons.mp (h.mem_iff.mpr List.mem_cons_self)).resolve_left (fun z => e z.symm)
        exact an x y (a1 y hy) (b1 x hx)
    subst e
    rw [pair_uniq an (List.Perm.cons_inv h) a2 b2]
theorem sortSI_pm (xs : List SI) : (sortSI xs).Perm xs := List.mergeSort_perm _ _
theorem sortSI_pw (xs : List SI) : (sortSI xs).Pairwise (fun a b => leSI a b = true) := List.pairwise_mergeSort leSI_tr leSI_tot xs
theorem sortSI_perm {xs ys : List SI} (h : xs.Perm ys) : sortSI xs = sortSI ys :=
  pair_uniq (fun _ _ => leSI_anti) (((sortSI_pm xs).trans h).trans (sortSI_pm ys).symm) (sortSI_pw xs) (sortSI_pw ys)
theorem sortSI_idem (xs : List SI) : sortSI (sortSI xs) = sortSI xs := sortSI_perm (sortSI_pm xs)
def keysSI (m : List SI) : List Str := m.map (·.1)
def valSI (m : List SI) (z : Str) : Option Int := (m.find? fun b => decide (b.1 = z)).map (·.2)
def putSI (m : List SI) (z : Str) (v : Int) : List SI := if (m.any fun b => decide (b.1 = z)) = true then m.map (fun b => if b.1 = z then (b.1, v) else b) else m ++ [(z, v)]
theorem valSI_mem {z : Str} {v : Int} : ∀ {m : List SI}, (keysSI m).Nodup → (valSI m z = some v ↔ (z, v) ∈ m)
  | [], _ => ⟨(fun h => nomatch h), (fun h => nomatch h)⟩
  | b :: m, nd => by
    obtain ⟨n1, n2⟩ := List.nodup_cons.mp (show (b.1 :: keysSI m).Nodup from nd)
    unfold valSI
    rw [List.find?_cons]
    by_cases e : b.1 = z
    · rw [decide_eq_true e]
      constructor
      · intro h
        obtain rfl : b.2 = v := Option.some.inj h
        rw [← e]
        exact List.mem_cons_self
      · intro h
        rcases List.mem_cons.mp h with h | h
        · rw [← h]; rfl
        · exact absurd (List.mem_map_of_mem (f := (·.1)) h) (by rw [e] at n1; exact n1)
    · rw [decide_eq_false e]
      have ih := valSI_mem (z := z) (v := v) n2
      unfold valSI at ih
      refine Iff.trans ih ?_
      constructor
      · exact fun h => List.mem_cons_of_mem _ h
      · intro h
        rcases List.mem_cons.mp h with h | h
        · exact absurd (congrArg (·.1) h).symm e
        · exact h
theorem keys_perm {xs ys : List SI} (h : xs.Perm ys) : (keysSI xs).Perm (keysSI ys) := h.map _
theorem valSI_perm {xs ys : List SI} {z : Str} (h : xs.Perm ys) (nd : (keysSI xs).Nodup) : valSI xs z = valSI ys z := by
  have nd2 : (keysSI ys).Nodup := (keys_perm h).nodup_iff.mp nd
  cases e : valSI xs z with
  | some v => exact ((valSI_mem nd2).mpr (h.mem_iff.mp ((valSI_mem nd).mp e))).symm
  | none =>
    cases e2 : valSI ys z with
    | none => rfl
    | some v => rw [(valSI_mem nd).mpr (h.mem_iff.mpr ((valSI_mem nd2).mp e2))] at e; exact nomatch e
theorem putSI_perm {xs ys : List SI} {z : Str} {v : Int} (h : xs.Perm ys) : (putSI xs z v).Perm (putSI ys z v) := by
  unfold putSI
  have e : (xs.any fun b => decide (b.1 = z)) = ys.any fun b => decide (b.1 = z) := h.any_eq
  rw [e]
  split
  · exact h.map _
  · exact h.append_right _
theorem putSI_keys {xs : List SI} {z : Str} {v : Int} (nd : (keysSI xs).Nodup) : (keysSI (putSI xs z v)).Nodup := by
  unfold putSI
  split
  · rw [keysSI, List.map_map, show ((fun b : SI => b.1) ∘ fun b => if b.1 = z then (b.1, v) else b) = (fun b => b.1) by
      funext b
      show (if b.1 = z then (b.1, v) else b).1 = b.1
      split <;> rfl]
    exact nd
  · rename_i h
    rw [keysSI, List.map_append]
    refine List.nodup_append.mpr ⟨nd, (by simp), fun a ha b hb e => h ?_⟩
    rw [List.mem_singleton.mp hb] at e
    obtain ⟨x, hx, e2⟩ := List.mem_map.mp ha
    exact List.any_eq_true.mpr ⟨x, hx, decide_eq_true (e2.trans e)⟩
theorem putSI_len {xs : List SI} {z : Str} {v : Int} : (putSI xs z v).length ≤ xs.length + 1 := by
  unfold putSI
  split
  · rw [List.length_map]; omega
  · rw [List.length_append]; exact Nat.le_refl _
theorem putSI_keysIn {xs : List SI} {z : Str} {v : Int} {ns : List Str} (h : ∀ k ∈ keysSI xs, k ∈ ns) (hz : z ∈ ns) : ∀ k ∈ keysSI (putSI xs z v), k ∈ ns := by
  unfold putSI
  split
  · intro k hk
    obtain ⟨b, hb, rfl⟩ := List.mem_map.mp hk
    obtain ⟨b0, hb0, rfl⟩ := List.mem_map.mp hb
    have : (if b0.1 = z then (b0.1, v) else b0).1 = b0.1 := by split <;> rfl
    rw [this]
    exact h _ (List.mem_map_of_mem hb0)
  · intro k hk
    rw [keysSI, List.map_append] at hk
    rcases List.mem_append.mp hk with hk | hk
    · exact h k hk
    · rw [List.mem_singleton.mp hk]; exact hz
theorem sort_put (n : List SI) (z : Str) (v : Int) : sortSI (putSI (sortSI n) z v) = sortSI (putSI n z v) := sortSI_perm (putSI_perm (sortSI_pm n))
theorem kvSI_app (a b : List SI) : kvSI (a ++ b) = kvSI a ++ kvSI b := by simp [kvSI, dKV]
theorem val_kvSI {z : Str} : ∀ m : List SI, val4 (kvSI m) (.inr z) = (valSI m z).map fun v => Vl.d (.int v)
  | [] => rfl
  | b :: m => by
    have ih := val_kvSI (z := z) m
    unfold val4 valSI at *
    rw [show kvSI (b :: m) = (.inr b.1, Vl.d (.int b.2)) :: kvSI m from rfl, List.find?_cons, List.find?_cons]
    by_cases e : b.1 = z
    · rw [decide_eq_true e, decide_eq_true (show (Sum.inr b.1 : Key) = .inr z by rw [e])]
      rfl
    · rw [decide_eq_false e, decide_eq_false (show ¬ (Sum.inr b.1 : Key) = .inr z from fun z2 => e (Sum.inr.inj z2))]
      exact ih
theorem put_kvSI {z : Str} {v : Int} (m : List SI) : putK4 (kvSI m) (.inr z) (.d (.int v)) = kvSI (putSI m z v) := by
  unfold putK4 putSI
  have e : ((kvSI m).any fun kv => decide (kv.1 = (.inr z : Key))) = m.any fun b => decide (b.1 = z) := by
    induction m with
    | nil => rfl
    | cons b m ih =>
      rw [show kvSI (b :: m) = (.inr b.1, Vl.d (.int b.2)) :: kvSI m from rfl, List.any_cons, List.any_cons, ih]
      congr 1
      exact decide_eq_decide.mpr ⟨fun h => Sum.inr.inj h, fun h => by rw [h]⟩
  rw [e]
  split
  · show ((m.map siK).map _).map _ = ((m.map _).map siK).map _
    rw [List.map_map, List.map_map, List.map_map, List.map_map]
    refine List.map_congr_left fun b _ => ?_
    show (if (Sum.inr b.1 : Key) = .inr z then ((Sum.inr b.1 : Key), Vl.d (.int v)) else (Sum.inr b.1, .d (.int b.2))) = _
    show _ = ((siK (if b.1 = z then (b.1, v) else b)).1, Vl.d (siK (if b.1 = z then (b.1, v) else b)).2)
    by_cases h : b.1 = z
    · rw [if_pos h, if_pos (show (Sum.inr b.1 : Key) = .inr z by rw [h])]
      rfl
    · rw [if_neg h, if_neg (show ¬ (Sum.inr b.1 : Key) = .inr z from fun q => h (Sum.inr.inj q))]
      rfl
  · rw [kvSI_app]
    rfl
theorem putK4_new {kvs : List (Key × Vl)} {k : Key} {x : Vl} (h : k ∉ kvs.map (·.1)) : putK4 kvs k x = kvs ++ [(k, x)] := by
  unfold putK4
  rw [if_neg]
  intro q
  obtain ⟨p, hp, e⟩ := List.any_eq_true.mp q
  exact h (by rw [← of_decide_eq_true e]; exact List.mem_map_of_mem hp)
theorem merge4_nd : ∀ {kvs acc : List (Key × Vl)}, ((acc ++ kvs).map (·.1)).Nodup → merge4 acc kvs = acc ++ kvs
  | [], acc, _ => (List.append_nil _).symm
  | p :: kvs, acc, nd => by
    show merge4 (putK4 acc p.1 p.2) kvs = _
    have h1 : p.1 ∉ acc.map (·.1) := by
      rw [List.map_append, List.map_cons] at nd
      exact fun z => (List.nodup_append.mp nd).2.2 _ z _ List.mem_cons_self rfl
    rw [putK4_new h1, merge4_nd (by rw [List.append_assoc]; exact nd), List.append_assoc]
    rfl
theorem keys_kvSI (m : List SI) : (kvSI m).map (·.1) = (keysSI m).map (fun z => (Sum.inr z : Key)) := by
  simp [kvSI, dKV, keysSI, siK, List.map_map]
theorem nd_kvSI {m : List SI} (nd : (keysSI m).Nodup) : ((kvSI m).map (·.1)).Nodup := by
  rw [keys_kvSI]
  exact List.Pairwise.map _ (fun a b h e => h (Sum.inr.inj e)) nd
theorem merge_kvSI {m : List SI} (nd : (keysSI m).Nodup) : merge4 [] (kvSI m) = kvSI m := merge4_nd (by rw [List.nil_append]; exact nd_kvSI nd)
theorem merge_put {m : List SI} {z : Str} {v : Int} (nd : (keysSI m).Nodup) : merge4 [] (kvSI (m ++ [(z, v)])) = kvSI (putSI m z v) := by
  rw [kvSI_app, ← put_kvSI]
  unfold merge4
  rw [List.foldl_append]
  have := merge_kvSI nd
  unfold merge4 at this
  rw [this]
  rfl
theorem pairs_SI : ∀ m : List SI, pairs4 ((m.map pairSI).map Vl.d) = some (kvSI m)
  | [] => rfl
  | b :: m => by
    show (match pair4 (.d (pairSI b)), pairs4 ((m.map pairSI).map Vl.d) with | some p, some l => some (p :: l) | _, _ => none) = _
    rw [pairs_SI m]
    rfl
theorem pair_siK (m : List SI) : (m.map siK).map pairD = m.map pairSI := by
  rw [List.map_map]
  rfl
structure Lf where
  place : Nat
  hand : Int
  dr : List SI
  cl : List Str
def lfD (K : PySem.W.Frag) (C : Addr) (l : Lf) : D := lifeD C (.int l.place) (.int l.hand) (knD K (l.dr.map pairSI)) (.tup (strsD l.cl))
/-- what stands in a cell, for a life -/
def foundL (l : Lf) (vs : List SI) (c : Str) : Int := ((valSI l.dr c).getD ((valSI vs c).getD 0))
def lockOf (p : PlanL) (c : Str) : Str := ((p.cells.find? fun x => decide (x.name = c)).map (·.lock)).getD c
/-- what a deed makes of a life -/
def stepL (p : PlanL) (vs : List SI) (l : Lf) : Dd → Option Lf
  | .set n => some { l with place := l.place + 1, hand := n }
  | .add n => some { l with place := l.place + 1, hand := l.hand + n }
  | .take z => some { l with place := l.place + 1, cl := if z ∈ l.cl then l.cl else l.cl ++ [z] }
  | .read c => if lockOf p c ∈ l.cl then some { l with place := l.place + 1, hand := foundL l vs c } else none
  | .write c => if lockOf p c ∈ l.cl then some { l with place := l.place + 1, dr := sortSI (putSI l.dr c l.hand) } else none
  | .skip n m => some { l with place := if l.hand = n then l.place + 1 + m.toNat else l.place + 1 }
  | .quit => none
/-- how a task ends alone -/
structure Out where
  ok : Bool
  hand : Int
  dr : List SI
end L4
namespace L2
open PySem PySem.Spec PyProof.Rows
/-- f() -/
theorem pe_c0 {X : Cx} {k j : Nat} {x : Str} {sp : Sp} {dvs : List V} {p pos : Pos} (c : C8.Cal X.prog X.w X.K X.mg X.base k x sp dvs) (hr : Room j X.A) (hk : k ≤ j) (hg : Gl X x) (hdb : (x == ("__debug__" : Str)) = false := by decide) : PE X (.Call (.Name x p) [] [] pos) (tCall sp dvs C8.E0 tNil) := by
  obtain ⟨f, fd, ps, ds, F, hm, kp, b, d⟩ := c.ex
  exact pe_call0 F (hr.mono hk) hg hm kp b d C8.pass0 hdb
/-- d[k] = v as a part of a target -/
def rSetD : V → V → V → Hp → (Hp → Prop) → Prop := fun o i v H Q => ∃ a H', o = .ref a ∧ DPut H a i v H' ∧ Q H'
theorem set_dict {X : Cx} (hu : X.A.units + 1 < cLine) : PSet X rSetD := by
  intro pins s σ H o i v ov iv u Q I ro ri rv h
  obtain ⟨a, H', rfl, g, q⟩ := h
  cases ro
  exact d_setItem hu I g ri rv fun s' I' => ⟨H', I', q⟩
end L2
namespace L4
section
open PySem PySem.Spec PyProof.Rows L2 TB LamX L3
variable {X : Sx}
def gSubD (pa pb : QE4) : QG4 := fun x ρ μ Q => pa ρ μ fun o μ1 => pb ρ μ1 fun y μ2 => ∃ (a : Addr) (kvs : List (Key × Vl)) (k : Key), o = .loc a ∧ keyOf y = some k ∧ μ2 a = some (.dic kvs) ∧ kvs.length < sizeLine ∧ Q ρ (updM μ2 a (.dic (putK4 kvs k x)))
theorem g_subD {ta tb : TE} {pa pb : QE4} (h1 : E4 X ta pa) (h2 : E4 X tb pb) : G4 X (gSub ta tb rSetD) (gSubD pa pb) [] := by
  intro c hX σ F H μ ρ x v Rr Q4 R h hq hp
  refine h1 c hX σ F H μ ρ _ _ R ?_ hp
  intro o u F1 H1 μ1 R1 s1 rv q1
  refine h2 c hX σ F1 H1 μ1 ρ _ _ R1 ?_ q1
  rintro y w F2 H2 μ2 R2 s2 rw2 ⟨a, kvs, k, rfl, ek, em, el, q⟩
  obtain rfl := keyOf_at ek rw2
  obtain rfl : u = .ref a := rv
  obtain ⟨hF, ws, ea, rk⟩ := R2.mu a _ em
  refine ⟨a, _, rfl, DPut.k ea (by rw [rk_len rk]; exact el), ?_⟩
  exact hq ρ σ F2 _ _ (R2.mut (m' := .dic (putK4 kvs k x)) em trivial ⟨_, upd_same, rk_putK (h.mono (tr s1 s2)) rk⟩) (tr s1 s2) rfl (fun _ _ => rfl) q
theorem v_gsubD {pa pb : QE4} {x : Vl} {ρ : PS} {μ : Mu} {Q : PS → Mu → Prop} (h : pa ρ μ fun o μ1 => pb ρ μ1 fun y μ2 => ∃ (a : Addr) (kvs : List (Key × Vl)) (k : Key), o = .loc a ∧ keyOf y = some k ∧ μ2 a = some (.dic kvs) ∧ kvs.length < sizeLine ∧ Q ρ (updM μ2 a (.dic (putK4 kvs k x)))) : gSubD pa pb x ρ μ Q := h
end
end L4
namespace L4
open PySem PySem.Spec PyProof.Rows L2 TB LamX L3
theorem valSI_first {i : Nat} {b : SI} {c : Str} : ∀ {m : List SI} {i : Nat}, (∀ x ∈ m.take i, x.1 ≠ c) → m[i]? = some b → b.1 = c → valSI m c = some b.2
  | [], i, _, h, _ => by simp at h
  | x :: m, 0, _, h, e => by
    obtain rfl : x = b := by simpa using h
    unfold valSI
    rw [List.find?_cons, decide_eq_true e]
    rfl
  | x :: m, i + 1, n, h, e => by
    have ih := valSI_first (m := m) (i := i) (fun y hy => n y (by rw [List.take_succ_cons]; exact List.mem_cons_of_mem _ hy)) (by simpa using h) e
    unfold valSI at *
    rw [List.find?_cons, decide_eq_false (n x (by rw [List.take_succ_cons]; exact List.mem_cons_self))]
    exact ih
theorem valSI_none {c : Str} {m : List SI} (n : ∀ x ∈ m, x.1 ≠ c) : valSI m c = none := by
  unfold valSI
  rw [List.find?_eq_none.mpr fun x hx => by simpa using n x hx]
  rfl
/-- all cells of a plan have a value -/
def ValsOk (p : PlanL) (vs : List SI) : Prop := keysSI vs = p.cellNames
theorem ValsOk.some {p : PlanL} {vs : List SI} (h : ValsOk p vs) {c : Str} (hc : c ∈ p.cellNames) : ∃ v, valSI vs c = some v := by
  unfold ValsOk at h
  rw [← h] at hc
  obtain ⟨b, hb, e⟩ := List.mem_map.mp hc
  unfold valSI
  cases e2 : vs.find? fun b => decide (b.1 = c) with
  | some x => exact ⟨x.2, rfl⟩
  | none => exact absurd (List.find?_eq_none.mp e2 b hb) (by simpa using e)
theorem lock_of {p : PlanL} (ok : PlanOk p) {c : Cl} (h : c ∈ p.cells) : lockOf p c.name = c.lock := by
  unfold lockOf
  cases e : p.cells.find? fun x => decide (x.name = c.name) with
  | none => exact absurd (List.find?_eq_none.mp e c h) (by simp)
  | some x =>
    have h1 := List.mem_of_find?_eq_some e
    have h2 : x.name = c.name := by simpa using List.find?_some e
    have : x = c := by
      have nd := ok.ndC
      obtain ⟨i, hi, rfl⟩ := List.mem_iff_getElem.mp h1
      obtain ⟨j, hj, rfl⟩ := List.mem_iff_getElem.mp h
      have := (List.getElem_inj (i := i) (j := j) (h₀ := by rw [List.length_map]; exact hi) (h₁ := by rw [List.length_map]; exact hj) nd).mp (by rw [List.getElem_map, List.getElem_map]; exact h2)
      congr
    rw [this]
    rfl
def valsD (vs : List SI) : D := dicSI vs
def pFound (K : PySem.W.Frag) (C : Addr) : PSp := fun ds Q => ∃ (l : Lf) (c : Str) (vs : List SI), ds = [lfD K C l, .str c, valsD vs] ∧ l.dr.length ≤ 1000 ∧ (∃ v, valSI vs c = some v) ∧ Q (.val (.int (foundL l vs c))) none
def pWith (K : PySem.W.Frag) (C : Addr) : PSp := fun ds Q => ∃ (l : Lf) (h : Int) (b : Nat), ds = [lfD K C l, .int h, .int b] ∧ Q (.val (lfD K C { l with place := l.place + b, hand := h })) none
/-- a deed done that doesn't fail -/
def pDo (K : PySem.W.Frag) (C : Addr) (sel : Dd → Prop) : PSp := fun ds Q => ∃ (p : PlanL) (l l' : Lf) (d : Dd) (vs : List SI), ds = [lfD K C l, ddD d, valsD vs] ∧ sel d ∧ d.ok p.locks p.cellNames ∧ l.dr.length ≤ 1000 ∧ (keysSI l.dr).Nodup ∧ l.cl.length ≤ 1000 ∧ ValsOk p vs ∧ stepL p vs l d = some l' ∧ Q (.val (lfD K C l')) none
def pFail (K : PySem.W.Frag) (C CP : Addr) : PSp := fun ds Q => ∃ (p : PlanL) (l : Lf) (d : Dd), ds = [lfD K C l, ddD d, planD CP p] ∧ PlanOk p ∧ d.ok p.locks p.cellNames ∧ l.cl.length ≤ 1000 ∧ Q (.val (.bl (stepL p [] l d).isNone)) none
def optD (K : PySem.W.Frag) (C : Addr) : Option Lf → D
  | none => .non
  | some l => lfD K C l
def pDoneBy (K : PySem.W.Frag) (C CP : Addr) : PSp := fun ds Q => ∃ (p : PlanL) (l : Lf) (d : Dd) (vs : List SI), ds = [lfD K C l, ddD d, planD CP p, valsD vs] ∧ PlanOk p ∧ d.ok p.locks p.cellNames ∧ l.dr.length ≤ 1000 ∧ (keysSI l.dr).Nodup ∧ l.cl.length ≤ 1000 ∧ ValsOk p vs ∧ Q (.val (optD K C (stepL p vs l d))) none
/-- a life stays within bounds -/
structure LfOk (p : PlanL) (l : Lf) : Prop where
  nd : (keysSI l.dr).Nodup
  kin : ∀ k ∈ keysSI l.dr, k ∈ p.cellNames
  srt : sortSI l.dr = l.dr
  cnd : l.cl.Nodup
  cin : ∀ z ∈ l.cl, z ∈ p.locks
theorem nodup_len {xs ys : List Str} (nd : xs.Nodup) (h : ∀ x ∈ xs, x ∈ ys) : xs.length ≤ ys.length := by
  induction xs generalizing ys with
  | nil => exact Nat.zero_le _
  | cons x xs ih =>
    obtain ⟨n1, n2⟩ := List.nodup_cons.mp nd
    have hx := h x List.mem_cons_self
    have := ih (ys := ys.erase x) n2 fun z hz => (List.mem_erase_of_ne (fun e => n1 (by rw [← e]; exact hz))).mpr (h z (List.mem_cons_of_mem _ hz))
    rw [List.length_erase_of_mem hx] at this
    have := List.length_pos_of_mem hx
    rw [List.length_cons]
    omega
theorem LfOk.drl {p : PlanL} {l : Lf} (h : LfOk p l) (ok : PlanOk p) : l.dr.length ≤ 8 := by
  have := nodup_len h.nd h.kin
  rw [keysSI, List.length_map, PlanL.cellNames, List.length_map] at this
  have := ok.c8
  omega
theorem LfOk.cll {p : PlanL} {l : Lf} (h : LfOk p l) (ok : PlanOk p) : l.cl.length ≤ 7 := by
  have := nodup_len h.cnd h.cin
  have := ok.l7
  omega
theorem keys_sort {m : List SI} (nd : (keysSI m).Nodup) : (keysSI (sortSI m)).Nodup := (keys_perm (sortSI_pm m)).nodup_iff.mpr nd
theorem LfOk.step {p : PlanL} {vs : List SI} {l l' : Lf} {d : Dd} (h : LfOk p l) (hd : d.ok p.locks p.cellNames) (e : stepL p vs l d = some l') : LfOk p l' := by
  cases d with
  | set n => obtain rfl := Option.some.inj e; exact ⟨h.nd, h.kin, h.srt, h.cnd, h.cin⟩
  | add n => obtain rfl := Option.some.inj e; exact ⟨h.nd, h.kin, h.srt, h.cnd, h.cin⟩
  | skip n m => obtain rfl := Option.some.inj e; exact ⟨h.nd, h.kin, h.srt, h.cnd, h.cin⟩
  | quit => exact nomatch e
  | take z =>
    obtain rfl := Option.some.inj e
    refine ⟨h.nd, h.kin, h.srt, ?_, ?_⟩
    · show (if z ∈ l.cl then l.cl else l.cl ++ [z]).Nodup
      split
      · exact h.cnd
      · rename_i n
        exact List.nodup_append.mpr ⟨h.cnd, by simp, fun a ha b hb q => n (by rw [List.mem_singleton.mp hb] at q; rw [← q]; exact ha)⟩
    · show ∀ y ∈ (if z ∈ l.cl then l.cl else l.cl ++ [z]), y ∈ p.locks
      split
      · exact h.cin
      · intro y hy
        rcases List.mem_append.mp hy with hy | hy
        · exact h.cin y hy
        · rw [List.mem_singleton.mp hy]; exact hd
  | read c =>
    simp only [stepL] at e
    split at e
    · obtain rfl := Option.some.inj e; exact ⟨h.nd, h.kin, h.srt, h.cnd, h.cin⟩
    · exact nomatch e
  | write c =>
    simp only [stepL] at e
    split at e
    · obtain rfl := Option.some.inj e
      refine ⟨keys_sort (putSI_keys h.nd), fun k hk => ?_, sortSI_idem _, h.cnd, h.cin⟩
      exact putSI_keysIn h.kin hd k ((keys_perm (sortSI_pm _)).mem_iff.mp hk)
    · exact nomatch e
/-- what stands at the top of lives.py and alone.py -/
structure LvC (mg : Str → Option Value) : Prop where
  v_READ : ∃ u, mg "READ" = some u ∧ RelV (.str "read") u
  v_WRITE : ∃ u, mg "WRITE" = some u ∧ RelV (.str "write") u
  v_QUIT : ∃ u, mg "QUIT" = some u ∧ RelV (.str "quit") u
end L4
namespace L4
open PySem PySem.Spec PyProof.Rows L2 TB LamX L3
/-- the dict DEEDS: by a deed's word the def that does it -/
structure DeedsAt (K : PySem.W.Frag) (C : Addr) (dD : Addr) (S : Addr → Option PSp) : Prop where
  act : ∀ d : Dd, d.w ≠ "quit" → ∃ (fa : Addr) (P3 : PSp), KdAt K dD d.w (clsD fa) ∧ S fa = some P3 ∧ ∀ ds Q, pDo K C (fun e => e = d) ds Q → P3 ds Q
theorem step_quit {p : PlanL} {vs : List SI} {l l' : Lf} {d : Dd} (h : stepL p vs l d = some l') : d.w ≠ "quit" := by
  cases d with
  | quit => exact nomatch h
  | set n => exact (by decide +kernel : Str.ofString "set" ≠ Str.ofString "quit")
  | add n => exact (by decide +kernel : Str.ofString "add" ≠ Str.ofString "quit")
  | take n => exact (by decide +kernel : Str.ofString "take" ≠ Str.ofString "quit")
  | read n => exact (by decide +kernel : Str.ofString "read" ≠ Str.ofString "quit")
  | write n => exact (by decide +kernel : Str.ofString "write" ≠ Str.ofString "quit")
  | skip n m => exact (by decide +kernel : Str.ofString "skip" ≠ Str.ofString "quit")
theorem pDo_sub {K : PySem.W.Frag} {C : Addr} {s1 s2 : Dd → Prop} (h : ∀ d, s1 d → s2 d) {ds : List D} {Q : Rs → Option (List D) → Prop} (q : pDo K C s1 ds Q) : pDo K C s2 ds Q := by
  obtain ⟨p, l, l', d, vs, e, hs, r⟩ := q
  exact ⟨p, l, l', d, vs, e, h d hs, r⟩
end L4
namespace L4
open PySem PySem.Spec PyProof.Rows L2 TB LamX L3
/-- a person of the laws' own model -/
def perK (at_ : Nat) (palm : Int) (notes : List SI) (cl : List Str) : List (Key × Vl) :=
  [(.inr "at", .d (.int at_)), (.inr "palm", .d (.int palm)), (.inr "notes", .d (dicSI notes)), (.inr "claims", .d (.lst (strsD cl))), (.inr "stack", .d (.lst [])), (.inr "wait", .d .non), (.inr "end", .d .non)]
section
variable {t : Nat} {palm : Int} {notes : List SI} {cl : List Str} {x : Vl}
theorem pk_at : val4 (perK t palm notes cl) (.inr "at") = some (.d (.int t)) := by rfl
theorem pk_palm : val4 (perK t palm notes cl) (.inr "palm") = some (.d (.int palm)) := by rfl
theorem pk_notes : val4 (perK t palm notes cl) (.inr "notes") = some (.d (dicSI notes)) := by rfl
theorem pk_claims : val4 (perK t palm notes cl) (.inr "claims") = some (.d (.lst (strsD cl))) := by rfl
theorem pp_at {u : Nat} : putK4 (perK t palm notes cl) (.inr "at") (.d (.int u)) = perK u palm notes cl := by rfl
theorem pp_atS : putK4 (perK t palm notes cl) (.inr "at") (.d (.int ((t : Int) + 1))) = perK (t + 1) palm notes cl := by rfl
theorem pp_palm {u : Int} : putK4 (perK t palm notes cl) (.inr "palm") (.d (.int u)) = perK t u notes cl := by rfl
theorem pp_notes {u : List SI} : putK4 (perK t palm notes cl) (.inr "notes") (.d (dicSI u)) = perK t palm u cl := by rfl
theorem pp_claims {u : List Str} : putK4 (perK t palm notes cl) (.inr "claims") (.d (.lst (strsD u))) = perK t palm notes u := by rfl
theorem pk_len : (perK t palm notes cl).length < sizeLine := szL (by show 7 < 1000000; decide)
end
def latchD (p : PlanL) : D := dicD (p.cells.map fun c => ((.inr c.name : Key), D.str c.lock))
def rowsD0 (p : PlanL) : D := dicD (p.locks.map fun z => ((.inr z : Key), D.lst []))
/-- the world as it begins -/
def worldK (p : PlanL) (vs : List SI) (o a f : Addr) : List (Key × Vl) :=
  [(.inr "locks", .d (.lst (strsD p.locks))), (.inr "slots", .d (.lst (p.cells.map clD))), (.inr "order", .loc o), (.inr "acts", .loc a), (.inr "folk", .loc f), (.inr "pairs", .d (.lst [])),
   (.inr "values", .d (valsD vs)), (.inr "latch", .d (latchD p)), (.inr "rows", .d (rowsD0 p)), (.inr "asks", .d (.lst [])), (.inr "ends", .d (.lst []))]
section
variable {p : PlanL} {vs : List SI} {o a f : Addr}
theorem wk_slots : val4 (worldK p vs o a f) (.inr "slots") = some (.d (.lst (p.cells.map clD))) := by rfl
theorem wk_locks : val4 (worldK p vs o a f) (.inr "locks") = some (.d (.lst (strsD p.locks))) := by rfl
theorem wk_order : val4 (worldK p vs o a f) (.inr "order") = some (.loc o) := by rfl
theorem wk_acts : val4 (worldK p vs o a f) (.inr "acts") = some (.loc a) := by rfl
theorem wk_folk : val4 (worldK p vs o a f) (.inr "folk") = some (.loc f) := by rfl
theorem wk_values : val4 (worldK p vs o a f) (.inr "values") = some (.d (valsD vs)) := by rfl
theorem wk_latch : val4 (worldK p vs o a f) (.inr "latch") = some (.d (latchD p)) := by rfl
theorem wp_values {ws : List SI} : putK4 (worldK p vs o a f) (.inr "values") (.d (valsD ws)) = worldK p ws o a f := by rfl
theorem wk_len : (worldK p vs o a f).length < sizeLine := szL (by show 11 < 1000000; decide)
end
def w6 (p : PlanL) (vs : List SI) (o a f : Addr) : List (Key × Vl) := [(.inr "locks", .d (.lst (strsD p.locks))), (.inr "slots", .d (.lst (p.cells.map clD))), (.inr "order", .loc o), (.inr "acts", .loc a), (.inr "folk", .loc f), (.inr "pairs", .d (.lst []))]
def w7 (p : PlanL) (vs : List SI) (o a f : Addr) : List (Key × Vl) := [(.inr "locks", .d (.lst (strsD p.locks))), (.inr "slots", .d (.lst (p.cells.map clD))), (.inr "order", .loc o), (.inr "acts", .loc a), (.inr "folk", .loc f), (.inr "pairs", .d (.lst [])), (.inr "values", .d (valsD vs))]
def w8 (p : PlanL) (vs : List SI) (o a f : Addr) : List (Key × Vl) := [(.inr "locks", .d (.lst (strsD p.locks))), (.inr "slots", .d (.lst (p.cells.map clD))), (.inr "order", .loc o), (.inr "acts", .loc a), (.inr "folk", .loc f), (.inr "pairs", .d (.lst [])), (.inr "values", .d (valsD vs)), (.inr "latch", .d (latchD p))]
def w9 (p : PlanL) (vs : List SI) (o a f : Addr) : List (Key × Vl) := [(.inr "locks", .d (.lst (strsD p.locks))), (.inr "slots", .d (.lst (p.cells.map clD))), (.inr "order", .loc o), (.inr "acts", .loc a), (.inr "folk", .loc f), (.inr "pairs", .d (.lst [])), (.inr "values", .d (valsD vs)), (.inr "latch", .d (latchD p)), (.inr "rows", .d (rowsD0 p))]
def w10 (p : PlanL) (vs : List SI) (o a f : Addr) : List (Key × Vl) := [(.inr "locks", .d (.lst (strsD p.locks))), (.inr "slots", .d (.lst (p.cells.map clD))), (.inr "order", .loc o), (.inr "acts", .loc a), (.inr "folk", .loc f), (.inr "pairs", .d (.lst [])), (.inr "values", .d (valsD vs)), (.inr "latch", .d (latchD p)), (.inr "rows", .d (rowsD0 p)), (.inr "asks", .d (.lst []))]
section
variable {p : PlanL} {vs : List SI} {o a f : Addr}
theorem w6_merge (vs : List SI) : merge4 [] [(.inr "locks", .d (.lst (strsD p.locks))), (.inr "slots", .d (.lst (p.cells.map clD))), (.inr "order", .loc o), (.inr "acts", .loc a), (.inr "folk", .loc f), (.inr "pairs", .d (.lst []))] = w6 p vs o a f := by rfl
theorem w6_put : putK4 (w6 p vs o a f) (.inr "values") (.d (valsD vs)) = w7 p vs o a f := by rfl
theorem w6_len : (w6 p vs o a f).length < sizeLine := szL (by show 6 < 1000000; decide)
theorem w7_put : putK4 (w7 p vs o a f) (.inr "latch") (.d (latchD p)) = w8 p vs o a f := by rfl
theorem w7_len : (w7 p vs o a f).length < sizeLine := szL (by show 7 < 1000000; decide)
theorem w8_put : putK4 (w8 p vs o a f) (.inr "rows") (.d (rowsD0 p)) = w9 p vs o a f := by rfl
theorem w8_len : (w8 p vs o a f).length < sizeLine := szL (by show 8 < 1000000; decide)
theorem w9_put : putK4 (w9 p vs o a f) (.inr "asks") (.d (.lst [])) = w10 p vs o a f := by rfl
theorem w9_len : (w9 p vs o a f).length < sizeLine := szL (by show 9 < 1000000; decide)
theorem w10_put : putK4 (w10 p vs o a f) (.inr "ends") (.d (.lst [])) = worldK p vs o a f := by rfl
theorem w10_len : (w10 p vs o a f).length < sizeLine := szL (by show 10 < 1000000; decide)
end
theorem putK4_len {kvs : List (Key × Vl)} {k : Key} {x : Vl} : (putK4 kvs k x).length ≤ kvs.length + 1 := by
  unfold putK4
  split
  · rw [List.length_map]; omega
  · rw [List.length_append]; exact Nat.le_refl _
theorem pairs_map {α : Type} (g : α → Key × D) : ∀ xs : List α, pairs4 ((xs.map fun x => pairD (g x)).map Vl.d) = some (dKV (xs.map g))
  | [] => rfl
  | x :: xs => by
    show (match pair4 (.d (pairD (g x))), pairs4 ((xs.map fun x => pairD (g x)).map Vl.d) with | some p, some l => some (p :: l) | _, _ => none) = _
    rw [pairs_map g xs, show pair4 (.d (pairD (g x))) = some ((g x).1, .d (g x).2) by
      show (keyOf (.d (keyD (g x).1))).map _ = _
      rw [keyOf_keyD]
      rfl]
    rfl
theorem keys_dKV (m : List (Key × D)) : (dKV m).map (·.1) = m.map (·.1) := by rw [dKV, List.map_map]; rfl
theorem merge_dKV {m : List (Key × D)} (nd : (m.map (·.1)).Nodup) : merge4 [] (dKV m) = dKV m := merge4_nd (by rw [List.nil_append, keys_dKV]; exact nd)
def PlanL.vals (p : PlanL) : List SI := p.cells.map fun c => (c.name, c.val)
theorem val_latch {p : PlanL} (ok : PlanOk p) {c : Cl} (h : c ∈ p.cells) {μ : Mu} : ∃ kvs, dicOf μ (.d (latchD p)) = some kvs ∧ val4 kvs (.inr c.name) = some (.d (.str c.lock)) := by
  refine ⟨_, dicOf_dicD _, ?_⟩
  have nd := ok.ndC
  revert h
  generalize p.cells = cs at nd
  intro h
  induction cs with
  | nil => exact nomatch h
  | cons x xs ih =>
    obtain ⟨n1, n2⟩ := List.nodup_cons.mp (show (x.name :: xs.map (·.name)).Nodup from nd)
    unfold val4 at *
    show ((List.find? _ (((.inr x.name : Key), Vl.d (.str x.lock)) :: dKV (xs.map _))).map _) = _
    rw [List.find?_cons]
    by_cases e : x.name = c.name
    · rcases List.mem_cons.mp h with rfl | h
      · rw [decide_eq_true rfl]
        rfl
      · exact absurd (List.mem_map_of_mem (f := (·.name)) h) (by rw [← e]; exact n1)
    · rw [decide_eq_false (show ¬ (Sum.inr x.name : Key) = .inr c.name from fun q => e (Sum.inr.inj q))]
      rcases List.mem_cons.mp h with rfl | h
      · exact absurd rfl e
      · exact ih n2 h
def pPerson : PSp4 := fun xs μ Q _ => xs = [] ∧ ∀ a, μ a = none → Q (.loc a) (updM μ a (.dic (perK 0 0 [] [])))
def pJoins : PSp4 := fun xs μ Q _ => ∃ (w o a f : Addr) (z : Str) (es : List D) (kvs : List (Key × Vl)) (os : List Vl) (as fs : List (Key × Vl)), xs = [.loc w, .d (.str z), .d (.lst es)] ∧ es.length ≤ 1000 ∧
  μ w = some (.dic kvs) ∧ val4 kvs (.inr "order") = some (.loc o) ∧ val4 kvs (.inr "acts") = some (.loc a) ∧ val4 kvs (.inr "folk") = some (.loc f) ∧ w ≠ a ∧ w ≠ f ∧ a ≠ f ∧ μ o = some (.lst os) ∧ os.length < 1000 ∧ μ a = some (.dic as) ∧ as.length < 1000 ∧ μ f = some (.dic fs) ∧ fs.length < 1000 ∧
  ∀ q, μ q = none → Q (.d .non) (updM (updM (updM (updM μ o (.lst (os ++ [.d (.str z)]))) a (.dic (putK4 as (.inr z) (.d (.lst es))))) q (.dic (perK 0 0 [] []))) f (.dic (putK4 fs (.inr z) (.loc q))))
/-- all that was there is as it was -/
def Kept (μ μ' : Mu) : Prop := ∀ b, μ b ≠ none → μ' b = μ b
theorem Kept.refl (μ : Mu) : Kept μ μ := fun _ _ => rfl
theorem Kept.new {μ μ' : Mu} (h : Kept μ μ') {a : Addr} {m : MO} (n : μ a = none) : Kept μ (updM μ' a m) := fun b hb => by
  rw [updM_ne (fun e => hb (by rw [e]; exact n))]
  exact h b hb
theorem Kept.trans {μ μ' μ'' : Mu} (h : Kept μ μ') (k : Kept μ' μ'') : Kept μ μ'' := fun b hb => by
  rw [k b (by rw [h b hb]; exact hb)]
  exact h b hb
theorem Kept.at {μ μ' : Mu} (h : Kept μ μ') {a : Addr} {m : MO} (e : μ a = some m) : μ' a = some m := by rw [h a (by rw [e]; exact (fun z => nomatch z)), e]
theorem Kept.none {μ μ' : Mu} (h : Kept μ μ') {a : Addr} (e : μ' a = none) : μ a = none := by
  cases q : μ a with
  | none => rfl
  | some m => rw [h.at q] at e; exact nomatch e
def pWorld : PSp4 := fun xs μ Q _ => ∃ p : PlanL, xs = [.d (drawnD p)] ∧ PlanOk p ∧ ∀ w o a f μ', Kept μ μ' → μ w = none → μ' w = some (.dic (worldK p (PlanL.vals p) o a f)) → Q (.loc w) μ'
def pClaims : PSp4 := fun xs μ Q _ => ∃ (a : Addr) (z : Str) (t : Nat) (palm : Int) (notes : List SI) (cl : List Str), xs = [.loc a, .d (.str z)] ∧ μ a = some (.dic (perK t palm notes cl)) ∧ cl.length ≤ 1000 ∧ Q (.d .non) (updM μ a (.dic (perK (t + 1) palm notes (if z ∈ cl then cl else cl ++ [z]))))
/-- a person seen as a life -/
def absL (t : Nat) (palm : Int) (notes : List SI) (cl : List Str) : Lf := ⟨t, palm, sortSI notes, cl⟩
def pMoves : PSp4 := fun xs μ Q _ => ∃ (p : PlanL) (vs : List SI) (w o a' f a : Addr) (d : Dd) (t : Nat) (palm : Int) (notes : List SI) (cl : List Str), xs = [.loc w, .loc a, .d (ddD d)] ∧ PlanOk p ∧ ValsOk p vs ∧ μ w = some (.dic (worldK p vs o a' f)) ∧ w ≠ a ∧ μ a = some (.dic (perK t palm notes cl)) ∧ d.ok p.locks p.cellNames ∧ (∀ z, d ≠ .take z) ∧ (keysSI notes).Nodup ∧ notes.length ≤ 1000 ∧ cl.length ≤ 1000 ∧
  match stepL p vs (absL t palm notes cl) d with
  | none => Q (.d (.bl false)) μ
  | some l' => ∀ notes', sortSI notes' = l'.dr → (keysSI notes').Nodup → notes'.length ≤ notes.length + 1 → Q (.d (.bl true)) (updM μ a (.dic (perK l'.place l'.hand notes' l'.cl)))
end L4
namespace L4
open PySem PySem.Spec PyProof.Rows L2 TB LamX L3
def dicP (vs : List SI) : PyData := .dict (vs.map fun b => (.str b.1, .int b.2))
theorem pdXL_si : ∀ vs : List SI, pdXL ((vs.map siK).map (·.2)) = some (vs.map fun b => .int b.2)
  | [] => rfl
  | b :: vs => by
    show consO (pdX (.int b.2)) (pdXL ((vs.map siK).map (·.2))) = _
    rw [pdXL_si vs]
    rfl
theorem pdX_si (vs : List SI) : pdX (dicSI vs) = some (dicP vs) := by
  show (if ((vs.map siK).map (·.1)).length = ((vs.map siK).map (·.2)).length then (pdXL ((vs.map siK).map (·.2))).map fun xs => PyData.dict ((((vs.map siK).map (·.1)).map TB.keyD).zip xs) else none) = _
  rw [if_pos (by simp only [List.length_map]), pdXL_si]
  show some (PyData.dict _) = some (PyData.dict _)
  congr 2
  induction vs with
  | nil => rfl
  | cons b vs ih => exact congrArg (_ :: ·) ih
theorem shownKv_si {B : Nat} : ∀ {vs : List SI}, (∀ b ∈ vs, (PyData.str b.1).shown.length + (PyData.int b.2).shown.length + 2 ≤ B) → ((PyData.shownKv (vs.map fun b => (.str b.1, .int b.2))).map (·.length)).sum ≤ vs.length * B ∧ (PyData.shownKv (vs.map fun b => (.str b.1, .int b.2))).length = vs.length
  | [], _ => ⟨by simp [PyData.shownKv], by simp [PyData.shownKv]⟩
  | b :: vs, h => by
    obtain ⟨h1, h2⟩ := shownKv_si (vs := vs) fun x hx => h x (List.mem_cons_of_mem _ hx)
    have h0 := h b List.mem_cons_self
    simp only [List.map_cons, PyData.shownKv, List.sum_cons, List.length_cons]
    refine ⟨?_, by omega⟩
    rw [strLen_append, strLen_append]
    have e2 : (": " : Str).length = 2 := by decide +kernel
    rw [e2]
    have e3 : (vs.length + 1) * B = vs.length * B + B := Nat.succ_mul _ _
    omega
theorem Shw.si {vs : List SI} {k m : Nat} (hm : vs.length ≤ m) (nm : ∀ b ∈ vs, Nm b.1) (hk : 1 ≤ k) (k5 : k ≤ 500) (hb : ∀ b ∈ vs, b.2.natAbs < 10 ^ k) : Shw 1 (m * (85 + k) + 2 * m + 3) (dicSI vs) := by
  refine ⟨dicP vs, pdX_si vs, ?_, ?_, ?_⟩
  · simp only [dicP, PyData.showable]
    induction vs with
    | nil => simp [PyData.showableKv]
    | cons b vs ih =>
      obtain ⟨x, e, s, _⟩ := Shw.int hk k5 (hb b List.mem_cons_self)
      obtain rfl : PyData.int b.2 = x := Option.some.inj e
      rw [List.map_cons]
      show PyData.showableKv (_ :: _) = true
      unfold PyData.showableKv
      rw [s, show (PyData.str b.1).showable = true by simp only [PyData.showable]]
      exact ih (by have := hm; rw [List.length_cons] at this; omega) (fun x hx => nm x (List.mem_cons_of_mem _ hx)) fun x hx => hb x (List.mem_cons_of_mem _ hx)
  · simp only [dicP, PyData.depth]
    have : PyData.depthKv (vs.map fun b => (PyData.str b.1, PyData.int b.2)) ≤ 0 := by
      clear hm nm hb
      induction vs with
      | nil => simp [PyData.depthKv]
      | cons b vs ih =>
        simp only [List.map_cons, PyData.depthKv, PyData.depth]
        omega
    omega
  · have h1 := shownKv_si (B := 85 + k) (vs := vs) fun b h => by
      obtain ⟨x, e, _, _, l1⟩ := Shw.nm (nm b h)
      obtain rfl : PyData.str b.1 = x := Option.some.inj e
      obtain ⟨x, e, _, _, l2⟩ := Shw.int hk k5 (hb b h)
      obtain rfl : PyData.int b.2 = x := Option.some.inj e
      omega
    have h2 := dictText_len_le (PyData.shownKv (vs.map fun b => (PyData.str b.1, PyData.int b.2)))
    simp only [dicP, PyData.shown]
    have h3 : vs.length * (85 + k) ≤ m * (85 + k) := Nat.mul_le_mul_right _ hm
    omega
def uN : Nat := 10 ^ 18
def ValsB (vs : List SI) : Prop := ∀ b ∈ vs, b.2.natAbs ≤ uN
theorem far_abs {n : Int} (h : -far ≤ n ∧ n ≤ far) : n.natAbs ≤ uN := by
  have : far = 10 ^ 18 := rfl
  have : uN = 10 ^ 18 := rfl
  omega
theorem vals_nm {p : PlanL} (ok : PlanOk p) {vs : List SI} (h : ValsOk p vs) : ∀ b ∈ vs, Nm b.1 := fun b hb => ok.nmc b.1 (by rw [← h]; exact List.mem_map_of_mem hb)
theorem vals_len {p : PlanL} (ok : PlanOk p) {vs : List SI} (h : ValsOk p vs) : vs.length ≤ 8 := by
  have e : (keysSI vs).length = p.cellNames.length := congrArg _ h
  rw [keysSI, List.length_map, PlanL.cellNames, List.length_map] at e
  have := ok.c8
  omega
theorem shw_vals {p : PlanL} (ok : PlanOk p) {vs : List SI} (h : ValsOk p vs) (hb : ValsB vs) : Shw 1 1000 (valsD vs) := (Shw.si (k := 19) (vals_len ok h) (vals_nm ok h) (by decide) (by decide) fun b m => by have := hb b m; have : uN = 10 ^ 18 := rfl; omega).mono (by decide) (by decide)
/-- a life's numbers -/
def LfB (n : Nat) (l : Lf) : Prop := uN ≤ n ∧ l.hand.natAbs ≤ n ∧ ∀ b ∈ l.dr, b.2.natAbs ≤ n
theorem valSI_in {m : List SI} {z : Str} {v : Int} (h : valSI m z = some v) : ∃ b ∈ m, b.2 = v := by
  unfold valSI at h
  obtain ⟨b, h1, h2⟩ := Option.map_eq_some_iff.mp h
  exact ⟨b, List.mem_of_find?_eq_some h1, h2⟩
theorem found_b {n : Nat} {l : Lf} {vs : List SI} {c : Str} (h : LfB n l) (hv : ValsB vs) : (foundL l vs c).natAbs ≤ n := by
  unfold foundL
  cases e : valSI l.dr c with
  | some v =>
    obtain ⟨b, hb, rfl⟩ := valSI_in e
    exact h.2.2 b hb
  | none =>
    cases e2 : valSI vs c with
    | some v =>
      obtain ⟨b, hb, rfl⟩ := valSI_in e2
      show b.2.natAbs ≤ _
      exact Nat.le_trans (hv b hb) h.1
    | none => exact Nat.zero_le _
theorem putSI_in {m : List SI} {z : Str} {v : Int} {b : SI} (h : b ∈ putSI m z v) : b ∈ m ∨ b.2 = v := by
  unfold putSI at h
  split at h
  · obtain ⟨x, hx, rfl⟩ := List.mem_map.mp h
    split
    · exact Or.inr rfl
    · exact Or.inl hx
  · rcases List.mem_append.mp h with h | h
    · exact Or.inl h
    · rw [List.mem_singleton.mp h]; exact Or.inr rfl
theorem LfB.step {p : PlanL} {vs : List SI} {n : Nat} {l l' : Lf} {d : Dd} (h : LfB n l) (hv : ValsB vs) (hd : d.ok p.locks p.cellNames) (e : stepL p vs l d = some l') : LfB (n + uN) l' := by
  obtain ⟨h0, h1, h2⟩ := h
  have h0' : uN ≤ n + uN := by omega
  have h2' : ∀ b ∈ l.dr, b.2.natAbs ≤ n + uN := fun b hb => by have := h2 b hb; omega
  cases d with
  | set m => obtain rfl := Option.some.inj e; have := far_abs hd; exact ⟨h0', by show m.natAbs ≤ _; omega, h2'⟩
  | add m => obtain rfl := Option.some.inj e; have := far_abs hd; exact ⟨h0', by show (l.hand + m).natAbs ≤ _; omega, h2'⟩
  | skip m k => obtain rfl := Option.some.inj e; exact ⟨h0', by show l.hand.natAbs ≤ _; omega, h2'⟩
  | quit => exact nomatch e
  | take z => obtain rfl := Option.some.inj e; exact ⟨h0', by show l.hand.natAbs ≤ _; omega, h2'⟩
  | read c =>
    simp only [stepL] at e
    split at e
    · obtain rfl := Option.some.inj e
      have := found_b (c := c) ⟨h0, h1, h2⟩ hv
      exact ⟨h0', by show (foundL l vs c).natAbs ≤ _; omega, h2'⟩
    · exact nomatch e
  | write c =>
    simp only [stepL] at e
    split at e
    · obtain rfl := Option.some.inj e
      refine ⟨h0', by show l.hand.natAbs ≤ _; omega, fun b hb => ?_⟩
      rcases putSI_in ((sortSI_pm _).mem_iff.mp hb) with hb | hb
      · exact h2' b hb
      · rw [hb]; omega
    · exact nomatch e
/-- an outcome's bounds -/
def OutB (p : PlanL) (n : Nat) (o : Out) : Prop := o.hand.natAbs ≤ n ∧ (∀ b ∈ o.dr, b.2.natAbs ≤ n) ∧ (keysSI o.dr).Nodup ∧ ∀ k ∈ keysSI o.dr, k ∈ p.cellNames
theorem OutB.mono {p : PlanL} {n m : Nat} {o : Out} (h : OutB p n o) (hm : n ≤ m) : OutB p m o := by
  obtain ⟨a, b, c⟩ := h
  exact ⟨Nat.le_trans a hm, fun x hx => Nat.le_trans (b x hx) hm, c⟩
def wkOf : Vl → List Vl → Wk
  | .d _, xs => ⟨xs, fun _ => True⟩
  | x, xs => ⟨xs, fun μ' => lstOf μ' x = some xs⟩
theorem wkOf_vs (x : Vl) (xs : List Vl) : (wkOf x xs).vs = xs := by cases x <;> rfl
theorem wkOf_ok {x : Vl} {xs : List Vl} {μ μ' : Mu} (e : lstOf μ x = some xs) (h : (wkOf x xs).ok μ') : lstOf μ' x = some xs := by
  cases x with
  | d d => exact (by cases d <;> exact e : lstOf μ' (.d d) = some xs)
  | loc a => exact h
  | tup ys => exact h
def iqListA (pe : QE4) : QI4 := fun ρ μ Q => pe ρ μ fun x μ1 => ∃ xs, lstOf μ1 x = some xs ∧ Q (wkOf x xs) μ1
theorem i_listA {X : Sx} {K : PySem.W.Frag} {te : TE} {pe : QE4} (h : E4 X te pe) (hK : X.K = K := by rfl) : I4 X (iList K te) (iqListA pe) := by
  subst hK
  intro c hX σ F H μ ρ Rr Q4 R hq hp
  subst hX
  refine h c rfl σ F H μ ρ _ _ R ?_ hp
  rintro x v F1 H1 μ1 R1 s1 rv ⟨xs, e, q⟩
  obtain ⟨a, ws, rfl, ea, r⟩ := lstOf_at R1 e rv
  refine ⟨a, rfl, ⟨ws, sqL_of ea⟩, hq _ _ F1 H1 μ1 R1 s1 ?_ q⟩
  intro i c1 σ1 F2 H2 μ2 ρ2 hX2 s2 R2 hk
  have e2 := wkOf_ok e hk
  have hK2 : c1.K = c.K := congrArg Sx.K hX2
  obtain ⟨a2, ws2, ev, ea2, r2⟩ := lstOf_at R2 e2 (by rw [hK2]; exact rv.mono s2)
  obtain rfl : a = a2 := by injection ev
  rw [wkOf_vs]
  have wl := wk_list (K := c.K) (a := a) (xs := ws2)
  have ll : ws2.length = xs.length := RVs.len r2
  refine ⟨fun x ex => ?_, fun ex => wl.stop i H2 (sqL_of ea2) (by rw [ll]; exact List.getElem?_eq_none_iff.mp ex)⟩
  have hi : i < ws2.length := by rw [ll]; exact (List.getElem?_eq_some_iff.mp ex).1
  refine ⟨wl.go i H2 (sqL_of ea2) hi, fun u H' hy => ?_⟩
  obtain ⟨rfl, eu⟩ := wl.yld i H2 u H' (sqL_of ea2) hi hy
  refine ⟨F2, R2, L3.Same.refl F2, ?_⟩
  obtain ⟨u2, e3, r3⟩ := RVs.get' r2 ex
  rw [e3] at eu
  obtain rfl := Option.some.inj eu
  rw [hK2] at r3
  exact r3
theorem v_listA {ρ : PS} {μ : Mu} {pe : QE4} {Q : Wk → Mu → Prop} (h : pe ρ μ fun x μ1 => ∃ xs, lstOf μ1 x = some xs ∧ Q (wkOf x xs) μ1) : iqListA pe ρ μ Q := h
def pWorthsB : PSp4 := fun xs μ Q _ => ∃ (p : PlanL) (vs : List SI) (w o a f : Addr), xs = [.d potD, .loc w] ∧ PlanOk p ∧ μ w = some (.dic (worldK p vs o a f)) ∧ ∀ ws, ValsOk p ws → ValsB ws → Q (.d (valsD ws)) μ
theorem keys_take (p : PlanL) {acc : List SI} {i : Nat} {c : Cl} (h : keysSI acc = p.cellNames.take i) (e : p.cells[i]? = some c) {v : Int} : keysSI (acc ++ [(c.name, v)]) = p.cellNames.take (i + 1) := by
  rw [keysSI, List.map_append, ← keysSI, h, List.take_succ, PlanL.cellNames, List.getElem?_map, e]
  rfl
end L4
namespace L4
open PySem PySem.Spec PyProof.Rows L2 TB LamX L3
def Cps (z : Str) : Prop := ∀ c ∈ z.cps.toList, c < 1114112
theorem char_lt (ch : Char) : ch.toNat < 1114112 := by
  have := ch.valid
  have e : ch.toNat = ch.val.toNat := rfl
  rcases this with h | ⟨_, h⟩
  · have : ch.val.toNat < 55296 := h
    omega
  · exact h
theorem Cps.of (s : String) : Cps (Str.ofString s) := by
  intro c hc
  rw [signs_ofString] at hc
  obtain ⟨ch, _, rfl⟩ := List.mem_map.mp hc
  exact char_lt ch
theorem Cps.app {a b : Str} (h : Cps a) (k : Cps b) : Cps (a ++ b) := fun c hc => (mem_cps_append.mp hc).elim (h c) (k c)
theorem Cps.join {sep : Str} (hs : Cps sep) {ts : List Str} (h : ∀ t ∈ ts, Cps t) : Cps (Str.join sep ts) := fun c hc => by
  rcases (mem_join sep c ts).mp hc with ⟨t, ht, hc⟩ | ⟨_, hc⟩
  · exact h t ht c hc
  · exact hs c hc
theorem Cps.ok {z : Str} (h : Cps z) : PyData.strOk z = true := by
  unfold PyData.strOk
  rw [← Array.all_toList, List.all_eq_true]
  exact fun c hc => decide_eq_true (h c hc)
theorem Cps.back {z : Str} (h : PyData.strOk z = true) : Cps z := by
  unfold PyData.strOk at h
  rw [← Array.all_toList, List.all_eq_true] at h
  exact fun c hc => of_decide_eq_true (h c hc)
end L4
namespace L4
open PySem PySem.Spec PyProof.Rows L2 TB LamX L3
def nilKB (a : PySem.W.Frag → Addr) (K : PySem.W.Frag) : Bool := match K.lookup (a K) with
  | some ⟨.type c, none, .seq its _, _⟩ => decide (c = "tuple") && decide (its.toList = [])
  | _ => false
theorem nilKB_ok {a : PySem.W.Frag → Addr} {K : PySem.W.Frag} (h : nilKB a K = true) (F : Hp) : KnT K F (a K) [] := by
  unfold nilKB at h
  cases q : K.lookup (a K) with
  | none => rw [q] at h; exact nomatch h
  | some o =>
    obtain ⟨oc, od, dt, osl⟩ := o
    rw [q] at h
    cases oc with
    | type c =>
      cases od with
      | some _ => exact nomatch h
      | none =>
        cases dt with
        | seq its n =>
          have h2 : (decide (c = "tuple") && decide (its.toList = [])) = true := h
          rw [Bool.and_eq_true, decide_eq_true_iff, decide_eq_true_iff] at h2
          refine Or.inr ⟨_, q, congrArg Value.type h2.1, rfl, ⟨n, ?_⟩, rfl⟩
          obtain rfl : its = #[] := Array.toList_inj.mp h2.2
          rfl
        | _ => exact nomatch h
    | _ => exact nomatch (show (_ : Bool) = true from h)
/-- at d, key k: the def at f -/
def tabFnB (K : PySem.W.Frag) (d : Addr) (k : Str) (f : Addr) : Bool := match PySem.W.nsIn K d k with
  | some (some (.ref a)) => decide (a = f)
  | _ => false
theorem kdAt_fn {K : PySem.W.Frag} {d f : Addr} {k : Str} (h : tabFnB K d k f = true) : KdAt K d k (clsD f) := by
  unfold tabFnB at h
  cases q : PySem.W.nsIn K d k with
  | none => rw [q] at h; exact nomatch h
  | some r =>
    cases r with
    | none => rw [q] at h; exact nomatch h
    | some v =>
      rw [q] at h
      cases v with
      | ref a =>
        obtain rfl : a = f := of_decide_eq_true h
        exact ⟨.ref a, .ref a, q, rfl, fun F => rfl⟩
      | _ => exact nomatch (show (_ : Bool) = true from h)
def deedsK : List Str := ["set", "add", "take", "read", "write", "skip"]
def deedsB (K : PySem.W.Frag) (d f1 f2 f3 f4 f5 f6 : Addr) : Bool := decide ([f1, f2, f3, f4, f5, f6].Nodup) && (tabFnB K d "set" f1 && (tabFnB K d "add" f2 && (tabFnB K d "take" f3 && (tabFnB K d "read" f4 && (tabFnB K d "write" f5 && tabFnB K d "skip" f6)))))
/-- what each def of DEEDS promises -/
def deedS (K : PySem.W.Frag) (C f1 f2 f3 f4 f5 f6 : Addr) (f : Addr) : Option PSp :=
  if f = f1 then some (pDo K C fun d => ∃ n, d = .set n) else if f = f2 then some (pDo K C fun d => ∃ n, d = .add n) else if f = f3 then some (pDo K C fun d => ∃ n, d = .take n) else
  if f = f4 then some (pDo K C fun d => ∃ n, d = .read n) else if f = f5 then some (pDo K C fun d => ∃ n, d = .write n) else if f = f6 then some (pDo K C fun d => ∃ n m, d = .skip n m) else none
section
variable {K : PySem.W.Frag} {C d f1 f2 f3 f4 f5 f6 : Addr}
theorem deedsB_ok (h : deedsB K d f1 f2 f3 f4 f5 f6 = true) : DeedsAt K C d (deedS K C f1 f2 f3 f4 f5 f6) := by
  obtain ⟨h0, h⟩ := He.ba h
  obtain ⟨h1, h⟩ := He.ba h
  obtain ⟨h2, h⟩ := He.ba h
  obtain ⟨h3, h⟩ := He.ba h
  obtain ⟨h4, h⟩ := He.ba h
  obtain ⟨h5, h6⟩ := He.ba h
  have nd := of_decide_eq_true h0
  simp only [List.nodup_cons, List.mem_cons, List.not_mem_nil, or_false, not_or, not_false_eq_true, List.nodup_nil, and_true] at nd
  obtain ⟨⟨n12, n13, n14, n15, n16⟩, ⟨n23, n24, n25, n26⟩, ⟨n34, n35, n36⟩, ⟨n45, n46⟩, n56⟩ := nd
  refine ⟨fun e he => ?_⟩
  cases e with
  | quit => exact absurd rfl he
  | set n => exact ⟨f1, _, kdAt_fn h1, if_pos rfl, fun ds Q => pDo_sub fun e he => ⟨n, he⟩⟩
  | add n => exact ⟨f2, pDo K C fun e => ∃ n, e = .add n, kdAt_fn h2, by unfold deedS; rw [if_neg (Ne.symm n12), if_pos rfl], fun ds Q => pDo_sub fun e he => ⟨n, he⟩⟩
  | take n => exact ⟨f3, pDo K C fun e => ∃ n, e = .take n, kdAt_fn h3, by unfold deedS; rw [if_neg (Ne.symm n13), if_neg (Ne.symm n23), if_pos rfl], fun ds Q => pDo_sub fun e he => ⟨n, he⟩⟩
  | read n => exact ⟨f4, pDo K C fun e => ∃ n, e = .read n, kdAt_fn h4, by unfold deedS; rw [if_neg (Ne.symm n14), if_neg (Ne.symm n24), if_neg (Ne.symm n34), if_pos rfl], fun ds Q => pDo_sub fun e he => ⟨n, he⟩⟩
  | write n => exact ⟨f5, pDo K C fun e => ∃ n, e = .write n, kdAt_fn h5, by unfold deedS; rw [if_neg (Ne.symm n15), if_neg (Ne.symm n25), if_neg (Ne.symm n35), if_neg (Ne.symm n45), if_pos rfl], fun ds Q => pDo_sub fun e he => ⟨n, he⟩⟩
  | skip n m => exact ⟨f6, pDo K C fun e => ∃ n m, e = .skip n m, kdAt_fn h6, by unfold deedS; rw [if_neg (Ne.symm n16), if_neg (Ne.symm n26), if_neg (Ne.symm n36), if_neg (Ne.symm n46), if_neg (Ne.symm n56), if_pos rfl], fun ds Q => pDo_sub fun e he => ⟨n, m, he⟩⟩
theorem deeds_held {P : Program} {w : World} {mg : Str → Option Value} {base : Heap} {k : Nat} {tb : List (Addr × Str)}
    (a1 : Held P w K mg base k f1 (lsp ⟨K, tb⟩ none (pDo K C fun d => ∃ n, d = .set n))) (a2 : Held P w K mg base k f2 (lsp ⟨K, tb⟩ none (pDo K C fun d => ∃ n, d = .add n))) (a3 : Held P w K mg base k f3 (lsp ⟨K, tb⟩ none (pDo K C fun d => ∃ n, d = .take n)))
    (a4 : Held P w K mg base k f4 (lsp ⟨K, tb⟩ none (pDo K C fun d => ∃ n, d = .read n))) (a5 : Held P w K mg base k f5 (lsp ⟨K, tb⟩ none (pDo K C fun d => ∃ n, d = .write n))) (a6 : Held P w K mg base k f6 (lsp ⟨K, tb⟩ none (pDo K C fun d => ∃ n m, d = .skip n m))) :
    ∀ f sp, spA ⟨K, tb⟩ (deedS K C f1 f2 f3 f4 f5 f6) f = some sp → Held P w K mg base k f sp := by
  intro f sp h
  unfold spA deedS at h
  split at h
  · rename_i e; rw [e]; obtain rfl := Option.some.inj h; exact a1
  split at h
  · rename_i e; rw [e]; obtain rfl := Option.some.inj h; exact a2
  split at h
  · rename_i e; rw [e]; obtain rfl := Option.some.inj h; exact a3
  split at h
  · rename_i e; rw [e]; obtain rfl := Option.some.inj h; exact a4
  split at h
  · rename_i e; rw [e]; obtain rfl := Option.some.inj h; exact a5
  split at h
  · rename_i e; rw [e]; obtain rfl := Option.some.inj h; exact a6
  · exact nomatch h
end
theorem _root_.L3.gS_row21 : InRow 2 1 (fun vs zs => gS [(true, 0)] vs [] zs) := ⟨fun vs zs h1 h2 => by
  match vs, zs, h1, h2 with
  | [_, _], [_], _, _ => rfl⟩
end L4
namespace L4
open PySem PySem.Spec PyProof.Rows L2 TB LamX L3
end L4
namespace L3
open PySem PySem.Spec PyProof.Rows L2 TB LamX
end L3
namespace L3
open PySem PySem.Spec PyProof.Rows L2
end L3
namespace L4
open PySem PySem.Spec PyProof.Rows L2 TB LamX L3
section
variable {X : Sx} {W : WX}
def sPar4 (i j : Nat) (pa : QA4) : QS4 := fun P ρ μ => pa ρ μ fun xs μ1 => ∃ x y, xs = [x, y] ∧ P.nx ((ρ.set i (some x)).set j (some y)) μ1
theorem s_par {i j : Nat} {ta : TA} {pa : QA4} (h1 : A4 X ta pa) : S4 X W (tPar i j ta) (sPar4 i j pa) := fun c e => by
  subst e
  intro σ F H μ ρ D P R a ax h
  refine h1 c rfl σ F H μ ρ _ _ R ?_ h
  rintro xs vs F' H' μ' R' s rv ⟨x, y, rfl, q⟩
  obtain ⟨v, t, rfl, r1, w, t2, rfl, r2, e3⟩ := rv
  obtain rfl : t2 = [] := e3
  exact ⟨v, w, rfl, a.nx _ F' H' μ' _ ((R'.setV (i := i) r1).setV (i := j) r2) s q⟩
theorem v_par {i j : Nat} {pa : QA4} {P : P4} {ρ : PS} {μ : Mu} (h : pa ρ μ fun xs μ1 => ∃ x y, xs = [x, y] ∧ P.nx ((ρ.set i (some x)).set j (some y)) μ1) : sPar4 i j pa P ρ μ := h
end
end L4
namespace L4
open PySem PySem.Spec PyProof.Rows L2 TB LamX L3
end L4
namespace L4
open PySem PySem.Spec PyProof.Rows L2 TB LamX L3
end L4
namespace L4
open PySem PySem.Spec PyProof.Rows L2 TB LamX L3
def rDictC (K : PySem.W.Frag) : List V → Hp → VK → Prop := fun xs H Q => ∃ (a : Addr) (kvs : List (Key × V)), xs = [.ref a] ∧ Rd H a (.dK kvs) ∧ ∀ p, H p = none → Q (.ref p) (upd H p (.dK kvs))
theorem call_dictC {Y : Cx} (K : PySem.W.Frag) (hc : Y.calm = true) (hK : Y.K = K := by rfl) : CallR Y (.type "dict") (rDictC K) := call_dictD
section
variable {X : Sx} {K : PySem.W.Frag}
def qDictC (pe : QE4) : QE4 := fun ρ μ Q => pe ρ μ fun x μ1 => ∃ kvs, dicOf μ1 x = some kvs ∧ ∀ p, μ1 p = none → Q (.loc p) (updM μ1 p (.dic kvs))
theorem e_dictC {te : TE} {pe : QE4} (h : E4 X te pe) : E4 X (tMu (tCB (rDictC K) (tCons te tNil))) (qDictC pe) := by
  intro c hX σ F H μ ρ Q Q4 R hq hp
  refine h c hX σ F H μ ρ _ _ R ?_ hp
  rintro x v F1 H1 μ1 R1 s1 rv ⟨kvs, e, q⟩
  obtain ⟨a, ws, rfl, ea, r⟩ := dicOf_at R1 e rv
  refine ⟨a, ws, rfl, .inl ea, fun p np => ?_⟩
  have R2 := R1.newM (m := .dic kvs) (o := .dK ws) np trivial ⟨_, upd_same, r⟩
  exact hq (.loc p) (.ref p) F1 _ _ R2 s1 rfl (q p (R1.mnone np))
theorem v_dictC {ρ : PS} {μ : Mu} {pe : QE4} {Q : Vl → Mu → Prop} (h : pe ρ μ fun x μ1 => ∃ kvs, dicOf μ1 x = some kvs ∧ ∀ p, μ1 p = none → Q (.loc p) (updM μ1 p (.dic kvs))) : qDictC pe ρ μ Q := h
end
def tRg (wi : TI) : TI := wi
theorem toRg {Y : Cx} {tg e : Expr} {wi : TI} (h : PI Y tg e wi) : PI Y tg e (tRg wi) := h
def iqRngA (pa : QA4) : QI4 := fun ρ μ Q => pa ρ μ fun xs μ1 => ∃ j : Int, xs = [.d (.int j)] ∧ -(2 ^ 62) ≤ j ∧ j < 2 ^ 62 ∧ Q ⟨((List.range j.toNat).map fun (i : Nat) => D.int (0 + i)).map Vl.d, fun _ => True⟩ μ1
theorem i_rngA {X : Sx} {ta : TA} {pa : QA4} (h : A4 X ta pa) : I4 X (tRg (iRng1 ta)) (iqRngA pa) := by
  intro c hX σ F H μ ρ Rr Q4 R hq hp
  refine h c hX σ F H μ ρ _ _ R ?_ hp
  rintro xs vs F' H' μ' R' s rv ⟨j, rfl, b1, b2, q⟩
  obtain ⟨v, t, rfl, r1, r2⟩ := rv
  obtain rfl : t = [] := r2
  obtain rfl : v = .int j := r1
  refine ⟨j, rfl, b1, b2, hq _ _ F' H' μ' R' s ?_ q⟩
  have wd := wd_range (X := X) (F := F') (lo := 0) (n := j.toNat)
  intro i c1 σ1 F1 H1 μ1 ρ1 hX1 s1 R1 _
  obtain ⟨w1, w2⟩ := wd i (c1.c3 F1 H1) σ1 (view ρ1) F1 H1 hX1 s1 R1.rel
  refine ⟨fun x e => ?_, fun e => w2 ?_⟩
  · rw [List.getElem?_map] at e
    obtain ⟨d, e1, rfl⟩ := Option.map_eq_some_iff.mp e
    obtain ⟨go, yl⟩ := w1 d e1
    refine ⟨go, fun v H2 hy => ?_⟩
    obtain ⟨_, F2, R2, s2, rp⟩ := yl v H2 hy
    exact ⟨F2, R1.back R2, s2, rp⟩
  · rw [List.getElem?_map] at e
    exact Option.map_eq_none_iff.mp e
theorem v_rngA {ρ : PS} {μ : Mu} {pa : QA4} {Q : Wk → Mu → Prop} (h : pa ρ μ fun xs μ1 => ∃ j : Int, xs = [.d (.int j)] ∧ -(2 ^ 62) ≤ j ∧ j < 2 ^ 62 ∧ Q ⟨((List.range j.toNat).map fun (i : Nat) => D.int (0 + i)).map Vl.d, fun _ => True⟩ μ1) : iqRngA pa ρ μ Q := h
theorem R4.restate {c : C4} {F H : Hp} {μ : Mu} {σ : L2.St} {ρ : PS} (R : R4 c F H μ σ ρ) {p : Addr} {m m' : MO} (h : μ p = some m) (hm : MOk c.K F H p m') : R4 c F H (updM μ p m') σ ρ := R.own (R.mu p m h).1 hm (R.mf p m h)
theorem R4.freezeG {c : C4} {F H : Hp} {μ : Mu} {σ : L2.St} {ρ : PS} (R : R4 c F H μ σ ρ) {p : Addr} {m : MO} {o : HO} (h : μ p = some m) (e : H p = some o) : R4 c (upd F p o) H (delM μ p) σ ρ ∧ Same F (upd F p o) := by
  obtain ⟨hF, _⟩ := R.mu p _ h
  have sF : Same F (upd F p o) := fun _ _ e => old_upd hF e
  refine ⟨⟨R.len, fun b u e2 => ?_, fun i x e2 => ?_, fun a m e2 => ?_, fun a m e2 => ?_, R.nt, R.tab, fun x hx => ?_, tr R.fr sF, R.kp, R.dom, fun b u e2 => ?_⟩, sF⟩
  · by_cases q : b = p
    · subst q
      rw [upd_same] at e2
      rw [e]; exact e2
    · rw [upd_ne q] at e2
      exact R.sub _ _ e2
  · obtain ⟨v, e1, r⟩ := R.slot i x e2
    exact ⟨v, e1, r.mono sF⟩
  · by_cases q : a = p
    · rw [q, delM_same] at e2; exact nomatch e2
    · rw [delM_ne q] at e2
      obtain ⟨f, mo⟩ := R.mu a m e2
      exact ⟨by rw [upd_ne q]; exact f, mo.keep sF fun _ _ z _ => z⟩
  · by_cases q : a = p
    · rw [q, delM_same] at e2; exact nomatch e2
    · rw [delM_ne q] at e2
      exact R.mf a m e2
  · rw [upd_ne (fun z => R.mtab h x hx z.symm)]
    exact R.tabF x hx
  · by_cases q : b = p
    · subst q
      rcases R.mf b _ h with y | y
      · exact Or.inr (Or.inr (Or.inl y))
      · exact Or.inr (Or.inl y)
    · rw [upd_ne q] at e2
      exact R.nw b u e2
theorem R4.freezeD {c : C4} {F H : Hp} {μ : Mu} {σ : L2.St} {ρ : PS} (R : R4 c F H μ σ ρ) {p : Addr} {m : List (Key × D)} (h : μ p = some (.dic (dKV m))) : ∃ F', R4 c F' H (delM μ p) σ ρ ∧ Same F F' ∧ Rp c.K F' (L4.dicD m) (.ref p) := by
  obtain ⟨hF, ws, e, rk⟩ := R.mu p _ h
  obtain ⟨R2, s2⟩ := R.freezeG h e
  obtain ⟨vs, rfl, rp⟩ := rk_dicD rk
  exact ⟨_, R2, s2, p, vs, rfl, upd_same, rp.mono s2⟩
def subV (n : Addr) (d : D) : Vl → Vl
  | .loc b => if b = n then .d d else .loc b
  | x => x
def subK (n : Addr) (d : D) (kvs : List (Key × Vl)) : List (Key × Vl) := kvs.map fun kx => (kx.1, subV n d kx.2)
theorem rv_sub {K : PySem.W.Frag} {F : Hp} {n : Addr} {d : D} {x : Vl} {v : V} (h : RV K F x v) (hd : Rp K F d (.ref n)) : RV K F (subV n d x) v := by
  cases x with
  | d d => exact h
  | tup xs => exact h
  | loc b =>
    obtain rfl : v = .ref b := h
    show RV K F (if b = n then .d d else .loc b) _
    split
    · rename_i e
      rw [e]
      exact hd
    · exact rfl
theorem rk_sub {K : PySem.W.Frag} {F : Hp} {n : Addr} {d : D} (hd : Rp K F d (.ref n)) : ∀ {kvs : List (Key × Vl)} {ws : List (Key × V)}, RK K F kvs ws → RK K F (subK n d kvs) ws
  | [], ws, h => h
  | (k, x) :: kvs, ws, h => by
    obtain ⟨v, r, rfl, q, t⟩ := h
    exact ⟨v, r, rfl, rv_sub q hd, rk_sub hd t⟩
/-- a dict within a dict is left as it stands -/
def Frz (μ μ2 : Mu) : Prop := μ2 = μ ∨ ∃ n a kvs m, μ n = some (.dic (dKV m)) ∧ n ≠ a ∧ μ a = some (.dic kvs) ∧ μ2 = updM (delM μ n) a (.dic (subK n (dicD m) kvs))
theorem R4.frz {c : C4} {F H : Hp} {μ μ2 : Mu} {σ : L2.St} {ρ : PS} (R : R4 c F H μ σ ρ) (h : Frz μ μ2) : ∃ F', R4 c F' H μ2 σ ρ ∧ Same F F' := by
  rcases h with rfl | ⟨n, a, kvs, m, hn, na, ha, rfl⟩
  · exact ⟨F, R, L3.Same.refl F⟩
  · obtain ⟨F', R2, s2, rp⟩ := R.freezeD hn
    have ha2 : delM μ n a = some (.dic kvs) := by rw [delM_ne (fun e => na e.symm)]; exact ha
    obtain ⟨_, ws, e, rk⟩ := R2.mu a _ ha2
    exact ⟨F', R2.restate ha2 ⟨ws, e, rk_sub rp rk⟩, s2⟩
theorem run4F {X : Sx} {t : TS} {N : List Str} {P : PSp4} {vs : List V} {H : Hp} {Q : VK} {E : XK} (hp : ∃ p, S4 X (fun cls d _ H => E cls d H) t p ∧ ∀ xs μ Q4 X4, P xs μ Q4 X4 → p (ends4 (fun x μ' => ∃ μ2, Frz μ' μ2 ∧ Q4 x μ2) X4) (start4 N xs) μ) (h : lsp4 X P vs H Q E) : t { nx := fun _ H' => Q .non H', rt := Q } (L2.start N vs) H := by
  obtain ⟨p, hl, hp⟩ := hp
  obtain ⟨F, μ, xs, Q4, X4, R, rv, hP, hQ, hX⟩ := h
  refine hl ⟨X, F, H, μ⟩ rfl (L2.start N vs) F H μ (start4 N xs) _ (ends4 _ X4) (start4_rel R rv) ⟨?_, ?_, fun _ _ _ _ _ _ _ z => z.elim, fun _ _ _ _ _ _ _ z => z.elim⟩ ?_ (hp xs μ Q4 X4 hP)
  · rintro σ' F' H' μ' ρ' R' _ ⟨μ2, f, q⟩
    obtain ⟨F2, R2, s2⟩ := R'.bare.frz f
    exact hQ (.d .non) .non F2 H' μ2 R2 rfl q
  · rintro σ' F' H' μ' ρ' v x R' _ r ⟨μ2, f, q⟩
    obtain ⟨F2, R2, s2⟩ := R'.bare.frz f
    exact hQ x v F2 H' μ2 R2 (r.mono s2) q
  · intro σ' F' H' μ' ρ' cls d xd R' _ xo q
    exact hX xd cls d F' H' μ' R'.bare xo q
theorem updM_swap {μ : Mu} {a b : Addr} {x y z : MO} (h : b ≠ a) : updM (updM (updM μ a x) b y) a z = updM (updM μ b y) a z := by
  funext q
  by_cases e : q = a
  · subst e
    rw [updM_same, updM_same]
  · rw [updM_ne e, updM_ne e]
    by_cases e2 : q = b
    · subst e2
      rw [updM_same, updM_same]
    · rw [updM_ne e2, updM_ne e2, updM_ne e]
theorem rd4_loc {μ : Mu} {l : Addr} {ds : List D} (h : μ l = some (.lst (ds.map Vl.d))) : rd4 μ (.loc l) = some (.lst ds) := by
  show (match μ l with | some (MO.lst vs) => (allD vs).map D.lst | _ => none) = _
  rw [h]
  show (allD (ds.map Vl.d)).map D.lst = _
  rw [allD_map]
  rfl
theorem rdL4_loc {μ : Mu} {l : Addr} {ds : List D} (h : μ l = some (.lst (ds.map Vl.d))) : rdL4 μ [.loc l] = some [.lst ds] := by
  show (match rd4 μ (.loc l), rdL4 μ [] with | some d, some ds => some (d :: ds) | _, _ => none) = _
  rw [rd4_loc h]
  rfl
def perL (t palm x cl : Vl) : List (Key × Vl) :=
  [(.inr "at", t), (.inr "palm", palm), (.inr "notes", x), (.inr "claims", cl), (.inr "stack", .d (.lst [])), (.inr "wait", .d .non), (.inr "end", .d .non)]
theorem perK_L {t : Nat} {palm : Int} {notes : List SI} {cl : List Str} : perK t palm notes cl = perL (.d (.int t)) (.d (.int palm)) (.d (dicSI notes)) (.d (.lst (strsD cl))) := by rfl
section
variable {t palm x cl y : Vl}
theorem lk_notes : val4 (perL t palm x cl) (.inr "notes") = some x := by rfl
theorem lk_claims : val4 (perL t palm x cl) (.inr "claims") = some cl := by rfl
theorem lp_at : putK4 (perL t palm x cl) (.inr "at") y = perL y palm x cl := by rfl
theorem lp_palm : putK4 (perL t palm x cl) (.inr "palm") y = perL t y x cl := by rfl
theorem lp_claims : putK4 (perL t palm x cl) (.inr "claims") y = perL t palm x y := by rfl
theorem lk_len : (perL t palm x cl).length < sizeLine := szL (by show 7 < 1000000; decide)
end
theorem per_sub {n : Addr} {t : Nat} {palm : Int} {notes : List SI} {cl : List Str} : subK n (dicSI notes) (perL (.d (.int t)) (.d (.int palm)) (.loc n) (.d (.lst (strsD cl)))) = perK t palm notes cl := by
  have e : subV n (dicSI notes) (.loc n) = .d (dicSI notes) := if_pos rfl
  rw [perK_L]
  show perL _ _ (subV n (dicSI notes) (.loc n)) _ = _
  rw [e]
  rfl
def pPersonL : PSp4 := fun xs μ Q _ => xs = [] ∧ ∀ a n, μ a = none → μ n = none → n ≠ a → Q (.loc a) (updM (updM μ n (.dic [])) a (.dic (perL (.d (.int 0)) (.d (.int 0)) (.loc n) (.d (.lst [])))))
def lkD (l : Lf) : D := .tup [.int l.place, .int l.hand, .tup (l.dr.map pairSI), .tup (strsD l.cl)]
def dueD : Option Lf → D
  | none => .non
  | some l => lkD l
def ownD (t : Nat) (palm : Int) (notes : List SI) (cl : List Str) : D := .tup [.int t, .int palm, dicSI notes, .lst (strsD cl)]
/-- a drawn life's bounds -/
structure SomeB (p : PlanL) (t : Nat) (palm : Int) (notes : List SI) (cl : List Str) : Prop where
  ok : LfOk p (absL t palm notes cl)
  nd : (keysSI notes).Nodup
  t12 : t ≤ 12
  pb : -far ≤ palm ∧ palm ≤ far
  nb : ∀ b ∈ notes, b.2.natAbs ≤ uN
def pSomebody : PSp4 := fun xs μ Q _ => ∃ (p : PlanL) (vs : List SI) (w o a f : Addr), xs = [.d potD, .loc w, .d (drawnD p)] ∧ PlanOk p ∧ μ w = some (.dic (worldK p vs o a f)) ∧ ∀ b μ' t palm notes cl, Kept μ μ' → μ b = none → μ' b = some (.dic (perK t palm notes cl)) → SomeB p t palm notes cl → Q (.loc b) μ'
def pOwnLife : PSp4 := fun xs μ Q _ => ∃ (b : Addr) (t : Nat) (palm : Int) (notes : List SI) (cl : List Str), xs = [.loc b] ∧ μ b = some (.dic (perK t palm notes cl)) ∧ Q (.d (ownD t palm notes cl)) μ
def pLifeOf : PSp4 := fun xs μ Q _ => ∃ (t : Nat) (palm : Int) (notes : List SI) (cl : List Str), xs = [.d (ownD t palm notes cl)] ∧ notes.length ≤ 1000 ∧ cl.length ≤ 1000 ∧ Q (.d (lkD (absL t palm notes cl))) μ
def pLifeMade (K : PySem.W.Frag) (C : Addr) : PSp4 := fun xs μ Q _ => ∃ (b : Addr) (t : Nat) (palm : Int) (notes : List SI) (cl : List Str), xs = [.loc b] ∧ μ b = some (.dic (perK t palm notes cl)) ∧ notes.length ≤ 1000 ∧ cl.length ≤ 1000 ∧ Q (.d (lfD K C (absL t palm notes cl))) μ
def pActsOf : PSp := fun ds Q => ∃ p : PlanL, ds = [drawnD p] ∧ PlanOk p ∧ ∀ b : List Dd, (∀ d ∈ b, d.ok p.locks p.cellNames) → b.length ≤ 72 → Q (.val (.lst (b.map ddD))) none
def pNumbersIn : PSp := fun ds Q => ∃ p : PlanL, ds = [drawnD p] ∧ PlanOk p ∧ ∀ ns : List Int, (∀ n ∈ ns, -far ≤ n ∧ n ≤ far) → ns.length ≤ 72 → Q (.new (ns.map D.int)) none
def pDeedsFor : PSp4 := fun xs μ Q _ => ∃ (p : PlanL) (vs : List SI) (w o a f b : Addr) (t : Nat) (palm : Int) (notes : List SI) (cl : List Str), xs = [.d potD, .loc w, .d (drawnD p), .loc b] ∧ PlanOk p ∧ μ w = some (.dic (worldK p vs o a f)) ∧ μ b = some (.dic (perK t palm notes cl)) ∧ (-far ≤ palm ∧ palm ≤ far) ∧ ∀ ds : List Dd, (∀ d ∈ ds, d.ok p.locks p.cellNames) → ds.length ≤ 1000 → Q (.d (.lst (ds.map ddD))) μ
def pDue22 : PSp4 := fun xs μ Q _ => ∃ (p : PlanL) (vs : List SI) (w o a f b : Addr) (d : Dd) (t : Nat) (palm : Int) (notes : List SI) (cl : List Str), xs = [.loc w, .loc b, .d (ddD d)] ∧ PlanOk p ∧ ValsOk p vs ∧ μ w = some (.dic (worldK p vs o a f)) ∧ μ b = some (.dic (perK t palm notes cl)) ∧ d.ok p.locks p.cellNames ∧ LfOk p (absL t palm notes cl) ∧ (keysSI notes).Nodup ∧ ∀ μ', Kept μ μ' → Q (.d (dueD (stepL p vs (absL t palm notes cl) d))) μ'
def pKeyL (K : PySem.W.Frag) (C : Addr) : PSp := fun ds Q => ∃ l : Lf, ds = [lfD K C l] ∧ Q (.val (lkD l)) none
def pTold22 (K : PySem.W.Frag) (C CP : Addr) : PSp := fun ds Q => ∃ (p : PlanL) (l : Lf) (d : Dd) (vs : List SI), ds = [lfD K C l, ddD d, planD CP p, valsD vs] ∧ PlanOk p ∧ d.ok p.locks p.cellNames ∧ l.dr.length ≤ 1000 ∧ (keysSI l.dr).Nodup ∧ l.cl.length ≤ 1000 ∧ ValsOk p vs ∧ Q (.val (dueD (stepL p vs l d))) none
end L4
namespace L4
open PySem PySem.Spec PyProof.Rows L2 TB LamX L3
theorem shw_lk {p : PlanL} (ok : PlanOk p) {l : Lf} (lo : LfOk p l) (hp : l.place ≤ 1000) (hb : LfB (13 * uN) l) : Shw 3 20000 (lkD l) := by
  have l8 := lo.drl ok
  have c7 := lo.cll ok
  have hi : ∀ i : Int, i.natAbs ≤ 13 * uN → Shw 0 21 (.int i) := fun i hi => Shw.int (k := 20) (by decide) (by decide) (by have : uN = 10 ^ 18 := rfl; omega)
  have ht : Shw 2 3000 (.tup (l.dr.map pairSI)) := (Shw.tupMap (n := 1) (B := 300) (m := 8) l8 fun b h => by
    refine (Shw.tup (n := 0) (B := 100) (m := 2) (ds := [.str b.1, .int b.2]) (Nat.le_refl _) fun d hd => ?_).mono (by decide) (by decide)
    rcases List.mem_cons.mp hd with rfl | hd
    · exact (Shw.nm (ok.nmc b.1 (lo.kin _ (List.mem_map_of_mem h)))).mono (by decide) (by decide)
    · rw [List.mem_singleton.mp hd]
      exact (hi b.2 (hb.2.2 b h)).mono (by decide) (by decide)).mono (by decide) (by decide)
  have hs : Shw 2 3000 (.tup (strsD l.cl)) := (Shw.tupMap (enc := D.str) (n := 0) (B := 82) (m := 7) c7 fun z hz => Shw.nm (ok.nml z (lo.cin z hz))).mono (by decide) (by decide)
  refine (Shw.tup (n := 2) (B := 3000) (m := 4) (ds := [.int l.place, .int l.hand, .tup (l.dr.map pairSI), .tup (strsD l.cl)]) (Nat.le_refl _) fun d hd => ?_).mono (by decide) (by decide)
  rcases List.mem_cons.mp hd with rfl | hd
  · exact (hi _ (by have : uN = 10 ^ 18 := rfl; omega)).mono (by decide) (by decide)
  rcases List.mem_cons.mp hd with rfl | hd
  · exact (hi _ hb.2.1).mono (by decide) (by decide)
  rcases List.mem_cons.mp hd with rfl | hd
  · exact ht
  · rw [List.mem_singleton.mp hd]
    exact hs
theorem step_le {p : PlanL} {vs : List SI} {l l' : Lf} {d : Dd} (hd : d.ok p.locks p.cellNames) (h : stepL p vs l d = some l') : l'.place ≤ l.place + 13 := by
  cases d <;> simp only [stepL] at h
  case quit => exact nomatch h
  case read c => split at h <;> first | (obtain rfl := Option.some.inj h; show l.place + 1 ≤ _; omega) | exact nomatch h
  case write c => split at h <;> first | (obtain rfl := Option.some.inj h; show l.place + 1 ≤ _; omega) | exact nomatch h
  case skip n m =>
    obtain rfl := Option.some.inj h
    have hm : m ≤ 12 := hd.2.2
    show (if l.hand = n then l.place + 1 + m.toNat else l.place + 1) ≤ _
    split <;> omega
  all_goals
    obtain rfl := Option.some.inj h
    show l.place + 1 ≤ _
    omega
theorem LfB.mono {n m : Nat} {l : Lf} (h : LfB n l) (hm : n ≤ m) : LfB m l := ⟨Nat.le_trans h.1 hm, Nat.le_trans h.2.1 hm, fun b hb => Nat.le_trans (h.2.2 b hb) hm⟩
theorem some_b {p : PlanL} {t : Nat} {palm : Int} {notes : List SI} {cl : List Str} (h : SomeB p t palm notes cl) : LfB uN (absL t palm notes cl) := ⟨Nat.le_refl _, far_abs h.pb, fun b hb => h.nb b ((sortSI_pm notes).mem_iff.mp hb)⟩
theorem shw_due {p : PlanL} (ok : PlanOk p) {vs : List SI} (vb : ValsB vs) {l : Lf} (lo : LfOk p l) (lb : LfB uN l) (l12 : l.place ≤ 12) {d : Dd} (hd : d.ok p.locks p.cellNames) : Shw 3 20000 (dueD (stepL p vs l d)) := by
  cases e : stepL p vs l d with
  | none => exact Shw.non.mono (by decide) (by decide)
  | some l' =>
    have := step_le hd e
    exact shw_lk ok (lo.step hd e) (by omega) ((lb.step vb hd e).mono (by omega))
theorem found_eq {vs : List SI} {t : Nat} {palm : Int} {notes : List SI} {cl : List Str} (nd : (keysSI notes).Nodup) {c : Str} {v : Int} (hv : valSI vs c = some v) : foundL (absL t palm notes cl) vs c = (valSI notes c).getD v := by
  unfold foundL absL
  rw [valSI_perm (sortSI_pm notes) (keys_sort nd), hv]
  rfl
theorem lf_ins {K : PySem.W.Frag} {C : Addr} {l : Lf} : InsD K C "key" (lfD K C l) := InsD.ins (by decide +kernel)
def pRight22 (CP : Addr) : PSp4 := fun xs μ Q _ => ∃ (p : PlanL) (vs : List SI) (w o a f : Addr), xs = [.d potD, .loc w, .d (drawnD p), .d (planD CP p)] ∧ PlanOk p ∧ ValsOk p vs ∧ ValsB vs ∧ μ w = some (.dic (worldK p vs o a f)) ∧ ∀ μ', Kept μ μ' → Q (.d (.bl true)) μ'
end L4
open TB in
local macro_rules | `(tactic| walk_at "s") => `(tactic| first
  | with_reducible refine st_sfld ?_
  | fail)
open TB in
local macro_rules | `(tactic| walk_at "s") => `(tactic| first
  | with_reducible refine st_bm ?_
  | with_reducible refine st_m1 ?_
  | with_reducible refine st_lc ?_
  | with_reducible refine st_rng1 ?_
  | with_reducible refine st_is ?_
  | ((with_reducible show ∃ i, L2.V.int _ = L2.V.int i ∧ _); refine ⟨_, rfl, ?_⟩)
  | ((with_reducible show (∃ a, L2.V.str _ = L2.V.str a) ∧ _); refine ⟨⟨_, rfl⟩, ?_⟩)
  | ((with_reducible show ∃ v w, [_, _] = [v, w] ∧ _); refine ⟨_, _, rfl, ?_⟩)
  | fail)
open TB in
local macro_rules | `(tactic| walk_at "s") => `(tactic| first
  | with_reducible refine st_drop ?_
  | with_reducible refine st_next ?_
  | with_reducible refine st_lst ?_
  | ((with_reducible refine st_eq ?e ?_); (case e => exact rfl))
  | with_reducible refine st_yes ?_
  | with_reducible refine st_gcons ?_
  | with_reducible refine st_gnil ?_
  | with_reducible refine st_gsub ?_
  | fail)
open TB in
local macro_rules | `(tactic| walk_at "s") => `(tactic| first
  | with_reducible refine st_cb ?_
  | with_reducible refine st_call ?_
  | with_reducible refine st_I0 ?_
  | with_reducible refine st_test ?_
  | with_reducible refine st_bl ?_
  | with_reducible refine st_ifs ?_
  | with_reducible refine st_if ?_
  | with_reducible refine st_ret ?_
  | fail)
open TB in
local macro_rules | `(tactic| walk_at "s") => `(tactic| first
  | with_reducible refine st_seq ?_
  | with_reducible refine st_asg ?_
  | with_reducible refine st_name ?_
  | ((with_reducible refine st_var (v := ?v) ?e ?_); (case e => exact rfl))
  | with_reducible refine st_c ?_
  | with_reducible refine st_op ?_
  | with_reducible refine st_cons ?_
  | with_reducible refine st_nil ?_
  | fail)
local macro_rules | `(tactic| walk_at "ss") => `(tactic| repeat walk_at "s")
open TB L3 in
local macro_rules | `(tactic| walk_at "l1") => `(tactic| first
  | with_reducible apply lg_cons
  | with_reducible apply li_io
  | with_reducible apply li_call
  | with_reducible apply li_meth'
  | with_reducible apply li_append'
  | exact rfl
  | assumption
  | decide
  | fail)
open TB L3 in
local macro_rules | `(tactic| walk_at "l1") => `(tactic| first
  | with_reducible apply lii_list'
  | with_reducible apply lii_tup'
  | with_reducible apply lii_enum'
  | with_reducible apply lii_rng1
  | with_reducible apply lii_str
  | with_reducible exact lg_name
  | with_reducible apply lg_tup'
  | with_reducible exact lg_nil
  | fail)
open TB L3 in
local macro_rules | `(tactic| walk_at "l1") => `(tactic| first
  | with_reducible apply li_and
  | with_reducible apply li_or
  | with_reducible apply li_not
  | with_reducible exact li_yes
  | with_reducible apply li_if
  | with_reducible apply li_andV
  | with_reducible apply li_orV
  | with_reducible apply li_notV
  | fail)
open TB L3 in
local macro_rules | `(tactic| walk_at "l1") => `(tactic| first
  | with_reducible apply (li_cb lc_isi)
  | with_reducible apply (li_cb lc_all')
  | with_reducible apply (li_cb lc_tuple')
  | with_reducible apply (li_cb (lc_reprX rfl))
  | with_reducible apply (li_cbN lc_list')
  | ((with_reducible apply li_keep); (with_reducible apply (li_cbN lc_list')))
  | with_reducible apply li_test
  | with_reducible apply li_tB
  | fail)
open TB L3 in
local macro_rules | `(tactic| walk_at "l1") => `(tactic| first
  | ((with_reducible apply li_keep); (with_reducible apply (li_opN lr_catL)))
  | with_reducible apply (li_opN lr_catL)
  | with_reducible apply (li_cb lc_len')
  | with_reducible apply li_scr
  | with_reducible apply (li_cb lc_max)
  | with_reducible apply (li_cb lc_min)
  | with_reducible apply (li_cb lc_int)
  | with_reducible apply (li_cb lc_isStr)
  | fail)
open TB L3 in
local macro_rules | `(tactic| walk_at "l1") => `(tactic| first
  | with_reducible apply (li_op lr_ne)
  | with_reducible apply (li_op lr_ixL')
  | with_reducible apply (li_op lr_ixT')
  | with_reducible apply (li_op lr_in')
  | with_reducible apply (li_op (lr_inX rfl))
  | with_reducible apply (li_op lr_eqD')
  | with_reducible apply (li_op lr_neD')
  | with_reducible apply (li_op lr_catT')
  | fail)
open TB L3 in
local macro_rules | `(tactic| walk_at "l1") => `(tactic| first
  | with_reducible apply lg_star
  | with_reducible apply (li_op (lr_inD _))
  | with_reducible apply (li_op lr_isN)
  | with_reducible apply (li_callD (by assumption))
  | with_reducible apply (li_callV (by assumption))
  | with_reducible apply (li_op lr_I0)
  | with_reducible apply (li_op lr_I)
  | with_reducible apply (li_op lr_eq)
  | fail)
open TB L3 in
local macro_rules | `(tactic| walk_at "l1") => `(tactic| first
  | with_reducible exact li_nilD
  | with_reducible apply li_consD
  | with_reducible apply (li_cb lc_lenTx)
  | with_reducible apply (li_op lr_inKd)
  | with_reducible apply (li_op lr_ixKd)
  | with_reducible apply (li_op lr_inSign)
  | with_reducible apply (li_chain lr_I0 lr_I0)
  | with_reducible apply lii_zipM
  | fail)
open TB L3 in
local macro_rules | `(tactic| walk_at "l1") => `(tactic| first
  | with_reducible apply (L4.li_mkP L4.DvOk.non)
  | with_reducible apply li_esc
  | with_reducible apply li_lst
  | ((with_reducible apply li_keep); (with_reducible apply li_lst))
  | with_reducible apply li_lc
  | ((with_reducible apply li_keep); (with_reducible apply li_lc))
  | with_reducible exact li_nil
  | with_reducible apply li_cons
  | fail)
open TB L3 in
local macro_rules | `(tactic| walk_at "l1") => `(tactic| first
  | with_reducible apply li_own
  | with_reducible apply (li_un lu_neg)
  | with_reducible apply (li_isiP (by assumption))
  | with_reducible apply li_tup
  | ((with_reducible apply li_val); (with_reducible apply li_tup))
  | with_reducible apply LiEs.cons
  | with_reducible exact LiEs.nil
  | with_reducible apply (L4.li_mkP L4.DvOk.nil)
  | fail)
open TB L3 in
local macro_rules | `(tactic| walk_at "l1") => `(tactic| first
  | with_reducible exact li_var
  | with_reducible exact li_cRef
  | with_reducible exact li_c
  | with_reducible apply L4.li_kn
  | with_reducible apply L4.li_dget
  | with_reducible apply L4.li_callA
  | with_reducible apply li_fld
  | with_reducible apply li_mkG
  | fail)
open TB L3 in
local macro_rules | `(tactic| walk_at "l1") => `(tactic| first
  | with_reducible exact ls_retV
  | ((with_reducible apply ls_retNew); (with_reducible apply li_lst))
  | ((with_reducible apply ls_retNew); (with_reducible apply li_lc))
  | ((with_reducible apply ls_retNew); (with_reducible apply (li_cbN lc_list')))
  | with_reducible apply ls_ret
  | with_reducible apply ls_if
  | with_reducible apply ls_for
  | with_reducible exact ls_never
  | fail)
open TB L3 in
local macro_rules | `(tactic| walk_at "l1") => `(tactic| first
  | with_reducible exact ls_next
  | with_reducible apply ls_fzS
  | with_reducible apply ls_seq
  | with_reducible apply ls_cut
  | with_reducible apply ls_own
  | with_reducible apply ls_asg
  | with_reducible apply ls_parNN
  | with_reducible apply ls_drop
  | fail)
local macro_rules | `(tactic| walk_at "li") => `(tactic| repeat' (walk_at "l1"))
open TB L3 in
local macro_rules | `(tactic| walk_at "p1") => `(tactic| first
  | ((with_reducible refine w_append (ds := ?d) (f := ?f) ?e ?_); (case e => exact rfl))
  | ((with_reducible refine w_ownP (ds := ?d) (f := ?f) ?e ?_); (case e => exact rfl))
  | with_reducible refine w_mm ?_
  | with_reducible refine L4.w_mkP ?_
  | with_reducible refine L4.w_kn ?_
  | with_reducible refine L4.w_dget ?_
  | with_reducible refine w_lenS ?_
  | ((with_reducible show ∃ d e : L3.D, [_, _] = [d, e] ∧ _); refine ⟨_, _, rfl, ?_⟩)
  | fail)
open TB L3 in
local macro_rules | `(tactic| walk_at "p1") => `(tactic| first
  | with_reducible refine w_ninST ?_
  | with_reducible refine w_neNilI ?_
  | with_reducible refine w_lenL ?_
  | with_reducible refine w_lenT ?_
  | with_reducible refine w_list ?_
  | with_reducible refine w_tuple ?_
  | with_reducible refine w_intB ?_
  | with_reducible refine w_all ?_
  | fail)
open TB L3 in
local macro_rules | `(tactic| walk_at "p1") => `(tactic| first
  | with_reducible refine w_call ?_
  | with_reducible refine w_callIo ?_
  | ((with_reducible refine w_res ?e ?_); (case e => exact rfl))
  | ((with_reducible refine w_resN ?e ?_); (case e => exact rfl))
  | with_reducible refine w_meth ?_
  | with_reducible refine w_inS ?_
  | with_reducible refine w_inST ?_
  | with_reducible refine w_ninS ?_
  | fail)
open TB L3 in
local macro_rules | `(tactic| walk_at "p1") => `(tactic| first
  | ((with_reducible refine w_fzS (ds := ?d) ?e ?_); (case e => exact rfl))
  | with_reducible refine w_zipM ?_
  | with_reducible refine w_istr ?_
  | with_reducible refine w_exS ?_
  | with_reducible refine w_isLL ?_
  | with_reducible refine w_exE ?_
  | with_reducible refine w_irng1 ?_
  | with_reducible refine w_lc ?_
  | fail)
open TB L3 in
local macro_rules | `(tactic| walk_at "p1") => `(tactic| first
  | with_reducible refine w_inSign ?_
  | with_reducible refine w_chain ?_
  | with_reducible refine w_chK ?_
  | with_reducible refine i_tt ?_
  | with_reducible refine i_ff ?_
  | with_reducible refine i_nt ?_
  | with_reducible refine i_nf ?_
  | with_reducible refine w_neg ?_
  | fail)
open TB L3 in
local macro_rules | `(tactic| walk_at "p1") => `(tactic| first
  | with_reducible refine w_notV ?_
  | with_reducible refine w_iseq ?_
  | with_reducible refine w_itup ?_
  | with_reducible refine w_exL ?_
  | with_reducible refine w_exT ?_
  | with_reducible refine w_ienum ?_
  | with_reducible refine w_cT ?_
  | with_reducible refine w_isStr ?_
  | fail)
open TB L3 in
local macro_rules | `(tactic| walk_at "p1") => `(tactic| first
  | with_reducible refine w_isBl ?_
  | with_reducible refine w_and ?_
  | with_reducible refine w_or ?_
  | with_reducible refine w_not ?_
  | with_reducible refine w_yes ?_
  | with_reducible refine w_if ?_
  | with_reducible refine w_andV ?_
  | with_reducible refine w_orV ?_
  | fail)
open TB L3 in
local macro_rules | `(tactic| walk_at "p1") => `(tactic| first
  | with_reducible refine w_callD ?_
  | ((with_reducible refine w_isN ?e ?_); (case e => exact rfl))
  | with_reducible refine w_I0 ?_
  | with_reducible refine w_eqS ?_
  | with_reducible refine w_neS ?_
  | with_reducible refine w_neI ?_
  | with_reducible refine w_eqI ?_
  | with_reducible refine w_test ?_
  | fail)
open TB L3 in
local macro_rules | `(tactic| walk_at "p1") => `(tactic| first
  | with_reducible refine w_opN ?_
  | with_reducible refine w_un ?_
  | with_reducible refine w_cb ?_
  | with_reducible refine w_cbN ?_
  | ((with_reducible refine w_some2 (x := ?x) (y := ?y) ?e ?e2 ?_); (case e => exact rfl); (case e2 => exact rfl))
  | ((with_reducible refine w_some1 (x := ?x) ?e ?_); (case e => exact rfl))
  | with_reducible refine w_callV ?_
  | ((with_reducible refine w_andLen ?e ?e2 ?_); (case e => exact rfl); (case e2 => exact rfl))
  | fail)
open TB L3 in
local macro_rules | `(tactic| walk_at "p1") => `(tactic| first
  | with_reducible refine w_lst ?_
  | with_reducible refine w_tup ?_
  | with_reducible refine w_eqOwn ?_
  | ((with_reducible refine w_life ?e ?_); (case e => decide))
  | with_reducible refine w_fld ?_
  | with_reducible refine w_cls ?_
  | with_reducible refine w_mkG ?_
  | with_reducible refine w_op ?_
  | fail)
open TB L3 in
local macro_rules | `(tactic| walk_at "p1") => `(tactic| first
  | with_reducible refine w_escV ?_
  | ((with_reducible refine w_escC (ds := ?d) ?e ?_); (case e => exact rfl))
  | with_reducible refine w_keep ?_
  | with_reducible refine w_val ?_
  | with_reducible refine w_nil ?_
  | with_reducible refine w_cons ?_
  | with_reducible refine w_nilD ?_
  | with_reducible refine w_consD ?_
  | fail)
open TB L3 in
local macro_rules | `(tactic| walk_at "p1") => `(tactic| first
  | ((with_reducible refine w_gtup ?e ?_); (case e => exact rfl))
  | ((with_reducible refine w_var (d := ?d) ?e ?_); (case e => exact rfl))
  | ((with_reducible refine w_varO (ds := ?d) (f := ?f) ?e ?_); (case e => exact rfl))
  | with_reducible refine w_cI ?_
  | with_reducible refine w_cS ?_
  | with_reducible refine w_cB ?_
  | with_reducible refine w_cN ?_
  | with_reducible refine w_esc ?_
  | fail)
open TB L3 in
local macro_rules | `(tactic| walk_at "p1") => `(tactic| first
  | with_reducible refine w_asg ?_
  | with_reducible refine w_own ?_
  | ((with_reducible show ∃ d e u : L3.D, [_, _, _] = [d, e, u] ∧ _); refine ⟨_, _, _, rfl, ?_⟩)
  | with_reducible refine w_parNN ?_
  | with_reducible refine w_for ?_
  | with_reducible refine w_name ?_
  | with_reducible refine w_gnil ?_
  | with_reducible refine w_gcons ?_
  | fail)
open TB L3 in
local macro_rules | `(tactic| walk_at "p1") => `(tactic| first
  | with_reducible refine w_seq ?_
  | with_reducible refine w_next ?_
  | with_reducible refine w_drop ?_
  | with_reducible refine w_ret ?_
  | with_reducible refine w_retNew ?_
  | ((with_reducible refine w_retV (d := ?d) ?e ?_); (case e => exact rfl))
  | ((with_reducible refine w_retO (ds := ?d) ?e ?_); (case e => exact rfl))
  | with_reducible refine w_ifs ?_
  | fail)
local macro_rules | `(tactic| walk_at "pp") => `(tactic| repeat (walk_at "p1"))
open TB L3 L4 in
local macro_rules | `(tactic| walk_at "l4") => `(tactic| first
  | with_reducible apply i_of3
  | walk_at "l1"
  | fail)
open TB L3 L4 in
local macro_rules | `(tactic| walk_at "l4") => `(tactic| first
  | with_reducible exact g_name
  | with_reducible apply g_tup
  | with_reducible exact g_nil
  | with_reducible apply g_cons
  | with_reducible apply g_subD
  | ((with_reducible apply i_listA); (with_reducible apply e_dgetA))
  | ((with_reducible apply i_listA); (with_reducible apply e_call))
  | with_reducible apply L4.i_rngA
  | fail)
open TB L3 L4 in
local macro_rules | `(tactic| walk_at "l4") => `(tactic| first
  | with_reducible exact a_nil
  | with_reducible apply a_cons
  | with_reducible apply t_tB
  | with_reducible apply t_test
  | with_reducible apply t_and
  | with_reducible apply t_or
  | with_reducible apply t_not
  | with_reducible exact t_yes
  | fail)
open TB L3 L4 in
local macro_rules | `(tactic| walk_at "l4") => `(tactic| first
  | with_reducible apply (e_cb lc_isStr)
  | with_reducible apply (e_cb lc_isi)
  | with_reducible apply (e_cb lc_all')
  | with_reducible apply (e_cb lc_tuple')
  | with_reducible apply (e_cb (lc_reprX rfl))
  | with_reducible apply (e_cbK lc_list')
  | with_reducible apply (e_un lu_neg)
  | with_reducible apply e_if
  | fail)
open TB L3 L4 in
local macro_rules | `(tactic| walk_at "l4") => `(tactic| first
  | with_reducible apply (e_op lr_neD')
  | with_reducible apply (e_op lr_catT')
  | with_reducible apply (e_opK lr_catL)
  | with_reducible apply (e_cb lc_lenTx)
  | with_reducible apply (e_cb lc_len')
  | with_reducible apply (e_cb lc_max)
  | with_reducible apply (e_cb lc_min)
  | with_reducible apply (e_cb lc_int)
  | fail)
open TB L3 L4 in
local macro_rules | `(tactic| walk_at "l4") => `(tactic| first
  | with_reducible apply (e_op lr_isN)
  | with_reducible apply (e_op lr_I0)
  | with_reducible apply (e_op lr_I)
  | with_reducible apply (e_op lr_eq)
  | with_reducible apply (e_op lr_ne)
  | with_reducible apply (e_op lr_in')
  | with_reducible apply (e_op (lr_inX rfl))
  | with_reducible apply (e_op lr_eqD')
  | fail)
open TB L3 L4 in
local macro_rules | `(tactic| walk_at "l4") => `(tactic| first
  | with_reducible apply e_ixL
  | with_reducible apply e_ixT
  | with_reducible apply e_dgetA
  | with_reducible apply e_dget2A
  | with_reducible apply (e_op lr_inKd)
  | with_reducible apply (e_op lr_ixKd)
  | with_reducible apply (e_op lr_inSign)
  | with_reducible apply (e_op (lr_inD _))
  | fail)
open TB L3 L4 in
local macro_rules | `(tactic| walk_at "l4") => `(tactic| first
  | with_reducible apply e_lcK
  | with_reducible apply e_fldA
  | with_reducible apply e_meth3
  | with_reducible apply e_callIo
  | with_reducible apply e_call3
  | with_reducible apply e_call
  | with_reducible apply (e_bm m_append)
  | with_reducible apply (e_bm m_popAt)
  | fail)
open TB L3 L4 in
local macro_rules | `(tactic| walk_at "l4") => `(tactic| first
  | with_reducible apply e_mkG
  | with_reducible exact e_dicM
  | with_reducible exact e_dicK
  | with_reducible apply e_fz
  | with_reducible apply e_lstM
  | with_reducible apply (e_cbM lc_list')
  | with_reducible apply e_tup
  | with_reducible apply e_lstK
  | fail)
open TB L3 L4 in
local macro_rules | `(tactic| walk_at "l4") => `(tactic| first
  | with_reducible apply e_tupSort
  | with_reducible apply e_listIt
  | with_reducible apply e_dictTM
  | with_reducible apply e_dictK
  | with_reducible apply L4.e_dictC
  | with_reducible apply e_disp
  | with_reducible exact p_nil
  | with_reducible apply p_cons
  | fail)
open TB L3 L4 in
local macro_rules | `(tactic| walk_at "l4") => `(tactic| first
  | with_reducible apply s_ret
  | with_reducible apply s_if
  | with_reducible apply s_for
  | with_reducible exact s_never
  | ((with_reducible apply e_of3); (with_reducible apply li_own))
  | with_reducible exact e_var
  | with_reducible exact e_c
  | with_reducible apply e_kn
  | fail)
open TB L3 L4 in
local macro_rules | `(tactic| walk_at "l4") => `(tactic| first
  | with_reducible exact s_next
  | with_reducible apply s_seq
  | with_reducible apply s_cut
  | with_reducible apply s_fld
  | with_reducible apply s_dput
  | with_reducible apply s_par
  | with_reducible apply s_asg
  | with_reducible apply s_drop
  | fail)
local macro_rules | `(tactic| walk_at "l4s") => `(tactic| repeat' (walk_at "l4"))
open TB L3 L4 in
local macro_rules | `(tactic| walk_at "p4") => `(tactic| first
  | ((with_reducible refine v_ixT ?e ?_); (case e => first | exact at0 | exact at1 | exact at2))
  | walk_at "p1"
  | fail)
open TB L3 L4 in
local macro_rules | `(tactic| walk_at "p4") => `(tactic| first
  | with_reducible refine v_bm ?_
  | with_reducible refine v_ix ?_
  | with_reducible refine v_listA ?_
  | with_reducible refine v_it3 ?_
  | with_reducible refine v_of3 ?_
  | with_reducible refine v_isVal ?_
  | ((with_reducible refine v_some2 (dx := ?x) (dy := ?y) ?e ?e2 ?_); (case e => exact rfl); (case e2 => exact rfl))
  | ((with_reducible refine v_some1 (dx := ?x) ?e ?_); (case e => exact rfl))
  | fail)
open TB L3 L4 in
local macro_rules | `(tactic| walk_at "p4") => `(tactic| first
  | with_reducible refine v_listIt ?_
  | with_reducible refine v_dictTM ?_
  | with_reducible refine v_dictK ?_
  | with_reducible refine v_disp ?_
  | with_reducible refine v_pnil ?_
  | with_reducible refine v_pcons ?_
  | with_reducible refine v_mkG ?_
  | with_reducible refine v_dput ?_
  | fail)
open TB L3 L4 in
local macro_rules | `(tactic| walk_at "p4") => `(tactic| first
  | with_reducible refine v_lcK ?_
  | with_reducible refine v_dgetA ?_
  | with_reducible refine v_gsubD ?_
  | with_reducible refine v_dget2A ?_
  | with_reducible refine v_kn ?_
  | with_reducible refine v_tupSort ?_
  | with_reducible refine L4.v_rngA ?_
  | with_reducible refine L4.v_dictC ?_
  | fail)
open TB L3 L4 in
local macro_rules | `(tactic| walk_at "p4") => `(tactic| first
  | with_reducible refine v_call3 ?_
  | with_reducible refine v_callIo ?_
  | with_reducible refine v_rsV ?_
  | with_reducible refine v_rsN ?_
  | with_reducible refine v_meth3 ?_
  | with_reducible refine v_fldA ?_
  | with_reducible refine v_sfld ?_
  | with_reducible refine v_fz ?_
  | fail)
open TB L3 L4 in
local macro_rules | `(tactic| walk_at "p4") => `(tactic| first
  | with_reducible refine v_if ?_
  | with_reducible refine v_op ?_
  | with_reducible refine v_opK ?_
  | with_reducible refine v_un ?_
  | with_reducible refine v_cb ?_
  | with_reducible refine v_cbK ?_
  | with_reducible refine v_cbM ?_
  | with_reducible refine v_call ?_
  | fail)
open TB L3 L4 in
local macro_rules | `(tactic| walk_at "p4") => `(tactic| first
  | with_reducible refine v_dicK ?_
  | with_reducible refine v_dic ?_
  | with_reducible refine v_test ?_
  | with_reducible refine v_isB ?_
  | with_reducible refine v_and ?_
  | with_reducible refine v_or ?_
  | with_reducible refine v_not ?_
  | with_reducible refine v_yes ?_
  | fail)
open TB L3 L4 in
local macro_rules | `(tactic| walk_at "p4") => `(tactic| first
  | ((with_reducible refine v_c (d := ?d) ?e ?_); (case e => exact rfl))
  | with_reducible refine v_nil ?_
  | with_reducible refine v_cons ?_
  | with_reducible refine v_tup ?_
  | ((with_reducible refine v_tupD (ds := ?d) ?e ?z ?_); (case e => exact rfl); (case z => (simp; done)))
  | with_reducible refine v_lstK ?_
  | ((with_reducible refine v_lstD (ds := ?d) ?e ?z ?_); (case e => exact rfl); (case z => (simp; done)))
  | with_reducible refine v_lst ?_
  | fail)
open TB L3 L4 in
local macro_rules | `(tactic| walk_at "p4") => `(tactic| first
  | with_reducible refine v_ifs ?_
  | with_reducible refine v_asg ?_
  | with_reducible refine v_for ?_
  | with_reducible refine v_name ?_
  | with_reducible refine v_gnil ?_
  | with_reducible refine v_gcons ?_
  | ((with_reducible refine v_gtup ?e ?n ?_); (case e => exact rfl); (case n => exact rfl))
  | ((with_reducible refine v_var (x := ?d) ?e ?_); (case e => exact rfl))
  | fail)
open TB L3 L4 in
local macro_rules | `(tactic| walk_at "p4") => `(tactic| first
  | with_reducible refine i_isN ?_
  | with_reducible refine i_isNL ?_
  | ((with_reducible refine v_szA ?z ?_); (case z => (simp; done)))
  | with_reducible refine v_next ?_
  | with_reducible refine v_seq ?_
  | with_reducible refine v_par ?_
  | with_reducible refine v_drop ?_
  | with_reducible refine v_ret ?_
  | fail)
local macro_rules | `(tactic| walk_at "p4s") => `(tactic| repeat (walk_at "p4"))
namespace K22
open PySem PySem.Spec PyProof.Rows L2 TB LamX
def top (i : Nat) : Stmt := PySem.Challenge.pw_turnedback_k22_what_deeds_do.main.body.getD i (.Pass ⟨0, 0, 0, 0⟩)
end K22
namespace K22
open PySem PySem.Spec PyProof.Rows L2 TB LamX NdefX
open C8 (Cal pe_c Mak pe_mk Met pe_mt pe_mt0 pss_cut tCut pe_gc)
abbrev s__law_pot : Stmt := top 51
abbrev s__law_draw : Stmt := top 52
abbrev s__law_name : Stmt := top 53
abbrev s_is_name : Stmt := top 31
abbrev s_is_number : Stmt := top 32
abbrev s_is_part : Stmt := top 33
abbrev s_is_deed : Stmt := top 34
abbrev s_is_body : Stmt := top 48
abbrev s_want_many : Stmt := top 43
abbrev s_want_new : Stmt := top 44
abbrev s_want_locks : Stmt := top 45
abbrev s_want_cells : Stmt := top 46
abbrev s_want_tasks : Stmt := top 47
abbrev s__law_number : Stmt := top 54
abbrev s__law_act : Stmt := top 55
abbrev s__law_acts : Stmt := top 56
abbrev s__law_drawn : Stmt := top 57
abbrev s_Plan___init__ : Stmt := inClass (top 49) 0
abbrev s_Plan_cell_of : Stmt := inClass (top 49) 5
abbrev s_Plan_lock_of : Stmt := inClass (top 49) 6
abbrev s_Life___init__ : Stmt := inClass (top 9) 0
abbrev s_found_in : Stmt := top 10
abbrev s_with_hand : Stmt := top 11
abbrev s_do_set : Stmt := top 12
abbrev s_do_add : Stmt := top 13
abbrev s_do_take : Stmt := top 14
abbrev s_do_read : Stmt := top 15
abbrev s_do_write : Stmt := top 16
abbrev s_do_skip : Stmt := top 17
abbrev s_does_fail : Stmt := top 19
abbrev s_done_by : Stmt := top 20
abbrev s__law_person : Stmt := top 58
abbrev s__law_joins : Stmt := top 59
abbrev s__law_world : Stmt := top 60
abbrev s__law_claims : Stmt := top 61
abbrev s__law_moves : Stmt := top 63
abbrev s__law_worths : Stmt := top 70
abbrev s__law_plan_of : Stmt := top 65
abbrev s_Plan___eq__ : Stmt := inClass (top 49) 11
abbrev s_Life_key : Stmt := inClass (top 9) 1
abbrev s__law_own_life : Stmt := top 62
abbrev s__law_life_of : Stmt := top 64
abbrev s__law_life_made : Stmt := top 69
abbrev s__law_due : Stmt := top 72
abbrev s__law_told : Stmt := top 73
abbrev s__law_acts_of : Stmt := top 66
abbrev s__law_numbers_in : Stmt := top 67
abbrev s__law_somebody : Stmt := top 68
abbrev s__law_deeds_for : Stmt := top 71
abbrev s__law_right : Stmt := top 74
abbrev s_law : Stmt := top 75
def d_is_name : He.DefD := ⟨("is_name", none), "is_name", "is_name", defArgs s_is_name, defBody s_is_name, defScope s_is_name, [], []⟩
def d_is_number : He.DefD := ⟨("is_number", none), "is_number", "is_number", defArgs s_is_number, defBody s_is_number, defScope s_is_number, [], []⟩
def d_is_part : He.DefD := ⟨("is_part", none), "is_part", "is_part", defArgs s_is_part, defBody s_is_part, defScope s_is_part, [], []⟩
def d_is_deed : He.DefD := ⟨("is_deed", none), "is_deed", "is_deed", defArgs s_is_deed, defBody s_is_deed, defScope s_is_deed, [], []⟩
def d_is_body : He.DefD := ⟨("is_body", none), "is_body", "is_body", defArgs s_is_body, defBody s_is_body, defScope s_is_body, [], []⟩
def d_want_many : He.DefD := ⟨("want_many", none), "want_many", "want_many", defArgs s_want_many, defBody s_want_many, defScope s_want_many, [], []⟩
def d_want_new : He.DefD := ⟨("want_new", none), "want_new", "want_new", defArgs s_want_new, defBody s_want_new, defScope s_want_new, [], []⟩
def d_want_locks : He.DefD := ⟨("want_locks", none), "want_locks", "want_locks", defArgs s_want_locks, defBody s_want_locks, defScope s_want_locks, [], []⟩
def d_want_cells : He.DefD := ⟨("want_cells", none), "want_cells", "want_cells", defArgs s_want_cells, defBody s_want_cells, defScope s_want_cells, [], []⟩
def d_want_tasks : He.DefD := ⟨("want_tasks", none), "want_tasks", "want_tasks", defArgs s_want_tasks, defBody s_want_tasks, defScope s_want_tasks, [], []⟩
def d_Plan___init__ : He.DefD := ⟨("Plan", some "__init__"), "__init__", "Plan.__init__", defArgs s_Plan___init__, defBody s_Plan___init__, defScope s_Plan___init__, [.non], []⟩
def d_Plan_cell_of : He.DefD := ⟨("Plan", some "cell_of"), "cell_of", "Plan.cell_of", defArgs s_Plan_cell_of, defBody s_Plan_cell_of, defScope s_Plan_cell_of, [], []⟩
def d_Plan_lock_of : He.DefD := ⟨("Plan", some "lock_of"), "lock_of", "Plan.lock_of", defArgs s_Plan_lock_of, defBody s_Plan_lock_of, defScope s_Plan_lock_of, [], []⟩
def d_Plan___eq__ : He.DefD := ⟨("Plan", some "__eq__"), "__eq__", "Plan.__eq__", defArgs s_Plan___eq__, defBody s_Plan___eq__, defScope s_Plan___eq__, [], []⟩
def d_Life___init__ : He.DefD := ⟨("Life", some "__init__"), "__init__", "Life.__init__", defArgs s_Life___init__, defBody s_Life___init__, defScope s_Life___init__, [], [("place", .int 0), ("hand", .int 0), ("drafts", .adr (kwAt ("Life", some "__init__") "drafts")), ("called", .adr (kwAt ("Life", some "__init__") "called"))]⟩
def d_Life_key : He.DefD := ⟨("Life", some "key"), "key", "Life.key", defArgs s_Life_key, defBody s_Life_key, defScope s_Life_key, [], []⟩
def d_found_in : He.DefD := ⟨("found_in", none), "found_in", "found_in", defArgs s_found_in, defBody s_found_in, defScope s_found_in, [], []⟩
def d_with_hand : He.DefD := ⟨("with_hand", none), "with_hand", "with_hand", defArgs s_with_hand, defBody s_with_hand, defScope s_with_hand, [], [("by", .int 1)]⟩
def d_do_set : He.DefD := ⟨("do_set", none), "do_set", "do_set", defArgs s_do_set, defBody s_do_set, defScope s_do_set, [], []⟩
def d_do_add : He.DefD := ⟨("do_add", none), "do_add", "do_add", defArgs s_do_add, defBody s_do_add, defScope s_do_add, [], []⟩
def d_do_take : He.DefD := ⟨("do_take", none), "do_take", "do_take", defArgs s_do_take, defBody s_do_take, defScope s_do_take, [], []⟩
def d_do_read : He.DefD := ⟨("do_read", none), "do_read", "do_read", defArgs s_do_read, defBody s_do_read, defScope s_do_read, [], []⟩
def d_do_write : He.DefD := ⟨("do_write", none), "do_write", "do_write", defArgs s_do_write, defBody s_do_write, defScope s_do_write, [], []⟩
def d_do_skip : He.DefD := ⟨("do_skip", none), "do_skip", "do_skip", defArgs s_do_skip, defBody s_do_skip, defScope s_do_skip, [], []⟩
def d_does_fail : He.DefD := ⟨("does_fail", none), "does_fail", "does_fail", defArgs s_does_fail, defBody s_does_fail, defScope s_does_fail, [], []⟩
def d_done_by : He.DefD := ⟨("done_by", none), "done_by", "done_by", defArgs s_done_by, defBody s_done_by, defScope s_done_by, [], []⟩
def d__law_pot : He.DefD := ⟨("_law_pot", none), "_law_pot", "_law_pot", defArgs s__law_pot, defBody s__law_pot, defScope s__law_pot, [], []⟩
def d__law_draw : He.DefD := ⟨("_law_draw", none), "_law_draw", "_law_draw", defArgs s__law_draw, defBody s__law_draw, defScope s__law_draw, [], []⟩
def d__law_name : He.DefD := ⟨("_law_name", none), "_law_name", "_law_name", defArgs s__law_name, defBody s__law_name, defScope s__law_name, [], []⟩
def d__law_number : He.DefD := ⟨("_law_number", none), "_law_number", "_law_number", defArgs s__law_number, defBody s__law_number, defScope s__law_number, [], []⟩
def d__law_act : He.DefD := ⟨("_law_act", none), "_law_act", "_law_act", defArgs s__law_act, defBody s__law_act, defScope s__law_act, [], []⟩
def d__law_acts : He.DefD := ⟨("_law_acts", none), "_law_acts", "_law_acts", defArgs s__law_acts, defBody s__law_acts, defScope s__law_acts, [], []⟩
def d__law_drawn : He.DefD := ⟨("_law_drawn", none), "_law_drawn", "_law_drawn", defArgs s__law_drawn, defBody s__law_drawn, defScope s__law_drawn, [], []⟩
def d__law_person : He.DefD := ⟨("_law_person", none), "_law_person", "_law_person", defArgs s__law_person, defBody s__law_person, defScope s__law_person, [], []⟩
def d__law_joins : He.DefD := ⟨("_law_joins", none), "_law_joins", "_law_joins", defArgs s__law_joins, defBody s__law_joins, defScope s__law_joins, [], []⟩
def d__law_world : He.DefD := ⟨("_law_world", none), "_law_world", "_law_world", defArgs s__law_world, defBody s__law_world, defScope s__law_world, [], []⟩
def d__law_claims : He.DefD := ⟨("_law_claims", none), "_law_claims", "_law_claims", defArgs s__law_claims, defBody s__law_claims, defScope s__law_claims, [], []⟩
def d__law_moves : He.DefD := ⟨("_law_moves", none), "_law_moves", "_law_moves", defArgs s__law_moves, defBody s__law_moves, defScope s__law_moves, [], []⟩
def d__law_plan_of : He.DefD := ⟨("_law_plan_of", none), "_law_plan_of", "_law_plan_of", defArgs s__law_plan_of, defBody s__law_plan_of, defScope s__law_plan_of, [], []⟩
def d__law_worths : He.DefD := ⟨("_law_worths", none), "_law_worths", "_law_worths", defArgs s__law_worths, defBody s__law_worths, defScope s__law_worths, [], []⟩
def d__law_own_life : He.DefD := ⟨("_law_own_life", none), "_law_own_life", "_law_own_life", defArgs s__law_own_life, defBody s__law_own_life, defScope s__law_own_life, [], []⟩
def d__law_life_of : He.DefD := ⟨("_law_life_of", none), "_law_life_of", "_law_life_of", defArgs s__law_life_of, defBody s__law_life_of, defScope s__law_life_of, [], []⟩
def d__law_acts_of : He.DefD := ⟨("_law_acts_of", none), "_law_acts_of", "_law_acts_of", defArgs s__law_acts_of, defBody s__law_acts_of, defScope s__law_acts_of, [], []⟩
def d__law_numbers_in : He.DefD := ⟨("_law_numbers_in", none), "_law_numbers_in", "_law_numbers_in", defArgs s__law_numbers_in, defBody s__law_numbers_in, defScope s__law_numbers_in, [], []⟩
def d__law_somebody : He.DefD := ⟨("_law_somebody", none), "_law_somebody", "_law_somebody", defArgs s__law_somebody, defBody s__law_somebody, defScope s__law_somebody, [], []⟩
def d__law_life_made : He.DefD := ⟨("_law_life_made", none), "_law_life_made", "_law_life_made", defArgs s__law_life_made, defBody s__law_life_made, defScope s__law_life_made, [], []⟩
def d__law_deeds_for : He.DefD := ⟨("_law_deeds_for", none), "_law_deeds_for", "_law_deeds_for", defArgs s__law_deeds_for, defBody s__law_deeds_for, defScope s__law_deeds_for, [], []⟩
def d__law_due : He.DefD := ⟨("_law_due", none), "_law_due", "_law_due", defArgs s__law_due, defBody s__law_due, defScope s__law_due, [], []⟩
def d__law_told : He.DefD := ⟨("_law_told", none), "_law_told", "_law_told", defArgs s__law_told, defBody s__law_told, defScope s__law_told, [], []⟩
def d__law_right : He.DefD := ⟨("_law_right", none), "_law_right", "_law_right", defArgs s__law_right, defBody s__law_right, defScope s__law_right, [], []⟩
def d_law : He.DefD := ⟨("law", none), "law", "law", defArgs s_law, defBody s_law, defScope s_law, [], []⟩
def fn : List He.DefD := [d_is_name, d_is_number, d_is_part, d_is_deed, d_is_body, d_want_many, d_want_new, d_want_locks, d_want_cells, d_want_tasks, d_Plan___init__, d_Plan_cell_of, d_Plan_lock_of, d_Plan___eq__, d_Life___init__, d_Life_key, d_found_in, d_with_hand, d_do_set, d_do_add, d_do_take, d_do_read, d_do_write, d_do_skip, d_does_fail, d_done_by, d__law_pot, d__law_draw, d__law_name, d__law_number, d__law_act, d__law_acts, d__law_drawn, d__law_person, d__law_joins, d__law_world, d__law_claims, d__law_moves, d__law_plan_of, d__law_worths, d__law_own_life, d__law_life_of, d__law_acts_of, d__law_numbers_in, d__law_somebody, d__law_life_made, d__law_deeds_for, d__law_due, d__law_told, d__law_right, d_law]
def fa : List He.Fa := [.glo "is_name", .glo "is_number", .glo "is_part", .glo "is_deed", .glo "is_body", .glo "want_many", .glo "want_new", .glo "want_locks", .glo "want_cells", .glo "want_tasks", .glo "found_in", .glo "with_hand", .glo "do_set", .glo "do_add", .glo "do_take", .glo "do_read", .glo "do_write", .glo "do_skip", .glo "does_fail", .glo "done_by", .glo "_law_pot", .glo "_law_draw", .glo "_law_name", .glo "_law_number", .glo "_law_act", .glo "_law_acts", .glo "_law_drawn", .glo "_law_person", .glo "_law_joins", .glo "_law_world", .glo "_law_claims", .glo "_law_moves", .glo "_law_plan_of", .glo "_law_worths", .glo "_law_own_life", .glo "_law_life_of", .glo "_law_acts_of", .glo "_law_numbers_in", .glo "_law_somebody", .glo "_law_life_made", .glo "_law_deeds_for", .glo "_law_due", .glo "_law_told", .glo "_law_right", .glo "law", .free "len", .free "max", .free "min", .free "abs", .free "divmod", .free "range", .free "enumerate", .free "int", .free "list", .free "repr", .free "isinstance", .free "str", .free "tuple", .free "sorted", .free "all", .free "any", .free "zip", .free "dict", .free "sum", .free "bool", .glo "SHAPES", .int "MOST_LETTERS" 8, .int "FARTHEST" 1000000000000000000, .int "MOST_DEEDS" 12, .str "LETTERS" "abcdefghijklmnopqrstuvwxyz", .str "NUMBER" "number", .str "MANY" "many", .str "LOCK" "lock", .glo "DEEDS", .int "MOST_LOCKS" 7, .int "MOST_CELLS" 8, .int "MOST_TASKS" 6, .str "READ" "read", .str "WRITE" "write", .str "QUIT" "quit", .glo "Plan", .cls "Plan", .noat "Plan" "own_locks", .noat "Plan" "own_cells", .noat "Plan" "own_tasks", .noat "Plan" "own_names", .mkr "Plan", .meth "Plan" "cell_of", .meth "Plan" "lock_of", .glo "Life", .cls "Life", .noat "Life" "place", .noat "Life" "hand", .noat "Life" "drafts", .noat "Life" "called", .mkr "Life", .meth "Plan" "__eq__", .meth "Life" "key"]
def tf : List He.Defn := []
def exB (K : PySem.W.Frag) : Bool := He.dictB K PySem.sysModules && (L3.shB K (He.ga K "SHAPES") && (nilB (kwAt ("Life", some "__init__") "drafts") K && (nilB (kwAt ("Life", some "__init__") "called") K && (L4.nilKB (kwAt ("Life", some "__init__") "drafts") K && (L4.deedsB K (He.ga K "DEEDS") (He.ga K "do_set") (He.ga K "do_add") (He.ga K "do_take") (He.ga K "do_read") (He.ga K "do_write") (He.ga K "do_skip") && (L3.eqClsB K (He.ga K "Plan") && (L3.insCB K (He.ga K "Plan") && L3.insCB K (He.ga K "Life"))))))))
abbrev R : PySem.W.OpenRow := PySem.W.OpenLaw.row PySem.Challenge.rw_turnedback_k22_what_deeds_do
def ts : List He.Tab := [(fun K => He.ga K "SHAPES", L3.shpK), (fun K => He.ga K "DEEDS", L4.deedsK)]
abbrev hk : PySem.W.Hook := He.hookU 6 fa fn ts tf exB
def ob (s : PySem.W.SharedT) : He.AlX := He.obsU 6 fa fn ts tf exB (HandSHeadRun.getT s)
theorem ob_eq (s : PySem.W.SharedT) : ob s = hk.obs s.abs := He.obsU_eq (HandSHeadRun.getT_eq s)
def loose : List Str := (["_wall", "SET", "ADD", "TAKE", "READ", "WRITE", "SKIP", "QUIT", "Life", "found_in", "with_hand", "do_set", "do_add", "do_take", "do_read", "do_write", "do_skip", "DEEDS", "does_fail", "done_by", "LETTERS", "MOST_LETTERS", "FARTHEST", "MOST_DEEDS", "NUMBER", "MANY", "LOCK", "CELL", "SHAPES", "is_name"] : List Str) ++ (["is_number", "is_part", "is_deed", "HallError", "NoPlan", "NoSuch", "MOST_LOCKS", "MOST_CELLS", "MOST_TASKS", "want_many", "want_new", "want_locks", "want_cells", "want_tasks", "is_body", "Plan", "_law_pot", "_law_draw", "_law_name", "_law_number", "_law_act", "_law_acts", "_law_drawn", "_law_person", "_law_joins", "_law_world", "_law_claims", "_law_own_life", "_law_moves", "_law_life_of"] : List Str) ++ (["_law_plan_of", "_law_acts_of", "_law_numbers_in", "_law_somebody", "_law_life_made", "_law_worths", "_law_deeds_for", "_law_due", "_law_told", "_law_right"] : List Str)
theorem run0_true (w : World) : HandSHeadRun.RunEq R (PySem.W.view R.prog [75]) hk ob 6000 loose (w.withFollow "special-get-raises" true) := by
  intro os
  kernel_rfl
theorem run0_false (w : World) : HandSHeadRun.RunEq R (PySem.W.view R.prog [75]) hk ob 6000 loose (w.withFollow "special-get-raises" false) := by
  intro os
  kernel_rfl
end K22
namespace K22
open PySem PySem.Spec PyProof.Rows L2 TB
open C8 (Cal pe_c Mak pe_mk Met pe_mt pe_mt0 pss_cut tCut pe_gc)
theorem sc__law_pot : FnScope ["_law_script", "_law_k", "_law_cell"] ["_law_script", "_law_k"] (defScope s__law_pot) := ⟨rfl, rfl, rfl, by decide +kernel, rfl, by decide +kernel, by decide +kernel⟩
theorem sc__law_draw : FnScope ["_law_pot_here", "_law_many", "_law_digit"] ["_law_pot_here", "_law_many"] (defScope s__law_draw) := ⟨rfl, rfl, rfl, by decide +kernel, rfl, by decide +kernel, by decide +kernel⟩
section
variable {P : Program} {w : World} {K : PySem.W.Frag} {mg : Str → Option Value} {base : Heap} {f : Addr} {fd : FuncData}
def spDraw0 : Sp := fun vs H Q _ => ∃ (p : Addr) (m a b : Int), vs = [.ref p, .int m] ∧ H p = some (.lst [.int a, .int b]) ∧ 0 ≤ a ∧ 0 ≤ b ∧ b < 2147483647 ∧ 0 < m ∧ m < 2 ^ 64 ∧
  ∀ (H' : Hp) (a' b' d : Int), 0 ≤ a' → 0 ≤ b' → b' < 2147483647 → H' p = some (.lst [.int a', .int b']) → Kp [p] H H' → 0 ≤ d → d < m → Q (.int d) H'
def spDraw : Sp := fun vs H Q _ => ∃ (p : Addr) (m : Int), vs = [.ref p, .int m] ∧ H p = some (PotO p) ∧ NoT H ∧ 0 < m ∧ m < 2 ^ 64 ∧ ∀ d : Int, 0 ≤ d → d < m → Q (.int d) H
theorem ok_draw0 (F : FnP K "_law_draw" s__law_draw f fd) (T : BltA mg) : FnOk P w K mg base CX0 1 f fd ["_law_pot_here", "_law_many"] spDraw0 := by
  refine F.ok sc__law_draw (fun vs H Q E h => ?_) (fun cdv A outer s H vs Q E hr h => ⟨_, PSs.nox 
(pss_cons (ps_if (pt_cmpR op_gt (pe_ix ix_list (pv 0) pe_int (fun _ _ => rfl)) pe_int (nomark _))
    (pss_cons (ps_asg (pe_callB call_divmodW (by rfl) T.b_divmod (by decide +kernel) (pa_cons (pe_ix ix_list (pv 0) pe_int (fun _ _ => rfl)) (pa_cons (pv 1) pa_nil))) (pg_tup rfl (pgs_cons (pg_sub (pv 0) pe_int set_list) (pgs_cons (pg_name (i := 2) sc__law_draw.nd rfl (.inl rfl)) pgs_nil))))
      (pss_one (ps_ret (pv 2))))
    pss_nil)
  (pss_cons (ps_asg (pe_op op_mod (pe_op op_add (pe_op op_mul (pe_ix ix_list (pv 0) pe_int (fun _ _ => rfl)) pe_int) pe_int) pe_int) (pg_sub (pv 0) pe_int set_list))
  (pss_one (ps_ret (pe_op op_mod (pe_op op_fdiv (pe_op op_mod (pe_op op_mul (pe_ix ix_list (pv 0) pe_int (fun _ _ => rfl)) (pe_ix ix_list (pv 0) pe_int (fun _ _ => rfl))) pe_int) pe_int) (pv 1)))))), ?_⟩)
  · obtain ⟨p, m, a, b, rfl, _⟩ := h
    rfl
  · obtain ⟨p, m, a, b, rfl, hp, ha, hb, hb2, hm, hm2, q⟩ := h
    walk_at "ss"
    refine st_ixL (sqL_of hp) rfl ?_
    walk_at "ss"
    refine ite2 (fun c => ?_) (fun c => ?_)
    · walk_at "ss"
      refine st_ixL (sqL_of hp) rfl ?_
      walk_at "ss"
      refine ⟨_, _, rfl, cdivP hm hm2, fun t nt => ?_⟩
      refine st_gtup (sqT_of upd_same) rfl ?_
      walk_at "ss"
      refine st_setL (old_upd nt hp) rfl ?_
      walk_at "ss"
      refine q _ (a / m) b (a % m) (Int.ediv_nonneg ha (by omega)) hb hb2 (by rw [upd_same]; rfl) (((Kp.refl H).new nt).mut (by simp)) (Int.emod_nonneg _ (by omega)) (Int.emod_lt_of_pos _ hm)
    · walk_at "ss"
      refine st_ixL (sqL_of hp) rfl ?_
      walk_at "ss"
      refine st_I (Or.inr ⟨by decide, by decide⟩) ?_
      walk_at "ss"
      refine st_I (by show (0 : Int) < 2147483647; decide) ?_
      walk_at "ss"
      refine st_setL hp rfl ?_
      have h0 : 0 ≤ (b * 48271 + 30011) % 2147483647 := Int.emod_nonneg _ (by decide)
      have h1 : (b * 48271 + 30011) % 2147483647 < 2147483647 := Int.emod_lt_of_pos _ (by decide)
      revert h0 h1
      generalize (b * 48271 + 30011) % 2147483647 = c1
      intro h0 h1
      walk_at "ss"
      refine st_ixL (sqL_of upd_same) rfl ?_
      walk_at "ss"
      refine st_ixL (sqL_of upd_same) rfl ?_
      walk_at "ss"
      refine st_I (Or.inl ⟨by omega, by omega⟩) ?_
      walk_at "ss"
      refine st_I (by show (0 : Int) < 2147483629; decide) ?_
      walk_at "ss"
      refine st_I ⟨by decide, by decide⟩ ?_
      walk_at "ss"
      refine st_I (show (0 : Int) < m from hm) ?_
      exact q _ a c1 _ ha h0 h1 (by rw [upd_same]; rfl) ((Kp.refl H).mut (by simp)) (Int.emod_nonneg _ (by omega)) (Int.emod_lt_of_pos _ hm)
theorem ok_draw (F : FnP K "_law_draw" s__law_draw f fd) (T : BltA mg) : FnOk P w K mg base CX0 1 f fd ["_law_pot_here", "_law_many"] spDraw := by
  refine fn_pot (ok_draw0 F T) fun vs H Q E h => ?_
  obtain ⟨p, m, rfl, hp, nt, hm, hm2, q⟩ := h
  refine ⟨p, hp, fun a b ha hb hb2 => ⟨p, m, a, b, rfl, upd_same, ha, hb, hb2, hm, hm2, fun H' a' b' d h1 h2 h3 h4 h5 h6 h7 => ⟨a', b', h1, h2, h3, h4, H, Fg.back (fun c o e => ?_) nt, q d h6 h7⟩⟩⟩
  by_cases z : c = p
  · rw [z, upd_same, ← e, z]
    exact hp.symm
  · exact oth_upd z (h5 c o (oth_upd z e) (by simp [z]))
def spPot0 (K : PySem.W.Frag) : Sp := fun vs H Q _ => ∃ (l : Addr) (ns : List Int) (k : Int), vs = [.ref l, .int k] ∧ SqL K H l (ns.map V.int) ∧ 0 ≤ k ∧ k < 1000 ∧
  ∀ (p : Addr) (a b : Int), H p = none → 0 ≤ a → 0 ≤ b → b < 2147483647 → Q (.ref p) (upd H p (.lst [.int a, .int b]))
def spPot (K : PySem.W.Frag) : Sp := fun vs H Q _ => ∃ (l : Addr) (ns : List Int) (k : Int), vs = [.ref l, .int k] ∧ SqL K H l (ns.map V.int) ∧ 0 ≤ k ∧ k < 1000 ∧ NoT H ∧ ∀ p : Addr, H p = none → Q (.ref p) (upd H p (PotO p))
theorem ok_pot0 (F : FnP K "_law_pot" s__law_pot f fd) (T : BltA mg) : FnOk P w K mg base CX0 1 f fd ["_law_script", "_law_k"] (spPot0 K) := by
  refine F.ok sc__law_pot (fun vs H Q E h => ?_) (fun cdv A outer s H vs Q E hr h => ⟨_, PSs.nox 
(pss_cons (ps_set (i := 2) sc__law_pot.nd rfl (.inl rfl) (pe_ifExp (pt_cmpR op_lt (pv 1) (pe_callB call_len_seq (by rfl) T.b_len PySem.boot_len (pa_cons (pv 0) pa_nil)) (nomark _)) (pe_ix ix_list (pv 0) (pv 1) (fun _ _ => rfl)) pe_int))
  (pss_one (ps_ret (pe_lst (pa_cons (pe_callB (call_max2 rfl) (by rfl) T.b_max (by decide +kernel) (pa_cons pe_int (pa_cons (pe_op op_sub (pe_callB call_abs (by rfl) T.b_abs (by decide +kernel) (pa_cons (pv 2) pa_nil)) (pe_op op_pow pe_int pe_int)) pa_nil))) (pa_cons (pe_op op_mod (pe_op op_add (pe_op op_add (pe_op op_mul (pe_op op_mod (pe_callB call_abs (by rfl) T.b_abs (by decide +kernel) (pa_cons (pv 2) pa_nil)) pe_int) pe_int) (pe_op op_mul pe_int (pv 1))) pe_int) pe_int) pa_nil)))))), ?_⟩)
  · obtain ⟨l, ns, k, rfl, _⟩ := h
    rfl
  · obtain ⟨l, ns, k, rfl, hl, hk, hk2, q⟩ := h
    walk_at "ss"
    refine ⟨_, _, rfl, Or.inl hl, ?_⟩
    walk_at "ss"
    have key : ∀ c : Int, (tRet (tLst (tCons (tCB (fun xs H Q => ∃ i j, xs = [V.int i, V.int j] ∧ Q (.int (if j > i then j else i)) H) (tCons (tC (.int 0)) (tCons (tOp (rI0 fun i j => .int (i - j)) (tCB (fun xs H Q => ∃ i, xs = [V.int i] ∧ Q (.int (if i < 0 then -i else i)) H) (tCons (tVar 2) tNil)) (tOp (rI CPow fun i j => .int (i ^ j.toNat)) (tC (.int 10)) (tC (.int 18)))) tNil))) (tCons (tOp (rI (fun _ j => 0 < j) fun i j => .int (i % j)) (tOp (rI0 fun i j => .int (i + j)) (tOp (rI0 fun i j => .int (i + j)) (tOp (rI CMul fun i j => .int (i * j)) (tOp (rI (fun _ j => 0 < j) fun i j => .int (i % j)) (tCB (fun xs H Q => ∃ i, xs = [V.int i] ∧ Q (.int (if i < 0 then -i else i)) H) (tCons (tVar 2) tNil)) (tC (.int 2147483579))) (tC (.int 44021))) (tOp (rI CMul fun i j => .int (i * j)) (tC (.int 6151)) (tVar 1))) (tC (.int 97))) (tC (.int 2147483647))) tNil)))) { nx := fun _ H' => Q .non H', rt := Q } [some (.ref l), some (.int k), some (.int c)] H := by
      intro c
      walk_at "ss"
      refine ⟨_, rfl, ?_⟩
      walk_at "ss"
      refine st_I ⟨by decide, by decide, by decide⟩ ?_
      walk_at "ss"
      refine ⟨_, _, rfl, ?_⟩
      walk_at "ss"
      refine ⟨_, rfl, ?_⟩
      walk_at "ss"
      refine st_I (by show (0 : Int) < 2147483579; decide) ?_
      walk_at "ss"
      refine st_I (Or.inr ⟨by decide, by decide⟩) ?_
      walk_at "ss"
      refine st_I (Or.inl ⟨by decide, by decide⟩) ?_
      walk_at "ss"
      refine st_I (by show (0 : Int) < 2147483647; decide) ?_
      refine ⟨(by show 2 ≤ sizeLine; decide), fun p np => q p _ _ np ?_ (Int.emod_nonneg _ (by decide)) (Int.emod_lt_of_pos _ (by decide))⟩
      split <;> omega
    refine ite2 (fun c => ?_) (fun c => ?_)
    · walk_at "ss"
      have hk3 : k.toNat < ns.length := by
        have c1 := of_decide_eq_true c
        rw [List.length_map] at c1
        omega
      refine st_ixL hl (at_of (j := k.toNat) (v := .int ns[k.toNat]) (by omega) (by rw [List.getElem?_map, List.getElem?_eq_getElem hk3]; rfl)) ?_
      exact key _
    · exact key 0
theorem ok_pot (F : FnP K "_law_pot" s__law_pot f fd) (T : BltA mg) : FnOk P w K mg base CX0 1 f fd ["_law_script", "_law_k"] (spPot K) := by
  refine fn_mkpot (ok_pot0 F T) fun vs H Q E h => ?_
  obtain ⟨l, ns, k, rfl, hl, hk, hk2, nt, q⟩ := h
  refine ⟨l, ns, k, rfl, hl, hk, hk2, fun p a b np ha hb hb2 => ⟨p, a, b, ha, hb, hb2, np, upd_same, upd H p (PotO p), ?_, q p np⟩⟩
  rw [upd_upd]
  exact Fg.one ((Kp.refl (ls := []) H).new np).same nt np upd_same trivial (fun _ => trivial)
end
end K22
namespace K22
open PySem PySem.Spec PyProof.Rows L2 TB
open C8 (Cal pe_c Mak pe_mk Met pe_mt pe_mt0 pss_cut tCut pe_gc)
theorem sc__law_name : FnScope ["_law_pot_here", "_law_taken", "_law_letters", "_law_size", "_law_word", "_law_k", "_law_letter"] ["_law_pot_here", "_law_taken"] (defScope s__law_name) := ⟨rfl, rfl, rfl, by decide +kernel, rfl, by decide +kernel, by decide +kernel⟩
section
variable {P : Program} {w : World} {K : PySem.W.Frag} {mg : Str → Option Value} {base : Heap} {f : Addr} {fd : FuncData}
/-- a name is drawn that is not among ws, and put behind them -/
def spName : Sp := fun vs H Q _ => ∃ (p l : Addr) (ws : List Str), vs = [.ref p, .ref l] ∧ H p = some (PotO p) ∧ H l = some (.lst (ws.map V.str)) ∧ NoT H ∧ ws.length < 26 ∧
  ∀ z : Str, Nm z → z ∉ ws → Q (.str z) (upd H l (.lst ((ws ++ [z]).map V.str)))
def spName0 : Sp := fun vs H Q _ => ∃ (p l : Addr) (ws : List Str), vs = [.ref p, .ref l] ∧ H p = some (PotO p) ∧ H l = some (.lst (ws.map V.str)) ∧ NoT H ∧ ws.length < 26 ∧
  ∀ (z : Str) (H' : Hp), Nm z → z ∉ ws → Kp [l] H H' → H' l = some (.lst ((ws ++ [z]).map V.str)) → Q (.str z) H'
theorem ok_name0 (F : FnP K "_law_name" s__law_name f fd) (T : BltA mg) (c__law_draw : Cal P w K mg base 1 "_law_draw" spDraw []) : FnOk P w K mg base CX0 2 f fd ["_law_pot_here", "_law_taken"] spName0 := by
  refine F.ok sc__law_name (fun vs H Q E h => ?_) (fun cdv A outer s H vs Q E hr h => ⟨_, PSs.nox 
(pss_cons (ps_set (i := 2) sc__law_name.nd rfl (.inr rfl) pe_str)
  (pss_cons (ps_set (i := 3) sc__law_name.nd rfl (.inl rfl) (pe_ix (ix_listK K) (pe_lst (pa_cons pe_int (pa_cons pe_int (pa_cons pe_int (pa_cons pe_int (pa_cons (pe_op op_add pe_int (pe_c c__law_draw hr (by decide) (by rfl) (pa_cons (pv 0) (pa_cons pe_int pa_nil)))) pa_nil)))))) (pe_c c__law_draw hr (by decide) (by rfl) (pa_cons (pv 0) (pa_cons pe_int pa_nil))) (fun _ _ => rfl)))
  (pss_cons (ps_set (i := 4) sc__law_name.nd rfl (.inl rfl) (pe_joinK K pe_str (pe_lc (own := [("_law_k", 5)]) (tt := tYes) rfl sc__law_name.nd (pi_range1 (by rfl) T.b_range (pa_cons (pv 3) pa_nil)) (blkOk_by (N := ["_law_pot_here", "_law_taken", "_law_letters", "_law_size", "_law_word", "_law_k", "_law_letter"]) (sc := defScope s__law_name) (by decide +kernel)) (fun _ _ _ _ _ => pg_name (i := 5) sc__law_name.nd rfl (Or.inl rfl)) (fun _ _ _ _ _ => pts_nil) (fun _ _ _ _ _ => (pe_ix ix_str (pv 2) (pe_c c__law_draw hr (by decide) (by rfl) (pa_cons (pv 0) (pa_cons pe_int pa_nil))) (fun _ _ => rfl))))))
  (pss_cut (ps_if (pt_cmpR op_eq (pe_c c__law_draw hr (by decide) (by rfl) (pa_cons (pv 0) (pa_cons pe_int pa_nil))) pe_int (nomark _))
    (pss_one (ps_set (i := 4) sc__law_name.nd rfl (.inl rfl) (pe_ix (ix_listK K) (pe_lst (pa_cons pe_str (pa_cons pe_str (pa_cons pe_str (pa_cons pe_str (pa_cons pe_str (pa_cons pe_str (pa_cons pe_str (pa_cons pe_str pa_nil))))))))) (pe_c c__law_draw hr (by decide) (by rfl) (pa_cons (pv 0) (pa_cons pe_int pa_nil))) (fun _ _ => rfl))))
    pss_nil)
  (pss_cut (ps_if (pt_cmpR (op_inK K) (pv 4) (pv 1) rfl)
    (pss_one (ps_set (i := 4) sc__law_name.nd rfl (.inl rfl) (pe_ix (ix_listK K) (pe_lc (own := [("_law_letter", 6)]) rfl sc__law_name.nd (pi_str (pv 2)) (blkOk_by (N := ["_law_pot_here", "_law_taken", "_law_letters", "_law_size", "_law_word", "_law_k", "_law_letter"]) (sc := defScope s__law_name) (by decide +kernel)) (fun _ _ _ _ _ => pg_name (i := 6) sc__law_name.nd rfl (Or.inl rfl)) (fun _ _ _ _ _ => pts_one (pt_cmpR (op_ninK K) (pv 6) (pv 1) rfl)) (fun _ _ _ _ _ => (pv 6))) pe_int (fun _ _ => rfl))))
    pss_nil)
  (pss_cons (ps_expr (kBM K (pe_bm PySem.F.plainAttrs_list PySem.F.slot_list_append PySem.F.type_list_append mt_append (pv 1) (pa_cons (pv 4) pa_nil))))
  (pss_one (ps_ret (pv 4))))))))), ?_⟩)
  · obtain ⟨p, l, ws, rfl, _⟩ := h
    rfl
  · obtain ⟨p, l, ws, rfl, hp, hl, nt, hw, q⟩ := h
    walk_at "ss"
    refine ⟨p, 8, rfl, hp, nt, by decide, by decide, fun d0 h0 h1 => ?_⟩
    walk_at "ss"
    refine ⟨by show 5 ≤ sizeLine; decide, fun l1 n1 => ?_⟩
    walk_at "ss"
    have hp1 := old_upd (o := .lst [.int 1, .int 1, .int 2, .int 8, .int (1 + d0)]) n1 hp
    have hl1 := old_upd (o := .lst [.int 1, .int 1, .int 2, .int 8, .int (1 + d0)]) n1 hl
    have nt1 : NoT (upd H l1 (.lst [.int 1, .int 1, .int 2, .int 8, .int (1 + d0)])) := nt.upd trivial
    have k1 : Kp [l] H (upd H l1 (.lst [.int 1, .int 1, .int 2, .int 8, .int (1 + d0)])) := (Kp.refl H).new n1
    refine ⟨p, 5, rfl, hp1, nt1, by decide, by decide, fun d1 h2 h3 => ?_⟩
    walk_at "ss"
    obtain ⟨sv, hsv, esv⟩ := at_some (xs := [.int 1, .int 1, .int 2, .int 8, .int (1 + d0)]) h2 h3
    refine st_ixL (sqL_of upd_same) esv ?_
    obtain ⟨n, rfl, hn1, hn2⟩ : ∃ n : Nat, sv = .int (n : Int) ∧ 1 ≤ n ∧ n ≤ 8 := by
      simp only [List.mem_cons, List.not_mem_nil, or_false] at hsv
      rcases hsv with rfl | rfl | rfl | rfl | rfl
      · exact ⟨1, rfl, by decide, by decide⟩
      · exact ⟨1, rfl, by decide, by decide⟩
      · exact ⟨2, rfl, by decide, by decide⟩
      · exact ⟨8, rfl, by decide, by decide⟩
      · exact ⟨(1 + d0).toNat, by rw [Int.toNat_of_nonneg (by omega)], by omega, by omega⟩
    generalize hH1 : upd H l1 (.lst [.int 1, .int 1, .int 2, .int 8, .int (1 + d0)]) = H1 at hp1 hl1 nt1 k1 ⊢
    walk_at "ss"
    -- the signs
    walk_at "ss"
    refine ⟨_, rfl, by omega, by omega, ?_⟩
    rw [Int.toNat_natCast]
    refine lc_walk wk_range (fun D i acc H' => ∃ cs : List Nat, acc = cs.map signV ∧ cs.length = i ∧ (∀ c ∈ cs, 97 ≤ c ∧ c ≤ 122) ∧ H' = upd H1 D (.lst acc)) (fun D nD => ⟨[], rfl, rfl, by simp, rfl⟩) (fun _ _ _ _ _ => trivial) ?_ ?_
    · rintro D i x acc H' nD hx ⟨cs, rfl, hi, hc, rfl⟩
      have hi8 : i < 8 := by
        have := (List.getElem?_eq_some_iff.mp hx).1
        rw [List.length_map, List.length_range] at this
        omega
      walk_at "ss"
      refine ⟨rfl, ?_⟩
      walk_at "ss"
      refine iteT ?_
      walk_at "ss"
      refine ⟨p, 26, rfl, old_upd nD hp1, nt1.upd trivial, by decide, by decide, fun d2 h4 h5 => ?_⟩
      obtain ⟨j, hj, rfl, ej⟩ := at_some' (xs := tl "abcdefghijklmnopqrstuvwxyz") h4 (by exact h5)
      refine st_ixS (by decide +kernel) ej ?_
      refine ⟨cs.map signV, upd_same, by rw [List.length_map]; exact small1000 (by omega), (cs ++ [(tl "abcdefghijklmnopqrstuvwxyz")[j]]).map signV, cs ++ [(tl "abcdefghijklmnopqrstuvwxyz")[j]], rfl, by simp [hi], ?_, ?_⟩
      · intro c hcc
        rcases List.mem_append.mp hcc with z | z
        · exact hc c z
        · rw [List.mem_singleton] at z
          subst z
          have all : ∀ c ∈ tl "abcdefghijklmnopqrstuvwxyz", 97 ≤ c ∧ c ≤ 122 := by decide +kernel
          exact all _ (List.getElem_mem hj)
      · rw [upd_upd, List.map_append]
        rfl
    · rintro D acc H' nD ⟨cs, rfl, hi, hc, rfl⟩
      rw [List.length_map, List.length_range] at hi
      have e1 : cs.map signV = (cs.map fun c => (⟨#[c]⟩ : Str)).map V.str := by rw [List.map_map]; rfl
      rw [e1]
      refine st_join (sqL_of upd_same) ?_ ?_
      · exact signs_fit (by omega)
      · walk_at "ss"
        rw [join_signs]
        have nm : Nm ⟨cs.toArray⟩ := ⟨by show 1 ≤ cs.toArray.toList.length; simp; omega, by show cs.toArray.toList.length ≤ 8; simp; omega, fun c hcc => hc c (by simpa [tl] using hcc)⟩
        have k2 : Kp [] H (upd H1 D (.lst ((cs.map fun c => (⟨#[c]⟩ : Str)).map V.str))) := by
          subst hH1
          exact ((Kp.refl H).new n1).new nD
        have nt2 : NoT (upd H1 D (.lst ((cs.map fun c => (⟨#[c]⟩ : Str)).map V.str))) := nt1.upd trivial
        generalize hH2 : upd H1 D (.lst ((cs.map fun c => (⟨#[c]⟩ : Str)).map V.str)) = H2 at k2 nt2 ⊢
        -- one of the words, or not
        refine ⟨fun σ' H' => ∃ z, Nm z ∧ σ' = [some (.ref p), some (.ref l), some (.str "abcdefghijklmnopqrstuvwxyz"), some (.int n), some (.str z), none, none] ∧ Kp [] H H' ∧ NoT H', ?_, ?_⟩
        · walk_at "ss"
          refine ⟨p, 12, rfl, k2.same _ _ hp, nt2, by decide, by decide, fun d3 h6 h7 => ?_⟩
          walk_at "ss"
          refine ite2 (fun c => ?_) (fun c => ?_)
          · walk_at "ss"
            refine ⟨by show 8 ≤ sizeLine; decide, fun l3 n3 => ?_⟩
            walk_at "ss"
            refine ⟨p, 8, rfl, old_upd n3 (k2.same _ _ hp), nt2.upd trivial, by decide, by decide, fun d4 h8 h9 => ?_⟩
            obtain ⟨sv2, hsv2, esv2⟩ := at_some (xs := [.str "take", .str "set", .str "quit", .str "come", .str "lock", .str "task", .str "done", .str "got"]) h8 h9
            refine st_ixL (sqL_of upd_same) esv2 ?_
            obtain ⟨z, rfl, hz⟩ : ∃ z, sv2 = .str z ∧ Nm z := by
              simp only [List.mem_cons, List.not_mem_nil, or_false] at hsv2
              rcases hsv2 with rfl | rfl | rfl | rfl | rfl | rfl | rfl | rfl <;> exact ⟨_, rfl, nm_of (by decide +kernel)⟩
            walk_at "ss"
            exact ⟨z, hz, rfl, k2.new n3, nt2.upd trivial⟩
          · walk_at "ss"
            exact ⟨_, nm, rfl, k2, nt2⟩
        · rintro σ' H3 ⟨z, hz, rfl, k3, nt3⟩
          -- a free letter, where it is taken
          refine ⟨fun σ' H' => ∃ z, Nm z ∧ z ∉ ws ∧ σ' = [some (.ref p), some (.ref l), some (.str "abcdefghijklmnopqrstuvwxyz"), some (.int n), some (.str z), none, none] ∧ Kp [] H H' ∧ NoT H', ?_, ?_⟩
          · walk_at "ss"
            refine st_in (sqL_of (k3.same _ _ hl)) rfl (TB.flat_strs ws) ?_
            walk_at "ss"
            rw [inV_strs]
            refine ite2 (fun c => ?_) (fun c => ?_)
            · walk_at "ss"
              refine ⟨_, rfl, ?_⟩
              refine lc_walk wk_str (fun D i acc H' => acc = ((abc.take i).filter (fun c => !decide ((⟨#[c]⟩ : Str) ∈ ws))).map signV ∧ H' = upd H3 D (.lst acc)) (fun D nD => ⟨rfl, rfl⟩) (fun _ _ _ _ _ => trivial) ?_ ?_
              · rintro D i x acc H' nD hx ⟨rfl, rfl⟩
                obtain ⟨c2, hc2, rfl⟩ : ∃ c2, abc[i]? = some c2 ∧ x = signV c2 := by
                  rw [List.getElem?_map] at hx
                  cases e3 : (tl "abcdefghijklmnopqrstuvwxyz")[i]? with
                  | none =>
                    rw [e3] at hx
                    exact nomatch hx
                  | some c2 =>
                    rw [e3] at hx
                    exact ⟨c2, e3, (Option.some.inj hx).symm⟩
                have et : (abc.take (i + 1)).filter (fun c => !decide ((⟨#[c]⟩ : Str) ∈ ws)) = (abc.take i).filter (fun c => !decide ((⟨#[c]⟩ : Str) ∈ ws)) ++ [c2].filter (fun c => !decide ((⟨#[c]⟩ : Str) ∈ ws)) := by
                  rw [List.take_add_one, hc2, List.filter_append]
                  rfl
                have hlen : (((abc.take i).filter (fun c => !decide ((⟨#[c]⟩ : Str) ∈ ws))).map signV).length < sizeLine := by
                  rw [List.length_map]
                  have l1 := List.length_filter_le (fun c => !decide ((⟨#[c]⟩ : Str) ∈ ws)) (abc.take i)
                  have l2 : (abc.take i).length ≤ abc.length := by rw [List.length_take]; omega
                  have l3 : abc.length = 26 := by decide +kernel
                  exact small1000 (by omega)
                walk_at "ss"
                refine ⟨rfl, ?_⟩
                walk_at "ss"
                refine st_nin (sqL_of (old_upd nD (k3.same _ _ hl))) rfl (TB.flat_strs ws) ?_
                walk_at "ss"
                rw [show signV c2 = V.str ⟨#[c2]⟩ from rfl, inV_strs]
                refine ite2 (fun c3 => ?_) (fun c3 => ?_)
                · walk_at "ss"
                  refine ⟨_, upd_same, hlen, _, rfl, ?_⟩
                  rw [upd_upd, et, show [c2].filter (fun c => !decide ((⟨#[c]⟩ : Str) ∈ ws)) = [c2] from List.filter_cons_of_pos (p := fun c => !decide ((⟨#[c]⟩ : Str) ∈ ws)) c3, List.map_append]
                  rfl
                · refine ⟨_, rfl, ?_⟩
                  rw [et, show [c2].filter (fun c => !decide ((⟨#[c]⟩ : Str) ∈ ws)) = [] from List.filter_cons_of_neg (p := fun c => !decide ((⟨#[c]⟩ : Str) ∈ ws)) c3, List.append_nil]
              · rintro D acc H' nD ⟨rfl, rfl⟩
                obtain ⟨c4, r4, e4, hc4, hn4⟩ := free_letter hw
                have el : abc.take ((tl "abcdefghijklmnopqrstuvwxyz").map signV).length = abc := List.take_of_length_le (by rw [List.length_map]; exact Nat.le_refl _)
                rw [el, e4]
                walk_at "ss"
                refine st_ixL (sqL_of upd_same) (atI_nat (j := 0) rfl) ?_
                walk_at "ss"
                exact ⟨⟨#[c4]⟩, abc_nm hc4, hn4, rfl, k3.new nD, nt3.upd trivial⟩
            · walk_at "ss"
              exact ⟨z, hz, by simpa using c, rfl, k3, nt3⟩
          · rintro σ' H4 ⟨z, hz, hz2, rfl, k4, nt4⟩
            have hl4 := k4.same _ _ hl
            walk_at "ss"
            refine ⟨Or.inl ⟨rfl, _, sqL_of hl4⟩, ?_⟩
            walk_at "ss"
            refine st_append hl4 (by rw [List.length_map]; exact small1000 (by omega)) ?_
            walk_at "ss"
            refine q z _ hz hz2 (fun b o e m => ?_) ?_
            · exact oth_upd (fun z2 => m (by rw [z2]; simp)) (k4.same _ _ e)
            · rw [upd_same, List.map_append]
              rfl
theorem ok_name (F : FnP K "_law_name" s__law_name f fd) (T : BltA mg) (c__law_draw : Cal P w K mg base 1 "_law_draw" spDraw []) : FnOk P w K mg base CX0 2 f fd ["_law_pot_here", "_law_taken"] spName := by
  refine fn_fg (ok_name0 F T c__law_draw) fun vs H Q E h => ?_
  obtain ⟨p, l, ws, rfl, hp, hl, nt, hw, q⟩ := h
  exact ⟨p, l, ws, rfl, hp, hl, nt, hw, fun z H' h1 h2 k e => ⟨_, Fg.mut1 k nt hl e trivial (fun _ => trivial) (fun y => by intro z; cases z), q z h1 h2⟩⟩
end
end K22
namespace K22
open PySem PySem.Spec PyProof.Rows L2 TB LamX NdefX L3
open C8 (Cal pe_c Mak pe_mk Met pe_mt pe_mt0 pss_cut tCut pe_gc)
theorem sc_is_name : FnScope ["thing", "sign"] ["thing"] (defScope s_is_name) := ⟨rfl, rfl, rfl, by decide +kernel, rfl, by decide +kernel, by decide +kernel⟩
theorem sc_is_number : FnScope ["thing", "least", "most"] ["thing", "least", "most"] (defScope s_is_number) := ⟨rfl, rfl, rfl, by decide +kernel, rfl, by decide +kernel, by decide +kernel⟩
theorem sc_is_part : FnScope ["thing", "kind", "locks", "names"] ["thing", "kind", "locks", "names"] (defScope s_is_part) := ⟨rfl, rfl, rfl, by decide +kernel, rfl, by decide +kernel, by decide +kernel⟩
section
variable {P : Program} {w : World} {K : PySem.W.Frag} {mg : Str → Option Value} {base : Heap} {f : Addr} {fd : FuncData} {tb : List (Addr × Str)}
theorem ok_is_name (F : FnP K "is_name" s_is_name f fd) (T : BltA mg) (Z : PlC mg) : FnOk P w K mg base CX0 1 f fd ["thing"] (lsp ⟨K, tb⟩ none pIsName) := by
  refine F.ok sc_is_name (lsp_len (by rintro ds Q3 ⟨t, rfl, _⟩; rfl)) (fun cdv A outer s H vs Q E hr h => ⟨_, PSs.nox
(pss_cons (ps_if (PW.pt (pw_or (pt_not (pt_val (pe_callB (call_isiX K) (by rfl) T.b_isinstance (by decide +kernel) (pa_cons (pv 0) (pa_cons (pe_bltn (v := .ty "str") (u := .type "str") (by rfl) T.b_str (by decide +kernel) rfl) pa_nil))))) (pw_or1 (pt_not (pt_chain op_le op_le pe_int (pe_callB call_lenTx (by rfl) T.b_len PySem.boot_len (pa_cons (pv 0) pa_nil)) (pe_gc (by rfl) Z.v_MOST_LETTERS))))))
    (pss_one (ps_ret pe_bl))
    pss_nil)
  (pss_one (ps_ret (pe_callB (cr_allK K) (by rfl) T.b_all (by decide +kernel) (pa_cons (pe_lc (own := [("sign", 1)]) (tt := tYes) rfl sc_is_name.nd (pi_str (pv 0)) (blkOk_by (N := ["thing", "sign"]) (sc := defScope s_is_name) (by decide +kernel)) (fun _ _ _ _ _ => pg_name (i := 1) sc_is_name.nd rfl (Or.inl rfl)) (fun _ _ _ _ _ => pts_nil) (fun _ _ _ _ _ => (pe_cmpR op_inSg (pv 1) (pe_gc (by rfl) Z.v_LETTERS) rfl))) pa_nil)))))
, run3' ?go h⟩)
  case go =>
    refine ⟨_, (by walk_at "li"), ?_⟩
    rintro ds Q3 ⟨t, rfl, pl, sz, q⟩
    walk_at "pp"
    refine w_isS pl ?_
    walk_at "pp"
    cases e : isS t with
    | false =>
      walk_at "pp"
      refine q false ⟨(fun z => nomatch z), fun ⟨z, e2, _⟩ => ?_⟩
      rw [e2] at e
      exact nomatch e
    | true =>
      obtain ⟨z, rfl⟩ := isS_is e
      walk_at "pp"
      refine w_lenTx (sz z rfl) ?_
      walk_at "pp"
      have no : ¬ Nm z → Q3 (.val (.bl false)) none := fun n => q false ⟨(fun z => nomatch z), fun ⟨y, e2, hy⟩ => by
        obtain rfl : z = y := str_injD e2
        exact absurd hy n⟩
      have lt : (tl z).length = z.length := by rw [show tl z = z.cps.toList from rfl, Array.length_toList]; rfl
      by_cases c1 : (1 : Int) ≤ z.length
      · rw [decide_eq_true c1]
        walk_at "pp"
        by_cases c2 : (z.length : Int) ≤ 8
        · rw [decide_eq_true c2]
          walk_at "pp"
          refine LcP_map (xs := z.cps.toList) (enc := fun k => D.str ⟨#[k]⟩) (fun k => .bl (decide (k ∈ ("abcdefghijklmnopqrstuvwxyz" : Str).cps.toList))) (small1000 ?_) ?_ ?_
          · rw [← lt] at c2
            have : z.cps.toList.length ≤ 8 := by exact_mod_cast c2
            omega
          · intro k hk Y N hY
            walk_at "pp"
            walk_at "pp"
            exact hY _ rfl
          rw [show (z.cps.toList.map fun k => D.bl (decide (k ∈ ("abcdefghijklmnopqrstuvwxyz" : Str).cps.toList))) = (z.cps.toList.map fun k => decide (k ∈ ("abcdefghijklmnopqrstuvwxyz" : Str).cps.toList)).map D.bl by rw [List.map_map]; rfl]
          walk_at "pp"
          refine q _ ?_
          rw [List.all_map, List.all_eq_true]
          constructor
          · intro h
            refine ⟨z, rfl, by rw [lt]; exact_mod_cast c1, by rw [lt]; exact_mod_cast c2, fun c hc => ?_⟩
            exact abc_iff.mp (of_decide_eq_true (h c hc))
          · rintro ⟨y, e2, hy⟩ c hc
            obtain rfl : z = y := str_injD e2
            exact decide_eq_true (abc_iff.mpr (hy.2.2 c hc))
        · rw [decide_eq_false c2]
          walk_at "pp"
          exact no fun h => c2 (by have := h.2.1; rw [lt] at this; exact_mod_cast this)
      · rw [decide_eq_false c1]
        walk_at "pp"
        exact no fun h => c1 (by have := h.1; rw [lt] at this; exact_mod_cast this)
theorem ok_is_number (F : FnP K "is_number" s_is_number f fd) (T : BltA mg) : FnOk P w K mg base CX0 1 f fd ["thing", "least", "most"] (lsp ⟨K, tb⟩ none pIsNum) := by
  refine F.ok sc_is_number (lsp_len (by rintro ds Q3 ⟨t, lo, hi, rfl, _⟩; rfl)) (fun cdv A outer s H vs Q E hr h => ⟨_, PSs.nox
(pss_one (ps_ret (pe_and (pe_callB (call_isiX K) (by rfl) T.b_isinstance (by decide +kernel) (pa_cons (pv 0) (pa_cons (pe_bltn (v := .ty "int") (u := .type "int") (by rfl) T.b_int (by decide +kernel) rfl) pa_nil))) (pe_and (pe_not (pe_callB (call_isiX K) (by rfl) T.b_isinstance (by decide +kernel) (pa_cons (pv 0) (pa_cons (pe_bltn (v := .ty "bool") (u := .type "bool") (by rfl) T.b_bool (by decide +kernel) rfl) pa_nil)))) (pe_one (pe_chain op_le op_le (pv 1) (pv 0) (pv 2)))))))
, run3' ?go h⟩)
  case go =>
    refine ⟨_, (by walk_at "li"), ?_⟩
    rintro ds Q3 ⟨t, lo, hi, rfl, pl, q⟩
    walk_at "pp"
    refine w_isI pl ?_
    walk_at "pp"
    cases e : isI t with
    | false =>
      walk_at "pp"
      have : numB t lo hi = false := by cases t <;> first | rfl | (cases e; done)
      rw [this] at q
      exact q
    | true =>
      walk_at "pp"
      refine w_isBo pl ?_
      walk_at "pp"
      cases e2 : isBo t with
      | true =>
        walk_at "pp"
        have : numB t lo hi = false := by cases t <;> first | rfl | (cases e2; done)
        rw [this] at q
        exact q
      | false =>
        refine iteT ?_
        obtain ⟨i, rfl⟩ : ∃ i, t = .int i := by cases t <;> first | exact ⟨_, rfl⟩ | (cases e; done) | (cases e2; done)
        walk_at "pp"
        have q : Q3 (.val (.bl (decide (lo ≤ i) && decide (i ≤ hi)))) none := q
        by_cases c1 : lo ≤ i
        · rw [decide_eq_true c1] at q ⊢
          rw [Bool.true_and] at q
          walk_at "pp"
          exact q
        · rw [decide_eq_false c1] at q ⊢
          rw [Bool.false_and] at q
          walk_at "pp"
          exact q
theorem ok_is_part (F : FnP K "is_part" s_is_part f fd) (T : BltA mg) (Z : PlC mg) (c_is_number : Cal P w K mg base 1 "is_number" (lsp ⟨K, tb⟩ none pIsNum) []) : FnOk P w K mg base CX0 2 f fd ["thing", "kind", "locks", "names"] (lsp ⟨K, tb⟩ none pIsPart) := by
  refine F.ok sc_is_part (lsp_len (by rintro ds Q3 ⟨t, k, ls, ns, rfl, _⟩; rfl)) (fun cdv A outer s H vs Q E hr h => ⟨_, PSs.nox
(pss_cons (ps_if (pt_cmpR op_eq (pv 1) (pe_gc (by rfl) Z.v_NUMBER) (nomark _))
    (pss_one (ps_ret (pe_c c_is_number hr (by decide) (by rfl) (pa_cons (pv 0) (pa_cons (pe_un un_neg (pe_gc (by rfl) Z.v_FARTHEST)) (pa_cons (pe_gc (by rfl) Z.v_FARTHEST) pa_nil))))))
    pss_nil)
  (pss_cons (ps_if (pt_cmpR op_eq (pv 1) (pe_gc (by rfl) Z.v_MANY) (nomark _))
    (pss_one (ps_ret (pe_c c_is_number hr (by decide) (by rfl) (pa_cons (pv 0) (pa_cons pe_int (pa_cons (pe_gc (by rfl) Z.v_MOST_DEEDS) pa_nil))))))
    pss_nil)
  (pss_one (ps_ret (pe_and (pe_callB (call_isiX K) (by rfl) T.b_isinstance (by decide +kernel) (pa_cons (pv 0) (pa_cons (pe_bltn (v := .ty "str") (u := .type "str") (by rfl) T.b_str (by decide +kernel) rfl) pa_nil))) (pe_one (pe_cmpR (op_inK K) (pv 0) (pe_ifExp (pt_cmpR op_eq (pv 1) (pe_gc (by rfl) Z.v_LOCK) (nomark _)) (pv 2) (pv 3)) rfl)))))))
, run3' ?go h⟩)
  case go =>
    refine ⟨_, (by walk_at "li"), ?_⟩
    rintro ds Q3 ⟨t, k, ls, ns, rfl, pl, q⟩
    unfold partB at q
    walk_at "pp"
    by_cases c1 : k = "number"
    · rw [if_pos c1] at q
      rw [decide_eq_true c1]
      walk_at "pp"
      exact ⟨t, _, _, rfl, pl, by walk_at "pp"; exact q⟩
    rw [if_neg c1] at q
    rw [decide_eq_false c1]
    walk_at "pp"
    by_cases c2 : k = "many"
    · rw [if_pos c2] at q
      rw [decide_eq_true c2]
      walk_at "pp"
      exact ⟨t, _, _, rfl, pl, by walk_at "pp"; exact q⟩
    rw [if_neg c2] at q
    rw [decide_eq_false c2]
    walk_at "pp"
    refine w_isS pl ?_
    walk_at "pp"
    cases e : isS t with
    | false =>
      walk_at "pp"
      cases t <;> first | exact q | (cases e; done)
    | true =>
      obtain ⟨z, rfl⟩ := isS_is e
      walk_at "pp"
      by_cases c3 : k = "lock"
      · rw [decide_eq_true c3]
        rw [if_pos c3] at q
        walk_at "pp"
        exact q
      · rw [decide_eq_false c3]
        rw [if_neg c3] at q
        walk_at "pp"
        exact q
end
end K22
namespace K22
open PySem PySem.Spec PyProof.Rows L2 TB LamX NdefX L3
open C8 (Cal pe_c Mak pe_mk Met pe_mt pe_mt0 pss_cut tCut pe_gc)
theorem sc_is_deed : FnScope ["thing", "locks", "names", "word", "parts", "part", "kind"] ["thing", "locks", "names"] (defScope s_is_deed) := ⟨rfl, rfl, rfl, by decide +kernel, rfl, by decide +kernel, by decide +kernel⟩
section
variable {P : Program} {w : World} {K : PySem.W.Frag} {mg : Str → Option Value} {base : Heap} {f dS : Addr} {fd : FuncData} {tb : List (Addr × Str)} {esS : Array DictEntry} {nS : Nat}
theorem ok_is_deed (F : FnP K "is_deed" s_is_deed f fd) (T : BltA mg) (kd_SHAPES : KDict K w dS esS nS) (v_SHAPES : ∃ u, mg "SHAPES" = some u ∧ RelV (.ref dS) u) (sh : ShT K dS) (c_is_part : Cal P w K mg base 2 "is_part" (lsp ⟨K, tb⟩ none pIsPart) []) : FnOk P w K mg base CX0 3 f fd ["thing", "locks", "names"] (lsp ⟨K, tb⟩ none pIsDeed) := by
  refine F.ok sc_is_deed (lsp_len (by rintro ds Q3 ⟨t, ls, ns, rfl, _⟩; rfl)) (fun cdv A outer s H vs Q E hr h => ⟨_, PSs.nox
(pss_cons (ps_if (PW.pt (pw_or (pt_not (pt_val (pe_callB (call_isiX K) (by rfl) T.b_isinstance (by decide +kernel) (pa_cons (pv 0) (pa_cons (pe_bltn (v := .ty "tuple") (u := .type "tuple") (by rfl) T.b_tuple (by decide +kernel) rfl) pa_nil))))) (pw_or (pt_cmpR op_eq (pe_callB (call_lenK K) (by rfl) T.b_len PySem.boot_len (pa_cons (pv 0) pa_nil)) pe_int (nomark _)) (pw_or1 (pt_not (pt_val (pe_callB (call_isiX K) (by rfl) T.b_isinstance (by decide +kernel) (pa_cons (pe_ix (ix_tupK K) (pv 0) pe_int (fun _ _ => rfl)) (pa_cons (pe_bltn (v := .ty "str") (u := .type "str") (by rfl) T.b_str (by decide +kernel) rfl) pa_nil)))))))))
    (pss_one (ps_ret pe_bl))
    pss_nil)
  (pss_cons (ps_asg (pv 0) (StarT.pg_star K rfl (pg_name (i := 3) sc_is_deed.nd rfl (.inl rfl)) (pg_name (i := 4) sc_is_deed.nd rfl (.inl rfl))))
  (pss_cons (ps_if (PW.pt (pw_or (pt_cmpR (op_ninKd K kd_SHAPES) (pv 3) (pe_gc (by rfl) v_SHAPES) rfl) (pw_or1 (pt_cmpR op_ne (pe_callB (call_lenK K) (by rfl) T.b_len PySem.boot_len (pa_cons (pv 4) pa_nil)) (pe_callB (call_lenK K) (by rfl) T.b_len PySem.boot_len (pa_cons (pe_ix (ix_kd K kd_SHAPES) (pe_gc (by rfl) v_SHAPES) (pv 3) (fun _ _ => rfl)) pa_nil)) (nomark _)))))
    (pss_one (ps_ret pe_bl))
    pss_nil)
  (pss_one (ps_ret (pe_callB (cr_allK K) (by rfl) T.b_all (by decide +kernel) (pa_cons (pe_lc (own := [("part", 5), ("kind", 6)]) (tt := tYes) rfl sc_is_deed.nd (ZipLT.pi_zipM K (by rfl) T.b_zip (pa_cons (pv 4) (pa_cons (pe_ix (ix_kd K kd_SHAPES) (pe_gc (by rfl) v_SHAPES) (pv 3) (fun _ _ => rfl)) pa_nil))) (blkOk_by (N := ["thing", "locks", "names", "word", "parts", "part", "kind"]) (sc := defScope s_is_deed) (by decide +kernel)) (fun _ _ _ _ _ => kTup K 2 (pg_tup rfl (pgs_cons (pg_name (i := 5) sc_is_deed.nd rfl (Or.inl rfl)) (pgs_cons (pg_name (i := 6) sc_is_deed.nd rfl (Or.inl rfl)) pgs_nil)))) (fun _ _ _ _ _ => pts_nil) (fun _ _ _ _ _ => (pe_c c_is_part hr (by decide) (by rfl) (pa_cons (pv 5) (pa_cons (pv 6) (pa_cons (pv 1) (pa_cons (pv 2) pa_nil))))))) pa_nil)))))))
, run3' ?go h⟩)
  case go =>
    refine ⟨_, (by walk_at "li"), ?_⟩
    rintro ds Q3 ⟨t, ls, ns, rfl, ⟨pl, its⟩, q⟩
    walk_at "pp"
    refine w_isT pl ?_
    walk_at "pp"
    have no : deedB t ls ns = false → Q3 (.val (.bl false)) none := fun e => by rw [e] at q; exact q
    cases e : isT t with
    | false =>
      walk_at "pp"
      exact no (by cases t <;> first | rfl | (cases e; done))
    | true =>
      obtain ⟨ds, rfl⟩ := isT_is e
      obtain ⟨hl, hp⟩ := its ds rfl
      walk_at "pp"
      cases ds with
      | nil =>
        walk_at "pp"
        rw [decide_eq_true (by rfl)]
        walk_at "pp"
        exact no rfl
      | cons x ps =>
        have hps : ∀ d ∈ ps, Pl d := fun d hd => hp d (List.mem_cons_of_mem _ hd)
        rw [decide_eq_false (by rw [List.length_cons]; omega)]
        walk_at "pp"
        refine w_ixT at0 ?_
        walk_at "pp"
        refine w_isS (hp x List.mem_cons_self) ?_
        walk_at "pp"
        cases e2 : isS x with
        | false =>
          walk_at "pp"
          refine no ?_
          cases x <;> first | rfl | (cases e2; done)
        | true =>
          obtain ⟨z, rfl⟩ := isS_is e2
          walk_at "pp"
          refine w_star (by rw [List.length_cons] at hl; omega) ?_
          walk_at "pp"
          have q : Q3 (.val (.bl (match shp z with | some ks => decide (ps.length = ks.length) && partsB ps ks ls ns | none => false))) none := q
          cases e3 : shp z with
          | none =>
            rw [e3] at q
            refine w_ninKdN (sh.no z e3) ?_
            walk_at "pp"
            exact q
          | some ks =>
            rw [e3] at q
            have q : Q3 (.val (.bl (decide (ps.length = ks.length) && partsB ps ks ls ns))) none := q
            have at_ := sh.at_ z ks e3
            refine w_ninKdS at_ ?_
            walk_at "pp"
            refine w_ixKd at_ ?_
            walk_at "pp"
            rw [List.length_map]
            by_cases c : ps.length = ks.length
            · rw [decide_eq_true (by rw [c])]
              rw [decide_eq_true c, Bool.true_and] at q
              walk_at "pp"
              refine w_ixKd at_ ?_
              walk_at "pp"
              refine ⟨ps, strsD ks, rfl, by rw [List.length_map]; exact c, ?_⟩
              have ez : ((ps.zip (strsD ks)).map fun p => D.tup [p.1, p.2]) = (ps.zip ks).map fun p => D.tup [p.1, .str p.2] := by
                rw [List.zip_map_right, List.map_map]
                rfl
              rw [ez]
              refine LcP_map (xs := ps.zip ks) (enc := fun p => D.tup [p.1, .str p.2]) (fun p => .bl (partB p.1 p.2 ls ns)) (by
                have h1 : (ps.zip ks).length ≤ ps.length := by rw [List.length_zip]; omega
                rw [List.length_cons] at hl
                rw [sizeLine_eq]
                omega) ?_ ?_
              · rintro ⟨p, k⟩ hp2 Y N hY
                walk_at "pp"
                refine ⟨p, k, ls, ns, rfl, hps p (List.of_mem_zip hp2).1, ?_⟩
                walk_at "pp"
                exact hY _ rfl
              rw [show ((ps.zip ks).map fun p => D.bl (partB p.1 p.2 ls ns)) = ((ps.zip ks).map fun p => partB p.1 p.2 ls ns).map D.bl by rw [List.map_map]; rfl]
              walk_at "pp"
              exact q
            · rw [decide_eq_false (fun z => c (by exact_mod_cast z))]
              rw [decide_eq_false c, Bool.false_and] at q
              walk_at "pp"
              exact q
end
end K22
namespace K22
open PySem PySem.Spec PyProof.Rows L2 TB LamX NdefX L3
open C8 (Cal pe_c Mak pe_mk Met pe_mt pe_mt0 pss_cut tCut pe_gc)
theorem sc_is_body : FnScope ["body", "locks", "names", "deed", "at"] ["body", "locks", "names"] (defScope s_is_body) := ⟨rfl, rfl, rfl, by decide +kernel, rfl, by decide +kernel, by decide +kernel⟩
section
variable {P : Program} {w : World} {K : PySem.W.Frag} {mg : Str → Option Value} {base : Heap} {f dS : Addr} {fd : FuncData} {tb : List (Addr × Str)} {esS : Array DictEntry} {nS : Nat}
theorem ok_is_body (F : FnP K "is_body" s_is_body f fd) (T : BltA mg) (Z : PlC mg) (c_is_deed : Cal P w K mg base 3 "is_deed" (lsp ⟨K, tb⟩ none pIsDeed) []) : FnOk P w K mg base CX0 4 f fd ["body", "locks", "names"] (lsp ⟨K, tb⟩ none pIsBody) := by
  refine F.ok sc_is_body (lsp_len (by rintro ds Q3 ⟨t, ls, ns, rfl, _⟩; rfl)) (fun cdv A outer s H vs Q E hr h => ⟨_, PSs.nox
(pss_cons (ps_if (PW.pt (pw_or (pt_not (pt_val (pe_callB (call_isiX K) (by rfl) T.b_isinstance (by decide +kernel) (pa_cons (pv 0) (pa_cons (pe_bltn (v := .ty "list") (u := .type "list") (by rfl) T.b_list (by decide +kernel) rfl) pa_nil))))) (pw_or (pt_cmpR op_gt (pe_callB (call_lenK K) (by rfl) T.b_len PySem.boot_len (pa_cons (pv 0) pa_nil)) (pe_gc (by rfl) Z.v_MOST_DEEDS) (nomark _)) (pw_or1 (pt_not (pt_val (pe_callB (cr_allK K) (by rfl) T.b_all (by decide +kernel) (pa_cons (pe_lc (own := [("deed", 3)]) (tt := tYes) rfl sc_is_body.nd (kPI K (pi_list (pv 0))) (blkOk_by (N := ["body", "locks", "names", "deed", "at"]) (sc := defScope s_is_body) (by decide +kernel)) (fun _ _ _ _ _ => pg_name (i := 3) sc_is_body.nd rfl (Or.inl rfl)) (fun _ _ _ _ _ => pts_nil) (fun _ _ _ _ _ => (pe_c c_is_deed hr (by decide) (by rfl) (pa_cons (pv 3) (pa_cons (pv 1) (pa_cons (pv 2) pa_nil)))))) pa_nil))))))))
    (pss_one (ps_ret pe_bl))
    pss_nil)
  (pss_one (ps_ret (pe_callB (cr_allK K) (by rfl) T.b_all (by decide +kernel) (pa_cons (pe_lc (own := [("at", 4), ("deed", 3)]) (tt := tYes) rfl sc_is_body.nd (kPEn K (pi_enum (by rfl) T.b_enumerate (pa_cons (pv 0) pa_nil))) (blkOk_by (N := ["body", "locks", "names", "deed", "at"]) (sc := defScope s_is_body) (by decide +kernel)) (fun _ _ _ _ _ => kTup K 2 (pg_tup rfl (pgs_cons (pg_name (i := 4) sc_is_body.nd rfl (Or.inl rfl)) (pgs_cons (pg_name (i := 3) sc_is_body.nd rfl (Or.inl rfl)) pgs_nil)))) (fun _ _ _ _ _ => pts_nil) (fun _ _ _ _ _ => (pe_or (pe_cmpR op_ne (pe_ix (ix_tupK K) (pv 3) pe_int (fun _ _ => rfl)) pe_str (nomark _)) (pe_one (pe_cmpR op_lt (pe_ix (ix_tupK K) (pv 3) pe_int (fun _ _ => rfl)) (pe_op op_sub (pe_callB (call_lenK K) (by rfl) T.b_len PySem.boot_len (pa_cons (pv 0) pa_nil)) (pv 4)) (nomark _)))))) pa_nil)))))
, run3' ?go h⟩)
  case go =>
    refine ⟨_, (by walk_at "li"), ?_⟩
    rintro ds Q3 ⟨b, ls, ns, rfl, ok, q⟩
    walk_at "pp"
    rw [List.length_map]
    rw [decide_eq_false (by have := ok.len; omega)]
    walk_at "pp"
    refine LcP_map (xs := b) (enc := ddD) (fun d => .bl (deedB (ddD d) ls ns)) (small1000 (by have := ok.len; omega)) ?_ ?_
    · intro d hd Y N hY
      walk_at "pp"
      refine ⟨ddD d, ls, ns, rfl, dd_plT d, ?_⟩
      walk_at "pp"
      exact hY _ rfl
    rw [show (b.map fun d => D.bl (deedB (ddD d) ls ns)) = (b.map fun d => deedB (ddD d) ls ns).map D.bl by rw [List.map_map]; rfl]
    walk_at "pp"
    rw [show ((b.map fun d => deedB (ddD d) ls ns).all id) = true by
      rw [List.all_map, List.all_eq_true]
      exact fun d hd => deed_good (ok.ok d hd)]
    walk_at "pp"
    rw [enum_map]
    refine LcP_map (xs := b.zipIdx) (enc := fun p => D.tup [.int (p.2 : Nat), ddD p.1]) (fun p => .bl true) (by rw [List.length_zipIdx]; exact small1000 (by have := ok.len; omega)) ?_ ?_
    · rintro ⟨d, i⟩ hp Y N hY
      have hdi : b[i]? = some d := by
        have := List.mem_zipIdx_iff_getElem?.mp hp
        simpa using this
      have hi : i < b.length := (List.getElem?_eq_some_iff.mp hdi).1
      have lp := ok.leap i d hdi
      walk_at "pp"
      refine w_ixT at0 ?_
      walk_at "pp"
      by_cases c : d.w = "skip"
      · rw [decide_eq_true c]
        obtain ⟨n, m, rfl⟩ := skip_of c
        walk_at "pp"
        refine w_ixT at2 ?_
        walk_at "pp"
        rw [List.length_map]
        rw [decide_eq_true (show m < (b.length : Int) - i from lp)]
        exact hY _ rfl
      · rw [decide_eq_false c]
        walk_at "pp"
        exact hY _ rfl
    rw [show (b.zipIdx.map fun p => D.bl true) = (b.zipIdx.map fun p => true).map D.bl by rw [List.map_map]; rfl]
    walk_at "pp"
    rw [show ((b.zipIdx.map fun _ => true).all id) = true by
      rw [List.all_map, List.all_eq_true]
      exact fun _ _ => rfl]
    exact q
end
end K22
namespace K22
open PySem PySem.Spec PyProof.Rows L2 TB LamX NdefX L3
open C8 (Cal pe_c Mak pe_mk Met pe_mt pe_mt0 pss_cut tCut pe_gc)
theorem sc_want_many : FnScope ["things", "what", "least", "most"] ["things", "what", "least", "most"] (defScope s_want_many) := ⟨rfl, rfl, rfl, by decide +kernel, rfl, by decide +kernel, by decide +kernel⟩
theorem sc_want_new : FnScope ["name", "number", "taken"] ["name", "number", "taken"] (defScope s_want_new) := ⟨rfl, rfl, rfl, by decide +kernel, rfl, by decide +kernel, by decide +kernel⟩
theorem sc_want_locks : FnScope ["locks", "taken", "number", "name"] ["locks", "taken"] (defScope s_want_locks) := ⟨rfl, rfl, rfl, by decide +kernel, rfl, by decide +kernel, by decide +kernel⟩
theorem sc_want_cells : FnScope ["cells", "locks", "taken", "number", "cell", "name", "lock", "value"] ["cells", "locks", "taken"] (defScope s_want_cells) := ⟨rfl, rfl, rfl, by decide +kernel, rfl, by decide +kernel, by decide +kernel⟩
theorem sc_want_tasks : FnScope ["tasks", "taken", "number", "task"] ["tasks", "taken"] (defScope s_want_tasks) := ⟨rfl, rfl, rfl, by decide +kernel, rfl, by decide +kernel, by decide +kernel⟩
section
variable {P : Program} {w : World} {K : PySem.W.Frag} {mg : Str → Option Value} {base : Heap} {f : Addr} {fd : FuncData} {tb : List (Addr × Str)}
theorem ok_want_many (F : FnP K "want_many" s_want_many f fd) (T : BltA mg) : FnOk P w K mg base CX0 1 f fd ["things", "what", "least", "most"] (lsp ⟨K, tb⟩ none pWantMany) := by
  refine F.ok sc_want_many (lsp_len (by rintro ds Q3 ⟨xs, z, lo, hi, rfl, _⟩; rfl)) (fun cdv A outer s H vs Q E hr h => ⟨_, PSs.nox
(pss_one (ps_if (PW.pt (pw_or (pt_not (pt_val (pe_callB (call_isiX K) (by rfl) T.b_isinstance (by decide +kernel) (pa_cons (pv 0) (pa_cons (pe_bltn (v := .ty "list") (u := .type "list") (by rfl) T.b_list (by decide +kernel) rfl) pa_nil))))) (pw_or1 (pt_not (pt_chain op_le op_le (pv 2) (pe_callB (call_lenK K) (by rfl) T.b_len PySem.boot_len (pa_cons (pv 0) pa_nil)) (pv 3))))))
    (pss_one ps_never)
    pss_nil))
, run3' ?go h⟩)
  case go =>
    refine ⟨_, (by walk_at "li"), ?_⟩
    rintro ds Q3 ⟨xs, z, lo, hi, rfl, h1, h2, q⟩
    walk_at "pp"
    rw [decide_eq_true h1]
    walk_at "pp"
    rw [decide_eq_true h2]
    walk_at "pp"
    exact q
theorem ok_want_new (F : FnP K "want_new" s_want_new f fd) (T : BltA mg) (c_is_name : Cal P w K mg base 1 "is_name" (lsp ⟨K, tb⟩ none pIsName) []) : FnOk P w K mg base CX0 2 f fd ["name", "number", "taken"] (lsp ⟨K, tb⟩ (some 2) pWantNew) := by
  refine F.ok sc_want_new (lsp_len (by rintro ds Q3 ⟨z, n, tk, rfl, _⟩; rfl)) (fun cdv A outer s H vs Q E hr h => ⟨_, PSs.nox
(pss_cons (ps_if (pt_not (pt_val (pe_c c_is_name hr (by decide) (by rfl) (pa_cons (pv 0) pa_nil))))
    (pss_one ps_never)
    pss_nil)
  (pss_cons (ps_if (pt_cmpR (op_inK K) (pv 0) (pv 2) rfl)
    (pss_one ps_never)
    pss_nil)
  (pss_one (ps_expr (kBM K (pe_bm PySem.F.plainAttrs_list PySem.F.slot_list_append PySem.F.type_list_append mt_append (pv 2) (pa_cons (pv 0) pa_nil)))))))
, run3' ?go h⟩)
  case go =>
    refine ⟨_, (by walk_at "li"), ?_⟩
    rintro ds Q3 ⟨z, n, tk, rfl, nm, hz, hl, q⟩
    walk_at "pp"
    have lt : (tl z).length = z.length := by rw [show tl z = z.cps.toList from rfl, Array.length_toList]; rfl
    refine ⟨.str z, rfl, (fun z => nomatch z), fun y e => ?_, fun b hb => ?_⟩
    · obtain rfl : z = y := str_injD e
      have := nm.2.1
      rw [lt] at this
      exact Nat.le_of_lt (small1000 (by omega))
    obtain rfl : b = true := hb.mpr ⟨z, rfl, nm⟩
    walk_at "pp"
    rw [decide_eq_false hz]
    walk_at "pp"
    refine ⟨by rw [List.length_map]; exact small1000 (by omega), ?_⟩
    rw [strs_snoc]
    exact q
theorem ok_want_locks (F : FnP K "want_locks" s_want_locks f fd) (T : BltA mg) (Z : PlC mg) (ZM : PlM mg) (c_want_many : Cal P w K mg base 1 "want_many" (lsp ⟨K, tb⟩ none pWantMany) []) (c_want_new : Cal P w K mg base 2 "want_new" (lsp ⟨K, tb⟩ (some 2) pWantNew) []) : FnOk P w K mg base CX0 3 f fd ["locks", "taken"] (lsp ⟨K, tb⟩ (some 1) pWantLocks) := by
  refine F.ok sc_want_locks (lsp_len (by rintro ds Q3 ⟨ls, tk, rfl, _⟩; rfl)) (fun cdv A outer s H vs Q E hr h => ⟨_, PSs.nox
(pss_cons (ps_expr (pe_c c_want_many hr (by decide) (by rfl) (pa_cons (pv 0) (pa_cons pe_str (pa_cons pe_int (pa_cons (pe_gc (by rfl) ZM.v_MOST_LOCKS) pa_nil))))))
  (pss_one (ps_for PassesOwn.never rfl (kPEn K (pi_enum (by rfl) T.b_enumerate (pa_cons (pv 0) pa_nil))) (kTup K 2 (pg_tup rfl (pgs_cons (pg_name (i := 2) sc_want_locks.nd rfl (.inl rfl)) (pgs_cons (pg_name (i := 3) sc_want_locks.nd rfl (.inl rfl)) pgs_nil))))
    (pss_one (ps_expr (toIo 1 (pe_c c_want_new hr (by decide) (by rfl) (pa_cons (pv 3) (pa_cons (pv 2) (pa_cons (pv 1) pa_nil))))))))))
, run3' ?go h⟩)
  case go =>
    refine ⟨_, (by walk_at "li"), ?_⟩
    rintro ds Q3 ⟨ls, tk, rfl, l1, l7, nm, nd, ht, q⟩
    walk_at "pp"
    refine ⟨strsD ls, _, 1, 7, rfl, by rw [List.length_map]; omega, by rw [List.length_map]; omega, ?_⟩
    walk_at "pp"
    rw [enum_map]
    refine ⟨fun i ρ => ∃ p2 p3, ρ = [.val (.lst (strsD ls)), .own false (strsD (tk ++ ls.take i)), p2, p3], ⟨_, _, by rw [List.take_zero, List.append_nil]; rfl⟩, ?_⟩
    rintro i ρ ⟨p2, p3, rfl⟩
    refine ⟨fun e => ?_, fun d e => ?_⟩
    · have hi := List.getElem?_eq_none_iff.mp e
      rw [List.length_map, List.length_zipIdx] at hi
      rw [List.take_of_length_le hi]
      walk_at "pp"
      exact q
    · obtain ⟨z, hz, rfl⟩ := enum_at e
      walk_at "pp"
      refine ⟨rfl, io_by rfl, z, _, _, rfl, nm z (List.mem_of_getElem? hz), new_nd nd hz, by rw [List.length_append, List.length_take]; omega, ?_⟩
      walk_at "pp"
      exact ⟨_, _, by rw [take_next hz, ← List.append_assoc]; rfl⟩
theorem ok_want_cells (F : FnP K "want_cells" s_want_cells f fd) (T : BltA mg) (Z : PlC mg) (ZM : PlM mg) (c_want_many : Cal P w K mg base 1 "want_many" (lsp ⟨K, tb⟩ none pWantMany) []) (c_want_new : Cal P w K mg base 2 "want_new" (lsp ⟨K, tb⟩ (some 2) pWantNew) []) (c_is_number : Cal P w K mg base 1 "is_number" (lsp ⟨K, tb⟩ none pIsNum) []) : FnOk P w K mg base CX0 3 f fd ["cells", "locks", "taken"] (lsp ⟨K, tb⟩ (some 2) pWantCells) := by
  refine F.ok sc_want_cells (lsp_len (by rintro ds Q3 ⟨cs, ls, tk, rfl, _⟩; rfl)) (fun cdv A outer s H vs Q E hr h => ⟨_, PSs.nox
(pss_cons (ps_expr (pe_c c_want_many hr (by decide) (by rfl) (pa_cons (pv 0) (pa_cons pe_str (pa_cons pe_int (pa_cons (pe_gc (by rfl) ZM.v_MOST_CELLS) pa_nil))))))
  (pss_one (ps_for PassesOwn.never rfl (kPEn K (pi_enum (by rfl) T.b_enumerate (pa_cons (pv 0) pa_nil))) (kTup K 2 (pg_tup rfl (pgs_cons (pg_name (i := 3) sc_want_cells.nd rfl (.inl rfl)) (pgs_cons (pg_name (i := 4) sc_want_cells.nd rfl (.inl rfl)) pgs_nil))))
    (pss_cons (ps_if (PW.pt (pw_or (pt_not (pt_val (pe_callB (call_isiX K) (by rfl) T.b_isinstance (by decide +kernel) (pa_cons (pv 4) (pa_cons (pe_bltn (v := .ty "tuple") (u := .type "tuple") (by rfl) T.b_tuple (by decide +kernel) rfl) pa_nil))))) (pw_or1 (pt_cmpR op_ne (pe_callB (call_lenK K) (by rfl) T.b_len PySem.boot_len (pa_cons (pv 4) pa_nil)) pe_int (nomark _)))))
        (pss_one ps_never)
        pss_nil)
      (pss_cons (ps_asg (pv 4) (kTup K 3 (pg_tup rfl (pgs_cons (pg_name (i := 5) sc_want_cells.nd rfl (.inl rfl)) (pgs_cons (pg_name (i := 6) sc_want_cells.nd rfl (.inl rfl)) (pgs_cons (pg_name (i := 7) sc_want_cells.nd rfl (.inl rfl)) pgs_nil))))))
      (pss_cons (ps_expr (toIo 2 (pe_c c_want_new hr (by decide) (by rfl) (pa_cons (pv 5) (pa_cons (pv 3) (pa_cons (pv 2) pa_nil))))))
      (pss_cons (ps_if (PW.pt (pw_or (pt_not (pt_val (pe_callB call_isStr (by rfl) T.b_isinstance (by decide +kernel) (pa_cons (pv 6) (pa_cons (pe_bltn (v := .ty "str") (u := .type "str") (by rfl) T.b_str (by decide +kernel) rfl) pa_nil))))) (pw_or1 (pt_cmpR (op_ninK K) (pv 6) (pv 1) rfl))))
        (pss_one ps_never)
        pss_nil)
      (pss_one (ps_if (pt_not (pt_val (pe_c c_is_number hr (by decide) (by rfl) (pa_cons (pv 7) (pa_cons (pe_un un_neg (pe_gc (by rfl) Z.v_FARTHEST)) (pa_cons (pe_gc (by rfl) Z.v_FARTHEST) pa_nil))))))
        (pss_one ps_never)
        pss_nil)))))))))
, run3' ?go h⟩)
  case go =>
    refine ⟨_, (by walk_at "li"), ?_⟩
    rintro ds Q3 ⟨cs, ls, tk, rfl, l8, ck, nd, ht, q⟩
    walk_at "pp"
    refine ⟨cs.map clD, _, 0, 8, rfl, by omega, by rw [List.length_map]; omega, ?_⟩
    walk_at "pp"
    rw [enum_map]
    refine ⟨fun i ρ => ∃ p3 p4 p5 p6 p7, ρ = [.val (.lst (cs.map clD)), .val (.lst (strsD ls)), .own false (strsD (tk ++ (cs.map (·.name)).take i)), p3, p4, p5, p6, p7], ⟨_, _, _, _, _, by rw [List.take_zero, List.append_nil]; rfl⟩, ?_⟩
    rintro i ρ ⟨p3, p4, p5, p6, p7, rfl⟩
    refine ⟨fun e => ?_, fun d e => ?_⟩
    · have hi := List.getElem?_eq_none_iff.mp e
      rw [List.length_map, List.length_zipIdx] at hi
      rw [List.take_of_length_le (by rw [List.length_map]; exact hi)]
      walk_at "pp"
      exact q
    · obtain ⟨c, hc, rfl⟩ := enum_at e
      obtain ⟨c1, c2, c3, c4⟩ := ck c (List.mem_of_getElem? hc)
      have hz : (cs.map (·.name))[i]? = some c.name := by rw [List.getElem?_map, hc]; rfl
      walk_at "pp"
      refine w_isTT ?_
      walk_at "pp"
      refine w_lenT ?_
      walk_at "pp"
      rw [decide_eq_true (by rfl)]
      walk_at "pp"
      refine w_gtup (ds := [.str c.name, .str c.lock, .int c.val]) rfl ?_
      walk_at "pp"
      refine ⟨rfl, io_by rfl, c.name, _, _, rfl, c1, new_nd nd hz, by rw [List.length_append, List.length_take, List.length_map]; omega, ?_⟩
      refine w_ioOk ?_
      walk_at "pp"
      rw [decide_eq_true c2]
      walk_at "pp"
      refine ⟨.int c.val, _, _, rfl, (fun z => nomatch z), ?_⟩
      rw [show numB (.int c.val) (-10 ^ 18) (10 ^ 18) = true by
        show (decide (-far ≤ c.val) && decide (c.val ≤ far)) = true
        rw [decide_eq_true c3, decide_eq_true c4]; rfl]
      walk_at "pp"
      exact ⟨_, _, _, _, _, by rw [take_next hz, ← List.append_assoc]; rfl⟩
theorem ok_want_tasks (F : FnP K "want_tasks" s_want_tasks f fd) (T : BltA mg) (Z : PlC mg) (ZM : PlM mg) (c_want_many : Cal P w K mg base 1 "want_many" (lsp ⟨K, tb⟩ none pWantMany) []) (c_want_new : Cal P w K mg base 2 "want_new" (lsp ⟨K, tb⟩ (some 2) pWantNew) []) : FnOk P w K mg base CX0 3 f fd ["tasks", "taken"] (lsp ⟨K, tb⟩ (some 1) pWantTasks) := by
  refine F.ok sc_want_tasks (lsp_len (by rintro ds Q3 ⟨ts, tk, rfl, _⟩; rfl)) (fun cdv A outer s H vs Q E hr h => ⟨_, PSs.nox
(pss_cons (ps_expr (pe_c c_want_many hr (by decide) (by rfl) (pa_cons (pv 0) (pa_cons pe_str (pa_cons pe_int (pa_cons (pe_gc (by rfl) ZM.v_MOST_TASKS) pa_nil))))))
  (pss_one (ps_for PassesOwn.never rfl (kPEn K (pi_enum (by rfl) T.b_enumerate (pa_cons (pv 0) pa_nil))) (kTup K 2 (pg_tup rfl (pgs_cons (pg_name (i := 2) sc_want_tasks.nd rfl (.inl rfl)) (pgs_cons (pg_name (i := 3) sc_want_tasks.nd rfl (.inl rfl)) pgs_nil))))
    (pss_cons (ps_if (PW.pt (pw_or (pt_not (pt_val (pe_callB (call_isiX K) (by rfl) T.b_isinstance (by decide +kernel) (pa_cons (pv 3) (pa_cons (pe_bltn (v := .ty "tuple") (u := .type "tuple") (by rfl) T.b_tuple (by decide +kernel) rfl) pa_nil))))) (pw_or1 (pt_cmpR op_ne (pe_callB (call_lenK K) (by rfl) T.b_len PySem.boot_len (pa_cons (pv 3) pa_nil)) pe_int (nomark _)))))
        (pss_one ps_never)
        pss_nil)
      (pss_one (ps_expr (toIo 1 (pe_c c_want_new hr (by decide) (by rfl) (pa_cons (pe_ix (ix_tupK K) (pv 3) pe_int (fun _ _ => rfl)) (pa_cons (pv 2) (pa_cons (pv 1) pa_nil)))))))))))
, run3' ?go h⟩)
  case go =>
    refine ⟨_, (by walk_at "li"), ?_⟩
    rintro ds Q3 ⟨ts, tk, rfl, l6, nm, nd, ht, q⟩
    walk_at "pp"
    refine ⟨ts.map tkD, _, 0, 6, rfl, by omega, by rw [List.length_map]; omega, ?_⟩
    walk_at "pp"
    rw [enum_map]
    refine ⟨fun i ρ => ∃ p2 p3, ρ = [.val (.lst (ts.map tkD)), .own false (strsD (tk ++ (ts.map (·.1)).take i)), p2, p3], ⟨_, _, by rw [List.take_zero, List.append_nil]; rfl⟩, ?_⟩
    rintro i ρ ⟨p2, p3, rfl⟩
    refine ⟨fun e => ?_, fun d e => ?_⟩
    · have hi := List.getElem?_eq_none_iff.mp e
      rw [List.length_map, List.length_zipIdx] at hi
      rw [List.take_of_length_le (by rw [List.length_map]; exact hi)]
      walk_at "pp"
      exact q
    · obtain ⟨t, hc, rfl⟩ := enum_at e
      have hz : (ts.map (·.1))[i]? = some t.1 := by rw [List.getElem?_map, hc]; rfl
      walk_at "pp"
      refine w_isTT ?_
      walk_at "pp"
      refine w_lenT ?_
      walk_at "pp"
      rw [decide_eq_true (by rfl)]
      walk_at "pp"
      refine w_ixT at0 ?_
      walk_at "pp"
      refine ⟨rfl, io_by rfl, t.1, _, _, rfl, nm t (List.mem_of_getElem? hc), new_nd nd hz, by rw [List.length_append, List.length_take, List.length_map]; omega, ?_⟩
      walk_at "pp"
      exact ⟨_, _, by rw [take_next hz, ← List.append_assoc]; rfl⟩
end
end K22
namespace K22
open PySem PySem.Spec PyProof.Rows L2 TB LamX NdefX L3
open C8 (Cal pe_c Mak pe_mk Met pe_mt pe_mt0 pss_cut tCut pe_gc)
theorem sc__law_number : FnScope ["_law_pot_here", "_law_far"] ["_law_pot_here"] (defScope s__law_number) := ⟨rfl, rfl, rfl, by decide +kernel, rfl, by decide +kernel, by decide +kernel⟩
theorem sc__law_act : FnScope ["_law_pot_here", "_law_latches", "_law_slots", "_law_claimed", "_law_behind", "_law_way", "_law_latch", "_law_near", "_law_slot"] ["_law_pot_here", "_law_latches", "_law_slots", "_law_claimed", "_law_behind"] (defScope s__law_act) := ⟨rfl, rfl, rfl, by decide +kernel, rfl, by decide +kernel, by decide +kernel⟩
section
variable {P : Program} {w : World} {K : PySem.W.Frag} {mg : Str → Option Value} {base : Heap} {f : Addr} {fd : FuncData} {tb : List (Addr × Str)}
theorem ok__law_number (F : FnP K "_law_number" s__law_number f fd) (T : BltA mg) (c__law_draw : Cal P w K mg base 1 "_law_draw" (lsp ⟨K, tb⟩ none pDraw) []) : FnOk P w K mg base CX0 2 f fd ["_law_pot_here"] (lsp ⟨K, tb⟩ none pNumber) := by
  refine F.ok sc__law_number (lsp_len (by rintro ds Q3 ⟨rfl, _⟩; rfl)) (fun cdv A outer s H vs Q E hr h => ⟨_, PSs.nox
(pss_cons (ps_set (i := 1) sc__law_number.nd rfl (.inl rfl) (pe_op op_sub (pe_c c__law_draw hr (by decide) (by rfl) (pa_cons (pv 0) (pa_cons (pe_op op_add (pe_op op_mul pe_int (pe_op op_pow pe_int pe_int)) pe_int) pa_nil))) (pe_op op_pow pe_int pe_int)))
  (pss_one (ps_ret (pe_ix (ix_listK K) (pe_lst (pa_cons (pe_c c__law_draw hr (by decide) (by rfl) (pa_cons (pv 0) (pa_cons pe_int pa_nil))) (pa_cons (pe_op op_sub (pe_c c__law_draw hr (by decide) (by rfl) (pa_cons (pv 0) (pa_cons pe_int pa_nil))) pe_int) (pa_cons (pe_op op_sub (pe_c c__law_draw hr (by decide) (by rfl) (pa_cons (pv 0) (pa_cons pe_int pa_nil))) pe_int) (pa_cons (pv 1) pa_nil))))) (pe_c c__law_draw hr (by decide) (by rfl) (pa_cons (pv 0) (pa_cons pe_int pa_nil))) (fun _ _ => rfl)))))
, run3' ?go h⟩)
  case go =>
    refine ⟨_, (by walk_at "li"), ?_⟩
    rintro ds Q3 ⟨rfl, q⟩
    walk_at "pp"
    refine ⟨10, 18, rfl, rfl, ⟨by decide, by decide, by decide⟩, ?_⟩
    walk_at "pp"
    refine ⟨2, _, rfl, rfl, Or.inl ⟨by decide, by decide⟩, ?_⟩
    walk_at "pp"
    refine ⟨_, rfl, by decide, by decide, fun d0 a1 a2 => ?_⟩
    walk_at "pp"
    refine ⟨10, 18, rfl, rfl, ⟨by decide, by decide, by decide⟩, ?_⟩
    walk_at "pp"
    refine ⟨3, rfl, by decide, by decide, fun d1 b1 b2 => ?_⟩
    walk_at "pp"
    refine ⟨3, rfl, by decide, by decide, fun d2 c1 c2 => ?_⟩
    walk_at "pp"
    refine ⟨2001, rfl, by decide, by decide, fun d3 e1 e2 => ?_⟩
    walk_at "pp"
    refine ⟨(by show 4 ≤ sizeLine; decide), ?_⟩
    walk_at "pp"
    refine ⟨4, rfl, by decide, by decide, fun d4 f1 f2 => ?_⟩
    walk_at "pp"
    have e18 : ((10 : Int) ^ (18 : Int).toNat) = 1000000000000000000 := by decide
    have e18' : ((10 : Int) ^ 18) = 1000000000000000000 := by decide
    rw [e18] at a2 ⊢
    obtain ⟨j, hj, rfl, ej⟩ := at_map D.int (xs := [d1, d2 - 1, d3 - 1000, d0 - 1000000000000000000]) f1 f2
    refine w_ixL ej ?_
    walk_at "pp"
    have hm := List.getElem_mem hj
    refine q _ ?_ ?_
    all_goals
      rw [e18']
      generalize [d1, d2 - 1, d3 - 1000, d0 - 1000000000000000000][j] = y at hm
      simp only [List.mem_cons, List.not_mem_nil, or_false] at hm
      omega
theorem ok__law_act (F : FnP K "_law_act" s__law_act f fd) (T : BltA mg) (c__law_draw : Cal P w K mg base 1 "_law_draw" (lsp ⟨K, tb⟩ none pDraw) []) (c__law_number : Cal P w K mg base 2 "_law_number" (lsp ⟨K, tb⟩ none pNumber) []) : FnOk P w K mg base CX0 3 f fd ["_law_pot_here", "_law_latches", "_law_slots", "_law_claimed", "_law_behind"] (lsp ⟨K, tb⟩ (some 3) pAct) := by
  refine F.ok sc__law_act (lsp_len (by rintro ds Q3 ⟨ls, cl, ss, b, rfl, _⟩; rfl)) (fun cdv A outer s H vs Q E hr h => ⟨_, PSs.nox
(pss_cons (ps_set (i := 5) sc__law_act.nd rfl (.inl rfl) (pe_c c__law_draw hr (by decide) (by rfl) (pa_cons (pv 0) (pa_cons pe_int pa_nil))))
  (pss_cons (ps_if (pt_cmpR op_lt (pv 5) pe_int (nomark _))
    (pss_cons (ps_set (i := 6) sc__law_act.nd rfl (.inl rfl) (pe_ix (ix_listK K) (pv 1) (pe_c c__law_draw hr (by decide) (by rfl) (pa_cons (pv 0) (pa_cons (pe_callB (call_lenK K) (by rfl) T.b_len PySem.boot_len (pa_cons (pv 1) pa_nil)) pa_nil))) (fun _ _ => rfl)))
      (pss_cons (ps_expr (kBM K (pe_bm PySem.F.plainAttrs_list PySem.F.slot_list_append PySem.F.type_list_append mt_append (pv 3) (pa_cons (pv 6) pa_nil))))
      (pss_one (ps_ret (pe_tup (pa_cons pe_str (pa_cons (pv 6) pa_nil)))))))
    pss_nil)
  (pss_cons (ps_setLc (i := 7) (own := [("_law_slot", 8)]) rfl sc__law_act.nd rfl rfl (sw_true rfl rfl rfl (by decide +kernel)) (kPI K (pi_list (pv 2))) (blkOk_by (N := ["_law_pot_here", "_law_latches", "_law_slots", "_law_claimed", "_law_behind", "_law_way", "_law_latch", "_law_near", "_law_slot"]) (sc := defScope s__law_act) (by decide +kernel)) (fun _ _ _ _ _ => pg_name (i := 8) sc__law_act.nd rfl (Or.inl rfl)) (fun _ _ _ _ _ => pts_one (pt_cmpR (op_inK K) (pe_ix (ix_tupK K) (pv 8) pe_int (fun _ _ => rfl)) (pv 3) rfl)) (fun _ _ _ _ _ => (pv 8)))
  (pss_cut (ps_if (PW.pt (pw_and (pt_cmpR (op_neDK K hr.units) (pv 2) (pe_lst pa_nil) (nomark _)) (pw_and1 (pt_cmpR op_eq (pe_c c__law_draw hr (by decide) (by rfl) (pa_cons (pv 0) (pa_cons pe_int pa_nil))) pe_int (nomark _)))))
    (pss_one (ps_set (i := 7) sc__law_act.nd rfl (.inl rfl) (pv 2)))
    pss_nil)
  (pss_cons (ps_if (PW.pt (pw_and (pt_cmpR op_lt (pv 5) pe_int (nomark _)) (pw_and1 (pt_cmpR (op_neDK K hr.units) (pv 7) (pe_lst pa_nil) (nomark _)))))
    (pss_one (ps_ret (pe_tup (pa_cons (pe_ix (ix_listK K) (pe_lst (pa_cons pe_str (pa_cons pe_str pa_nil))) (pe_c c__law_draw hr (by decide) (by rfl) (pa_cons (pv 0) (pa_cons pe_int pa_nil))) (fun _ _ => rfl)) (pa_cons (pe_ix (ix_tupK K) (pe_ix (ix_listK K) (pv 7) (pe_c c__law_draw hr (by decide) (by rfl) (pa_cons (pv 0) (pa_cons (pe_callB (call_lenK K) (by rfl) T.b_len PySem.boot_len (pa_cons (pv 7) pa_nil)) pa_nil))) (fun _ _ => rfl)) pe_int (fun _ _ => rfl)) pa_nil)))))
    pss_nil)
  (pss_cons (ps_if (pt_cmpR op_eq (pv 5) pe_int (nomark _))
    (pss_one (ps_ret (pe_tup (pa_cons pe_str (pa_cons (pe_op op_sub (pe_c c__law_draw hr (by decide) (by rfl) (pa_cons (pv 0) (pa_cons pe_int pa_nil))) pe_int) (pa_cons (pe_c c__law_draw hr (by decide) (by rfl) (pa_cons (pv 0) (pa_cons (pe_op op_add (pv 4) pe_int) pa_nil))) pa_nil))))))
    pss_nil)
  (pss_cons (ps_if (PW.pt (pw_and (pt_cmpR op_eq (pv 5) pe_int (nomark _)) (pw_and1 (pt_cmpR op_eq (pe_c c__law_draw hr (by decide) (by rfl) (pa_cons (pv 0) (pa_cons pe_int pa_nil))) pe_int (nomark _)))))
    (pss_one (ps_ret (pe_tup (pa_cons pe_str pa_nil))))
    pss_nil)
  (pss_one (ps_ret (pe_tup (pa_cons (pe_ix (ix_listK K) (pe_lst (pa_cons pe_str (pa_cons pe_str pa_nil))) (pe_c c__law_draw hr (by decide) (by rfl) (pa_cons (pv 0) (pa_cons pe_int pa_nil))) (fun _ _ => rfl)) (pa_cons (pe_c c__law_number hr (by decide) (by rfl) (pa_cons (pv 0) pa_nil)) pa_nil))))))))))))
, run3' ?go h⟩)
  case go =>
    refine ⟨_, (by walk_at "li"), ?_⟩
    rintro ds Q3 ⟨ls, cl, ss, b, rfl, l1, l7, s8, nmc, cl20, nml, nms, nmn, b0, b1, q⟩
    walk_at "pp"
    refine ⟨16, rfl, by decide, by decide, fun w w0 w1 => ?_⟩
    walk_at "pp"
    by_cases c7 : w < 7
    · rw [decide_eq_true c7]
      walk_at "pp"
      rw [List.length_map]
      refine ⟨_, rfl, by omega, by omega, fun k k0 k1 => ?_⟩
      walk_at "pp"
      obtain ⟨j, hj, rfl, ej⟩ := at_map D.str (xs := ls) k0 k1
      refine w_ixL ej ?_
      walk_at "pp"
      refine ⟨by rw [List.length_map]; exact small1000 (by omega), ?_⟩
      walk_at "pp"
      refine ⟨(by show 2 ≤ sizeLine; decide), ?_⟩
      have hm := List.getElem_mem hj
      have q2 := q (.take ls[j]) (cl ++ [ls[j]]) hm (by show -1 ≤ b; omega) (fun z hz => (List.mem_append.mp hz).elim (nmc z) fun m => by rw [List.mem_singleton.mp m]; exact nml _ hm) (by rw [List.length_append]; exact Nat.le_refl _)
      rw [← strs_snoc] at q2
      exact q2
    · rw [decide_eq_false c7]
      walk_at "pp"
      refine LcP_filter (xs := ss) (enc := clD) (fun c => decide (c.lock ∈ cl)) clD (small1000 (by omega)) ?_ ?_
      · intro c hc Y N hY hN
        walk_at "pp"
        refine w_ixT at1 ?_
        walk_at "pp"
        by_cases c1 : c.lock ∈ cl
        · rw [decide_eq_true c1]
          walk_at "pp"
          exact hY _ (decide_eq_true c1) rfl
        · rw [decide_eq_false c1]
          walk_at "pp"
          exact hN _ (decide_eq_false c1) rfl
      have q0 : ∀ d : Dd, d.ok ls (ss.map (·.name)) → d.leap ≤ b → Q3 (.val (ddD d)) (some (strsD cl)) := fun d h1 h2 => q d cl h1 h2 nmc (Nat.le_succ _)
      have nmAll : ∀ xs : List L3.Cl, (∀ c ∈ xs, c ∈ ss) → (∀ c ∈ xs, Nm c.name) → ∀ c ∈ xs, cln (clD c) = true := fun xs h1 h2 c hc => cln_cl (h2 c hc) (nms c (h1 c hc))
      refine ⟨fun ρ => ∃ (near : List L3.Cl) (p8 : PV), ρ = [.val potD, .val (.lst (strsD ls)), .val (.lst (ss.map clD)), .own false (strsD cl), .val (.int b), .val (.int w), .un, .val (.lst (near.map clD)), p8] ∧ (∀ c ∈ near, c ∈ ss) ∧ near.length ≤ 8, ?_, ?_⟩
      · walk_at "pp"
        refine ⟨Nat.zero_le _, ?_⟩
        walk_at "pp"
        refine w_neNilG (n := 1) (nmAll ss (fun _ h => h) nmn) (fun c _ => Nat.le_of_eq (dpt_cl c)) (by decide) ?_
        walk_at "pp"
        by_cases c1 : ss.length = 0
        · rw [decide_eq_true c1]
          walk_at "pp"
          exact ⟨_, _, rfl, fun c hc => (List.mem_filter.mp hc).1, Nat.le_trans (List.length_filter_le _ _) s8⟩
        · rw [decide_eq_false c1]
          walk_at "pp"
          refine ⟨16, rfl, by decide, by decide, fun k k0 k1 => ?_⟩
          walk_at "pp"
          by_cases c2 : k = 15
          · rw [decide_eq_true c2]
            walk_at "pp"
            exact ⟨ss, _, rfl, fun c hc => hc, s8⟩
          · rw [decide_eq_false c2]
            walk_at "pp"
            exact ⟨_, _, rfl, fun c hc => (List.mem_filter.mp hc).1, Nat.le_trans (List.length_filter_le _ _) s8⟩
      rintro ρ ⟨near, p8, rfl, hn, near8⟩
      walk_at "pp"
      by_cases c13 : w < 13
      · rw [decide_eq_true c13]
        walk_at "pp"
        refine ⟨Nat.zero_le _, ?_⟩
        walk_at "pp"
        refine w_neNilG (n := 1) (nmAll near hn fun c hc => nmn c (hn c hc)) (fun c _ => Nat.le_of_eq (dpt_cl c)) (by decide) ?_
        walk_at "pp"
        by_cases c1 : near.length = 0
        · rw [decide_eq_true c1]
          walk_at "pp"
          rw [decide_eq_false (by omega)]
          walk_at "pp"
          rw [decide_eq_false (by omega)]
          walk_at "pp"
          refine ⟨(by show 2 ≤ sizeLine; decide), ?_⟩
          walk_at "pp"
          refine ⟨2, rfl, by decide, by decide, fun k k0 k1 => ?_⟩
          walk_at "pp"
          obtain ⟨j, hj, rfl, ej⟩ := at_map D.str (xs := ["set", "add"]) k0 k1
          refine w_ixL ej ?_
          walk_at "pp"
          refine ⟨rfl, fun n n0 n1 => ?_⟩
          walk_at "pp"
          refine ⟨(by show 2 ≤ sizeLine; decide), ?_⟩
          match j, hj with
          | 0, _ => exact q0 (.set n) ⟨n0, n1⟩ (by show -1 ≤ b; omega)
          | 1, _ => exact q0 (.add n) ⟨n0, n1⟩ (by show -1 ≤ b; omega)
        · rw [decide_eq_false c1]
          walk_at "pp"
          refine ⟨(by show 2 ≤ sizeLine; decide), ?_⟩
          walk_at "pp"
          refine ⟨2, rfl, by decide, by decide, fun k k0 k1 => ?_⟩
          walk_at "pp"
          obtain ⟨j, hj, rfl, ej⟩ := at_map D.str (xs := ["read", "write"]) k0 k1
          refine w_ixL ej ?_
          walk_at "pp"
          rw [List.length_map]
          refine ⟨_, rfl, by omega, by omega, fun m m0 m1 => ?_⟩
          walk_at "pp"
          obtain ⟨j2, hj2, rfl, ej2⟩ := at_map clD (xs := near) m0 m1
          refine w_ixL ej2 ?_
          walk_at "pp"
          refine w_ixT at0 ?_
          walk_at "pp"
          refine ⟨(by show 2 ≤ sizeLine; decide), ?_⟩
          have hm := hn _ (List.getElem_mem hj2)
          have hm2 : near[j2].name ∈ ss.map (·.name) := List.mem_map_of_mem hm
          match j, hj with
          | 0, _ => exact q0 (.read near[j2].name) hm2 (by show -1 ≤ b; omega)
          | 1, _ => exact q0 (.write near[j2].name) hm2 (by show -1 ≤ b; omega)
      · rw [decide_eq_false c13]
        walk_at "pp"
        by_cases c1 : w = 13
        · rw [decide_eq_true c1]
          walk_at "pp"
          refine ⟨3, rfl, by decide, by decide, fun k k0 k1 => ?_⟩
          walk_at "pp"
          refine ⟨_, rfl, by omega, by omega, fun m m0 m1 => ?_⟩
          walk_at "pp"
          refine ⟨(by show 3 ≤ sizeLine; decide), ?_⟩
          exact q0 (.skip (k - 1) m) ⟨⟨by show -(10 ^ 18) ≤ k - 1; omega, by show k - 1 ≤ 10 ^ 18; omega⟩, m0, by omega⟩ (by show m ≤ b; omega)
        · rw [decide_eq_false c1]
          walk_at "pp"
          by_cases c2 : w = 14
          · rw [decide_eq_true c2]
            walk_at "pp"
            refine ⟨6, rfl, by decide, by decide, fun k k0 k1 => ?_⟩
            walk_at "pp"
            by_cases c3 : k = 5
            · rw [decide_eq_true c3]
              walk_at "pp"
              refine ⟨(by show 1 ≤ sizeLine; decide), ?_⟩
              exact q0 .quit trivial (by show -1 ≤ b; omega)
            · rw [decide_eq_false c3]
              walk_at "pp"
              refine ⟨(by show 2 ≤ sizeLine; decide), ?_⟩
              walk_at "pp"
              refine ⟨2, rfl, by decide, by decide, fun k k0 k1 => ?_⟩
              walk_at "pp"
              obtain ⟨j, hj, rfl, ej⟩ := at_map D.str (xs := ["set", "add"]) k0 k1
              refine w_ixL ej ?_
              walk_at "pp"
              refine ⟨rfl, fun n n0 n1 => ?_⟩
              walk_at "pp"
              refine ⟨(by show 2 ≤ sizeLine; decide), ?_⟩
              match j, hj with
              | 0, _ => exact q0 (.set n) ⟨n0, n1⟩ (by show -1 ≤ b; omega)
              | 1, _ => exact q0 (.add n) ⟨n0, n1⟩ (by show -1 ≤ b; omega)
          · rw [decide_eq_false c2]
            walk_at "pp"
            refine ⟨(by show 2 ≤ sizeLine; decide), ?_⟩
            walk_at "pp"
            refine ⟨2, rfl, by decide, by decide, fun k k0 k1 => ?_⟩
            walk_at "pp"
            obtain ⟨j, hj, rfl, ej⟩ := at_map D.str (xs := ["set", "add"]) k0 k1
            refine w_ixL ej ?_
            walk_at "pp"
            refine ⟨rfl, fun n n0 n1 => ?_⟩
            walk_at "pp"
            refine ⟨(by show 2 ≤ sizeLine; decide), ?_⟩
            match j, hj with
            | 0, _ => exact q0 (.set n) ⟨n0, n1⟩ (by show -1 ≤ b; omega)
            | 1, _ => exact q0 (.add n) ⟨n0, n1⟩ (by show -1 ≤ b; omega)
end
end K22
namespace K22
open PySem PySem.Spec PyProof.Rows L2 TB LamX NdefX L3
open C8 (Cal pe_c Mak pe_mk Met pe_mt pe_mt0 pss_cut tCut pe_gc)
theorem sc__law_acts : FnScope ["_law_pot_here", "_law_latches", "_law_slots", "_law_high", "_law_many", "_law_found", "_law_claimed", "_law_k"] ["_law_pot_here", "_law_latches", "_law_slots", "_law_high"] (defScope s__law_acts) := ⟨rfl, rfl, rfl, by decide +kernel, rfl, by decide +kernel, by decide +kernel⟩
theorem sc__law_drawn : FnScope ["_law_pot_here", "_law_folk", "_law_high", "_law_taken", "_law_latches", "_law_k", "_law_slots", "_law_crew"] ["_law_pot_here", "_law_folk", "_law_high"] (defScope s__law_drawn) := ⟨rfl, rfl, rfl, by decide +kernel, rfl, by decide +kernel, by decide +kernel⟩
section
variable {P : Program} {w : World} {K : PySem.W.Frag} {mg : Str → Option Value} {base : Heap} {f : Addr} {fd : FuncData} {tb : List (Addr × Str)}
theorem ok__law_acts (F : FnP K "_law_acts" s__law_acts f fd) (T : BltA mg) (c__law_draw : Cal P w K mg base 1 "_law_draw" (lsp ⟨K, tb⟩ none pDraw) []) (c__law_act : Cal P w K mg base 3 "_law_act" (lsp ⟨K, tb⟩ (some 3) pAct) []) : FnOk P w K mg base CX0 4 f fd ["_law_pot_here", "_law_latches", "_law_slots", "_law_high"] (lsp ⟨K, tb⟩ none pActs) := by
  refine F.ok sc__law_acts (lsp_len (by rintro ds Q3 ⟨ls, ss, h, rfl, _⟩; rfl)) (fun cdv A outer s H vs Q E hr h => ⟨_, PSs.nox
(pss_cons (ps_set (i := 4) sc__law_acts.nd rfl (.inl rfl) (pe_ix (ix_listK K) (pe_lst (pa_cons (pe_c c__law_draw hr (by decide) (by rfl) (pa_cons (pv 0) (pa_cons (pe_op op_add (pv 3) pe_int) pa_nil))) (pa_cons (pv 3) (pa_cons (pe_callB (call_max2 rfl) (by rfl) T.b_max (by decide +kernel) (pa_cons pe_int (pa_cons (pe_op op_sub (pv 3) (pe_c c__law_draw hr (by decide) (by rfl) (pa_cons (pv 0) (pa_cons pe_int pa_nil)))) pa_nil))) pa_nil)))) (pe_c c__law_draw hr (by decide) (by rfl) (pa_cons (pv 0) (pa_cons pe_int pa_nil))) (fun _ _ => rfl)))
  (pss_cons (toNN (ps_par (i := 5) (j := 6) rfl sc__law_acts.nd rfl rfl (by decide) rfl rfl (pa_cons (pe_lst pa_nil) (pa_cons (pe_lst pa_nil) pa_nil)) rfl))
  (pss_cons (ps_for PassesOwn.never rfl (pi_range1 (by rfl) T.b_range (pa_cons (pv 4) pa_nil)) (pg_name (i := 7) sc__law_acts.nd rfl (.inl rfl))
    (pss_one (ps_expr (kBM K (pe_bm PySem.F.plainAttrs_list PySem.F.slot_list_append PySem.F.type_list_append mt_append (pv 5) (pa_cons (toIo 6 (pe_c c__law_act hr (by decide) (by rfl) (pa_cons (pv 0) (pa_cons (pv 1) (pa_cons (pv 2) (pa_cons (pv 6) (pa_cons (pe_op op_sub (pe_op op_sub (pv 4) pe_int) (pv 7)) pa_nil))))))) pa_nil))))))
  (pss_one (ps_ret (pv 5))))))
, run3' ?go h⟩)
  case go =>
    refine ⟨_, (by walk_at "li"), ?_⟩
    rintro ds Q3 ⟨ls, ss, h, rfl, l1, l7, s8, nml, nms, nmn, h0, h1, q⟩
    walk_at "pp"
    refine ⟨_, rfl, by omega, by omega, fun d0 a0 a1 => ?_⟩
    walk_at "pp"
    refine ⟨4, rfl, by decide, by decide, fun d1 b0 b1 => ?_⟩
    walk_at "pp"
    refine ⟨(by show 3 ≤ sizeLine; decide), ?_⟩
    walk_at "pp"
    refine ⟨3, rfl, by decide, by decide, fun d2 c0 c1 => ?_⟩
    walk_at "pp"
    obtain ⟨j, hj, rfl, ej⟩ := at_map D.int (xs := [d0, h, if h - d1 > 0 then h - d1 else 0]) c0 c1
    refine w_ixL ej ?_
    have hm := List.getElem_mem hj
    generalize ([d0, h, if h - d1 > 0 then h - d1 else 0] : List Int)[j] = m at hm
    have m01 : 0 ≤ m ∧ m ≤ h := by
      simp only [List.mem_cons, List.not_mem_nil, or_false] at hm
      rcases hm with rfl | rfl | rfl
      · omega
      · omega
      · split <;> omega
    clear hm ej
    obtain ⟨n, rfl⟩ := Int.eq_ofNat_of_zero_le m01.1
    walk_at "pp"
    refine ⟨Nat.zero_le _, ?_⟩
    walk_at "pp"
    refine ⟨Nat.zero_le _, ?_⟩
    walk_at "pp"
    refine ⟨(n : Int), rfl, by omega, by omega, ?_⟩
    rw [Int.toNat_natCast]
    refine ⟨fun i ρ => ∃ (b : List Dd) (cl : List Str) (p7 : PV), ρ = [.val potD, .val (.lst (strsD ls)), .val (.lst (ss.map clD)), .val (.int h), .val (.int n), .own true (b.map ddD), .own true (strsD cl), p7] ∧ b.length = i ∧ i ≤ n ∧ (∀ d ∈ b, d.ok ls (ss.map (·.name))) ∧ (∀ (i : Nat) (d : Dd), b[i]? = some d → d.leap < (n : Int) - i) ∧ (∀ z ∈ cl, Nm z) ∧ cl.length ≤ i, ⟨[], [], _, rfl, rfl, Nat.zero_le _, (fun _ z => nomatch z), (fun i d e => by simp at e), (fun _ z => nomatch z), Nat.le_refl _⟩, ?_⟩
    rintro i ρ ⟨b, cl, p7, rfl, bl, hin, bo, bp, cn, ci⟩
    refine ⟨fun e => ?_, fun d e => ?_⟩
    · have hi : i = n := by
        have := List.getElem?_eq_none_iff.mp e
        rw [List.length_map, List.length_range] at this
        omega
      walk_at "pp"
      exact q b ⟨by omega, bo, fun k d e => by have := bp k d e; omega⟩ (by omega)
    · obtain ⟨hi, rfl⟩ := range_at e
      walk_at "pp"
      refine ⟨rfl, io_by rfl, ls, cl, ss, _, rfl, l1, l7, s8, cn, by omega, nml, nms, nmn, by omega, by omega, fun d cl' dk dl cn' cl1 => ?_⟩
      refine w_ioOk ?_
      walk_at "pp"
      refine ⟨by rw [List.length_map]; exact small1000 (by omega), b ++ [d], cl', _, by rw [List.map_append]; rfl, by rw [List.length_append, bl]; rfl, hi, fun x hx => ?_, fun k x ex => ?_, cn', by omega⟩
      · rcases List.mem_append.mp hx with m | m
        · exact bo x m
        · rw [List.mem_singleton.mp m]; exact dk
      · by_cases c : k < b.length
        · rw [List.getElem?_append_left c] at ex
          exact bp k x ex
        · have hl := (List.getElem?_eq_some_iff.mp ex).1
          rw [List.length_append, List.length_singleton] at hl
          have : k = i := by omega
          subst this
          rw [List.getElem?_append_right (by omega), bl, Nat.sub_self] at ex
          obtain rfl : d = x := by simpa using ex
          omega
theorem ok__law_drawn (F : FnP K "_law_drawn" s__law_drawn f fd) (T : BltA mg) (c__law_draw : Cal P w K mg base 1 "_law_draw" (lsp ⟨K, tb⟩ none pDraw) []) (c__law_name : Cal P w K mg base 2 "_law_name" (lsp ⟨K, tb⟩ (some 1) pName) []) (c__law_number : Cal P w K mg base 2 "_law_number" (lsp ⟨K, tb⟩ none pNumber) []) (c__law_acts : Cal P w K mg base 4 "_law_acts" (lsp ⟨K, tb⟩ none pActs) []) : FnOk P w K mg base CX0 5 f fd ["_law_pot_here", "_law_folk", "_law_high"] (lsp ⟨K, tb⟩ none pDrawn) := by
  refine F.ok sc__law_drawn (lsp_len (by rintro ds Q3 ⟨f, h, rfl, _⟩; rfl)) (fun cdv A outer s H vs Q E hr h => ⟨_, PSs.nox
(pss_cons (toN (ps_set (i := 3) sc__law_drawn.nd rfl (.inr rfl) (pe_lst pa_nil)))
  (pss_cons (ps_setLc (i := 4) (own := [("_law_k", 5)]) (tt := tYes) rfl sc__law_drawn.nd rfl rfl (sw_true rfl rfl rfl (by decide +kernel)) (pi_range1 (by rfl) T.b_range (pa_cons (pe_ix (ix_listK K) (pe_lst (pa_cons pe_int (pa_cons pe_int (pa_cons pe_int (pa_cons (pe_op op_add pe_int (pe_c c__law_draw hr (by decide) (by rfl) (pa_cons (pv 0) (pa_cons pe_int pa_nil)))) pa_nil))))) (pe_c c__law_draw hr (by decide) (by rfl) (pa_cons (pv 0) (pa_cons pe_int pa_nil))) (fun _ _ => rfl)) pa_nil)) (blkOk_by (N := ["_law_pot_here", "_law_folk", "_law_high", "_law_taken", "_law_latches", "_law_k", "_law_slots", "_law_crew"]) (sc := defScope s__law_drawn) (by decide +kernel)) (fun _ _ _ _ _ => pg_name (i := 5) sc__law_drawn.nd rfl (Or.inl rfl)) (fun _ _ _ _ _ => pts_nil) (fun _ _ _ _ _ => (toIo 3 (pe_c c__law_name hr (by decide) (by rfl) (pa_cons (pv 0) (pa_cons (pv 3) pa_nil))))))
  (pss_cons (toN (ps_set (i := 6) sc__law_drawn.nd rfl (.inl rfl) (pe_lst pa_nil)))
  (pss_cons (ps_for PassesOwn.never rfl (pi_range1 (by rfl) T.b_range (pa_cons (pe_ix (ix_listK K) (pe_lst (pa_cons pe_int (pa_cons pe_int (pa_cons pe_int (pa_cons (pe_c c__law_draw hr (by decide) (by rfl) (pa_cons (pv 0) (pa_cons pe_int pa_nil))) pa_nil))))) (pe_c c__law_draw hr (by decide) (by rfl) (pa_cons (pv 0) (pa_cons pe_int pa_nil))) (fun _ _ => rfl)) pa_nil)) (pg_name (i := 5) sc__law_drawn.nd rfl (.inl rfl))
    (pss_one (ps_expr (kBM K (pe_bm PySem.F.plainAttrs_list PySem.F.slot_list_append PySem.F.type_list_append mt_append (pv 6) (pa_cons (pe_tup (pa_cons (toIo 3 (pe_c c__law_name hr (by decide) (by rfl) (pa_cons (pv 0) (pa_cons (pv 3) pa_nil)))) (pa_cons (pe_ix (ix_listK K) (pv 4) (pe_c c__law_draw hr (by decide) (by rfl) (pa_cons (pv 0) (pa_cons (pe_callB (call_lenK K) (by rfl) T.b_len PySem.boot_len (pa_cons (pv 4) pa_nil)) pa_nil))) (fun _ _ => rfl)) (pa_cons (pe_c c__law_number hr (by decide) (by rfl) (pa_cons (pv 0) pa_nil)) pa_nil)))) pa_nil))))))
  (pss_cons (toN (ps_set (i := 7) sc__law_drawn.nd rfl (.inl rfl) (pe_lst pa_nil)))
  (pss_cons (toFzS 6 (ps_for PassesOwn.never rfl (pi_range1 (by rfl) T.b_range (pa_cons (pv 1) pa_nil)) (pg_name (i := 5) sc__law_drawn.nd rfl (.inl rfl))
    (pss_one (ps_expr (kBM K (pe_bm PySem.F.plainAttrs_list PySem.F.slot_list_append PySem.F.type_list_append mt_append (pv 7) (pa_cons (pe_tup (pa_cons (toIo 3 (pe_c c__law_name hr (by decide) (by rfl) (pa_cons (pv 0) (pa_cons (pv 3) pa_nil)))) (pa_cons (pe_c c__law_acts hr (by decide) (by rfl) (pa_cons (pv 0) (pa_cons (pv 4) (pa_cons (pv 6) (pa_cons (pv 2) pa_nil))))) pa_nil))) pa_nil)))))))
  (pss_one (ps_ret (pe_tup (pa_cons (pv 4) (pa_cons (pv 6) (pa_cons (pv 7) pa_nil))))))))))))
, run3' ?go h⟩)
  case go =>
    refine ⟨_, (by walk_at "li"), ?_⟩
    rintro ds Q3 ⟨fo, h, rfl, f0, f6, h0, h12, q⟩
    obtain ⟨fn, rfl⟩ := Int.eq_ofNat_of_zero_le f0
    walk_at "pp"
    refine ⟨Nat.zero_le _, ?_⟩
    walk_at "pp"
    refine ⟨7, rfl, by decide, by decide, fun d0 a0 a1 => ?_⟩
    walk_at "pp"
    refine ⟨(by show 4 ≤ sizeLine; decide), ?_⟩
    walk_at "pp"
    refine ⟨4, rfl, by decide, by decide, fun d1 b0 b1 => ?_⟩
    walk_at "pp"
    obtain ⟨j, hj, rfl, ej⟩ := at_map D.int (xs := [2, 3, 4, 1 + d0]) b0 b1
    refine w_ixL ej ?_
    have hm := List.getElem_mem hj
    generalize ([2, 3, 4, 1 + d0] : List Int)[j] = m at hm
    have m01 : 1 ≤ m ∧ m ≤ 7 := by
      simp only [List.mem_cons, List.not_mem_nil, or_false] at hm
      omega
    clear hm ej
    obtain ⟨n, rfl⟩ := Int.eq_ofNat_of_zero_le (show 0 ≤ m by omega)
    walk_at "pp"
    refine ⟨(n : Int), rfl, by omega, by omega, ?_⟩
    rw [Int.toNat_natCast]
    refine ⟨fun i acc ρ => ∃ ws : List Str, ρ = [.val potD, .val (.int fn), .val (.int h), .own true (strsD ws), .un, .un, .un, .un] ∧ ws.length = i ∧ i ≤ n ∧ acc = strsD ws ∧ ws.Nodup ∧ (∀ z ∈ ws, Nm z), ⟨[], rfl, rfl, Nat.zero_le _, rfl, List.nodup_nil, (fun _ z => nomatch z)⟩, ?_⟩
    rintro i acc ρ ⟨ws, rfl, e1, e2, rfl, nd, nm⟩
    refine ⟨fun hn => ?_, fun d hd => ?_⟩
    case refine_2 =>
      obtain ⟨hi, rfl⟩ := range_at hd
      walk_at "pp"
      refine ⟨rfl, io_by rfl, ws, rfl, by omega, fun z hz hn => ?_⟩
      refine w_ioOk ?_
      walk_at "pp"
      refine ⟨by rw [List.length_map]; exact small1000 (by omega), ws ++ [z], rfl, by rw [List.length_append, e1]; rfl, hi, strs_snoc _ _, nd_snoc nd hn, nm_snoc nm hz⟩
    have hi : i = n := by
      have := List.getElem?_eq_none_iff.mp hn
      rw [List.length_map, List.length_range] at this
      omega
    subst hi
    clear hn
    generalize hls : ws = ls at *
    walk_at "pp"
    refine ⟨Nat.zero_le _, ?_⟩
    walk_at "pp"
    refine ⟨9, rfl, by decide, by decide, fun d2 a2 a3 => ?_⟩
    walk_at "pp"
    refine ⟨(by show 4 ≤ sizeLine; decide), ?_⟩
    walk_at "pp"
    refine ⟨4, rfl, by decide, by decide, fun d3 b2 b3 => ?_⟩
    walk_at "pp"
    obtain ⟨j2, hj2, rfl, ej⟩ := at_map D.int (xs := [2, 3, 1, d2]) b2 b3
    refine w_ixL ej ?_
    have hm := List.getElem_mem hj2
    generalize ([2, 3, 1, d2] : List Int)[j2] = m at hm
    have m02 : 0 ≤ m ∧ m ≤ 8 := by
      simp only [List.mem_cons, List.not_mem_nil, or_false] at hm
      omega
    clear hm ej
    obtain ⟨k, rfl⟩ := Int.eq_ofNat_of_zero_le m02.1
    walk_at "pp"
    refine ⟨(k : Int), rfl, by omega, by omega, ?_⟩
    rw [Int.toNat_natCast]
    refine ⟨fun i ρ => ∃ (cs : List L3.Cl) (p5 : PV), ρ = [.val potD, .val (.int fn), .val (.int h), .own true (strsD (ls ++ cs.map (·.name))), .val (.lst (strsD ls)), p5, .own true (cs.map clD), .un] ∧ cs.length = i ∧ i ≤ k ∧ (ls ++ cs.map (·.name)).Nodup ∧ (∀ z ∈ ls ++ cs.map (·.name), Nm z) ∧ ∀ c ∈ cs, c.lock ∈ ls ∧ -far ≤ c.val ∧ c.val ≤ far, ⟨[], _, by rw [List.map_nil, List.append_nil]; rfl, rfl, Nat.zero_le _, by rw [List.map_nil, List.append_nil]; exact nd, by rw [List.map_nil, List.append_nil]; exact nm, (fun _ z => nomatch z)⟩, ?_⟩
    rintro i2 ρ ⟨cs, p5, rfl, cl, ci, cnd, cnm, cok⟩
    refine ⟨fun e => ?_, fun d e => ?_⟩
    case refine_2 =>
      obtain ⟨hi, rfl⟩ := range_at e
      walk_at "pp"
      refine ⟨rfl, io_by rfl, ls ++ cs.map (·.name), rfl, by rw [List.length_append, List.length_map]; omega, fun z hz hn => ?_⟩
      refine w_ioOk ?_
      walk_at "pp"
      rw [List.length_map]
      refine ⟨_, rfl, by omega, by omega, fun d4 c0 c1 => ?_⟩
      walk_at "pp"
      obtain ⟨j3, hj3, rfl, ej⟩ := at_map D.str (xs := ls) c0 c1
      refine w_ixL ej ?_
      walk_at "pp"
      refine ⟨rfl, fun v v0 v1 => ?_⟩
      walk_at "pp"
      refine ⟨(by show 3 ≤ sizeLine; decide), ?_⟩
      walk_at "pp"
      have hl := List.getElem_mem hj3
      refine ⟨by rw [List.length_map]; exact small1000 (by omega), cs ++ [⟨z, ls[j3], v⟩], .val (.int (i2 : Int)), ?_, by rw [List.length_append, cl]; rfl, hi, ?_, ?_, fun c hc => ?_⟩
      · rw [List.map_append, List.map_append, ← List.append_assoc]
        rfl
      · rw [List.map_append, ← List.append_assoc]
        exact nd_snoc cnd hn
      · rw [List.map_append, ← List.append_assoc]
        exact nm_snoc cnm hz
      · rcases List.mem_append.mp hc with m | m
        · exact cok c m
        · rw [List.mem_singleton.mp m]
          exact ⟨hl, v0, v1⟩
    have hi : i2 = k := by
      have := List.getElem?_eq_none_iff.mp e
      rw [List.length_map, List.length_range] at this
      omega
    subst hi
    clear e
    walk_at "pp"
    refine ⟨Nat.zero_le _, ?_⟩
    walk_at "pp"
    refine ⟨(fn : Int), rfl, by omega, by omega, ?_⟩
    rw [Int.toNat_natCast]
    refine ⟨fun i ρ => ∃ (ts : List Tk) (p5 : PV), ρ = [.val potD, .val (.int fn), .val (.int h), .own true (strsD (ls ++ cs.map (·.name) ++ ts.map (·.1))), .val (.lst (strsD ls)), p5, .val (.lst (cs.map clD)), .own true (ts.map tkD)] ∧ ts.length = i ∧ i ≤ fn ∧ (ls ++ cs.map (·.name) ++ ts.map (·.1)).Nodup ∧ (∀ z ∈ ls ++ cs.map (·.name) ++ ts.map (·.1), Nm z) ∧ ∀ t ∈ ts, BodyOk ls (cs.map (·.name)) t.2 ∧ (t.2.length : Int) ≤ h, ⟨[], _, by rw [List.map_nil, List.append_nil]; rfl, rfl, Nat.zero_le _, by rw [List.map_nil, List.append_nil]; exact cnd, by rw [List.map_nil, List.append_nil]; exact cnm, (fun _ z => nomatch z)⟩, ?_⟩
    rintro i3 ρ ⟨ts, p6, rfl, tl, ti, tnd, tnm, tok⟩
    refine ⟨fun e => ?_, fun d e => ?_⟩
    case refine_2 =>
      obtain ⟨hi, rfl⟩ := range_at e
      walk_at "pp"
      refine ⟨rfl, io_by rfl, ls ++ cs.map (·.name) ++ ts.map (·.1), rfl, by rw [List.length_append, List.length_append, List.length_map, List.length_map]; omega, fun z hz hn => ?_⟩
      refine w_ioOk ?_
      walk_at "pp"
      refine ⟨ls, cs, h, rfl, by omega, by omega, by omega, fun z hz => nm z hz, fun c hc => nm _ (cok c hc).1, fun c hc => cnm _ (List.mem_append_right _ (List.mem_map_of_mem hc)), h0, h12, fun b bo bh => ?_⟩
      walk_at "pp"
      refine ⟨(by show 2 ≤ sizeLine; decide), ?_⟩
      walk_at "pp"
      refine ⟨by rw [List.length_map]; exact small1000 (by omega), ts ++ [(z, b)], .val (.int (i3 : Int)), ?_, by rw [List.length_append, tl]; rfl, hi, ?_, ?_, fun t ht => ?_⟩
      · rw [List.map_append, List.map_append, ← List.append_assoc]
        rfl
      · rw [List.map_append, ← List.append_assoc]
        exact nd_snoc tnd hn
      · rw [List.map_append, ← List.append_assoc]
        exact nm_snoc tnm hz
      · rcases List.mem_append.mp ht with m | m
        · exact tok t m
        · rw [List.mem_singleton.mp m]
          exact ⟨bo, bh⟩
    have hi : i3 = fn := by
      have := List.getElem?_eq_none_iff.mp e
      rw [List.length_map, List.length_range] at this
      omega
    subst hi
    clear e
    walk_at "pp"
    refine ⟨(by show 3 ≤ sizeLine; decide), ?_⟩
    exact q ⟨ls, cs, ts⟩ ⟨(by show 1 ≤ ls.length; omega), (by show ls.length ≤ 7; omega), (by show cs.length ≤ 8; omega), (by show ts.length ≤ 6; omega), tnd, tnm, cok, fun t ht => (tok t ht).1⟩ (by exact_mod_cast tl) fun t ht => (tok t ht).2
end
end K22
namespace K22
open PySem PySem.Spec PyProof.Rows L2 TB LamX NdefX L3 L4
open C8 (Cal pe_c Mak pe_mk Met pe_mt pe_mt0 pss_cut tCut pe_gc)
theorem sc_Plan___init__ : FnScope ["self", "locks", "cells", "tasks", "rows", "taken", "name", "body", "cell"] ["self", "locks", "cells", "tasks"] (defScope s_Plan___init__) := ⟨rfl, rfl, rfl, by decide +kernel, rfl, by decide +kernel, by decide +kernel⟩
section
variable {P : Program} {w : World} {K : PySem.W.Frag} {mg : Str → Option Value} {base : Heap} {f C : Addr} {fd : FuncData} {tb : List (Addr × Str)}
theorem ok_Plan___init__ (F : FunD K "__init__" "Plan.__init__" (defArgs s_Plan___init__) (defBody s_Plan___init__) (defScope s_Plan___init__) [.non] [] f fd) (T : BltA mg) (cl : Cls K C) (n1 : NoAttr K C "own_locks") (n2 : NoAttr K C "own_cells") (n3 : NoAttr K C "own_tasks") (n4 : NoAttr K C "own_names")
    (c_want_locks : Cal P w K mg base 3 "want_locks" (lsp ⟨K, tb⟩ (some 1) pWantLocks) []) (c_want_cells : Cal P w K mg base 3 "want_cells" (lsp ⟨K, tb⟩ (some 2) pWantCells) []) (c_want_tasks : Cal P w K mg base 3 "want_tasks" (lsp ⟨K, tb⟩ (some 1) pWantTasks) []) (c_is_body : Cal P w K mg base 4 "is_body" (lsp ⟨K, tb⟩ none pIsBody) []) : FnOk P w K mg base CX0 5 f fd ["self", "locks", "cells", "tasks"] (lsp4 ⟨K, tb⟩ (pPlanInit C)) := by
  refine F.ok sc_Plan___init__ (lsp4_len (by rintro xs μ Q4 X4 ⟨a, dx, p, t, rfl, _⟩; rfl)) (fun cdv A outer s H vs Q E hr h => ⟨_, PSs.nox
(pss_cut (ps_set (i := 4) sc_Plan___init__.nd rfl (.inl rfl) (pe_ifExp (pt_cmpR op_isN (pv 3) pe_non (nomark _)) (pe_lst pa_nil) (pv 3)))
  (pss_cons (ps_set (i := 5) sc_Plan___init__.nd rfl (.inl rfl) (toMu (pe_lst pa_nil)))
  (pss_cons (ps_expr (pe_c c_want_locks hr (by decide) (by rfl) (pa_cons (pv 1) (pa_cons (pv 5) pa_nil))))
  (pss_cons (ps_expr (pe_c c_want_cells hr (by decide) (by rfl) (pa_cons (pv 2) (pa_cons (pv 1) (pa_cons (pv 5) pa_nil)))))
  (pss_cons (ps_expr (pe_c c_want_tasks hr (by decide) (by rfl) (pa_cons (pv 4) (pa_cons (pv 5) pa_nil))))
  (pss_cons (ps_for PassesOwn.never rfl (kPI K (pi_list (pv 4))) (kTup K 2 (pg_tup rfl (pgs_cons (pg_name (i := 6) sc_Plan___init__.nd rfl (.inl rfl)) (pgs_cons (pg_name (i := 7) sc_Plan___init__.nd rfl (.inl rfl)) pgs_nil))))
    (pss_one (ps_if (pt_not (pt_val (pe_c c_is_body hr (by decide) (by rfl) (pa_cons (pv 7) (pa_cons (pv 1) (pa_cons (pe_lc (own := [("cell", 8)]) (tt := tYes) rfl sc_Plan___init__.nd (kPI K (pi_list (pv 2))) (blkOk_by (N := ["self", "locks", "cells", "tasks", "rows", "taken", "name", "body", "cell"]) (sc := defScope s_Plan___init__) (by decide +kernel)) (fun _ _ _ _ _ => pg_name (i := 8) sc_Plan___init__.nd rfl (Or.inl rfl)) (fun _ _ _ _ _ => pts_nil) (fun _ _ _ _ _ => (pe_ix (ix_tupK K) (pv 8) pe_int (fun _ _ => rfl)))) pa_nil))))))
        (pss_one ps_never)
        pss_nil)))
  (pss_cons (kSFld K (ps_fld (pv 0) (pe_callTy (call_listK K) (by rfl) T.b_list (by decide +kernel) (pa_cons (pv 1) pa_nil)) rfl))
  (pss_cons (kSFld K (ps_fld (pv 0) (pe_callTy (call_listK K) (by rfl) T.b_list (by decide +kernel) (pa_cons (pv 2) pa_nil)) rfl))
  (pss_cons (kSFld K (ps_fld (pv 0) (pe_lc (own := [("name", 6), ("body", 7)]) (tt := tYes) rfl sc_Plan___init__.nd (kPI K (pi_list (pv 4))) (blkOk_by (N := ["self", "locks", "cells", "tasks", "rows", "taken", "name", "body", "cell"]) (sc := defScope s_Plan___init__) (by decide +kernel)) (fun _ _ _ _ _ => kTup K 2 (pg_tup rfl (pgs_cons (pg_name (i := 6) sc_Plan___init__.nd rfl (Or.inl rfl)) (pgs_cons (pg_name (i := 7) sc_Plan___init__.nd rfl (Or.inl rfl)) pgs_nil)))) (fun _ _ _ _ _ => pts_nil) (fun _ _ _ _ _ => (pe_tup (pa_cons (pv 6) (pa_cons (pe_callTy (call_listK K) (by rfl) T.b_list (by decide +kernel) (pa_cons (pv 7) pa_nil)) pa_nil))))) rfl))
  (pss_one (kSFld K (ps_fld (pv 0) (toFz (pv 5)) rfl))))))))))))
, run4 ?go h⟩)
  case go =>
    refine ⟨_, (by walk_at "l4s"), ?_⟩
    rintro xs μ Q4 X4 ⟨a, dx, p, t, rfl, ht, em, ok, q⟩
    refine ⟨fun ρ' μ' => μ = μ' ∧ ρ' = [some (.loc a), some (.d (.lst (strsD p.locks))), some (.d (.lst (p.cells.map clD))), some (.d t), some (.d (.lst (p.tasks.map tkD))), none, none, none, none], ?_, ?_⟩
    · walk_at "p4s"
      rcases ht with rfl | ⟨rfl, e⟩
      · walk_at "p4s"
        exact ⟨rfl, rfl⟩
      · walk_at "p4s"
        rw [e]
        exact ⟨rfl, rfl⟩
    rintro _ μ2 ⟨rfl, rfl⟩
    walk_at "p4s"
    intro pt npt
    walk_at "p4s"
    have ne : a ≠ pt := fun z => by rw [z, npt] at em; exact nomatch em
    refine ⟨pt, [], [.lst (strsD p.locks), .lst []], rfl, updM_same, rfl, ?_⟩
    refine ⟨p.locks, [], rfl, ok.l1, ok.l7, fun z hz => ok.nm z (List.mem_append_left _ (List.mem_append_left _ hz)), ?_, Nat.zero_le _, ?_⟩
    · exact (List.nodup_append.mp (List.nodup_append.mp ok.nd).1).1
    refine ⟨_, _, rfl, rfl, ?_⟩
    rw [updM_upd]
    walk_at "p4s"
    refine ⟨pt, strsD p.locks, [.lst (p.cells.map clD), .lst (strsD p.locks), .lst (strsD p.locks)], rfl, updM_same, rfl, ?_⟩
    refine ⟨p.cells, p.locks, p.locks, rfl, ok.c8, fun c hc => ⟨ok.nm _ (List.mem_append_left _ (List.mem_append_right _ (List.mem_map_of_mem hc))), ok.cl c hc⟩, (List.nodup_append.mp ok.nd).1, Nat.le_trans ok.l7 (by decide), ?_⟩
    refine ⟨_, _, rfl, rfl, ?_⟩
    rw [updM_upd]
    walk_at "p4s"
    refine ⟨pt, strsD (p.locks ++ p.cellNames), [.lst (p.tasks.map tkD), .lst (strsD (p.locks ++ p.cellNames))], rfl, updM_same, rfl, ?_⟩
    refine ⟨p.tasks, p.locks ++ p.cellNames, rfl, ok.t6, fun t ht => ok.nm _ (List.mem_append_right _ (List.mem_map_of_mem ht)), ok.nd, ?_, ?_⟩
    · have h1 := ok.l7
      have h2 := ok.c8
      rw [List.length_append, PlanL.cellNames, List.length_map]
      omega
    refine ⟨_, _, rfl, rfl, ?_⟩
    rw [updM_upd]
    walk_at "p4s"
    refine v_for3 ⟨fun i ρ' μ' => μ' = updM μ pt (.lst ((strsD p.taken).map Vl.d)) ∧ ∃ p6 p7, ρ' = [some (.loc a), some (.d (.lst (strsD p.locks))), some (.d (.lst (p.cells.map clD))), some (.d t), some (.d (.lst (p.tasks.map tkD))), some (.loc pt), p6, p7, none], ⟨rfl, _, _, rfl⟩, ?_⟩
    rintro i _ _ ⟨rfl, p6, p7, rfl⟩
    refine ⟨fun e => ?_, fun d e => ?_⟩
    · walk_at "p4s"
      refine ⟨a, C, dx, _, rfl, by rw [updM_ne ne]; exact em, cl, n1, by decide, ?_⟩
      walk_at "p4s"
      refine ⟨a, C, dx, _, rfl, updM_same, cl, n2, (by show 1 < 1000; decide), ?_⟩
      walk_at "p4s"
      refine v_lcMap tkD (by have := ok.t6; omega) ?_ ?_
      · intro t ht Y N hY
        refine v_gtup (xs := [.d (.str t.1), .d (.lst (t.2.map ddD))]) rfl rfl ?_
        walk_at "p4s"
        exact hY
      refine ⟨p.tasks.map tkD, allD_map _, ?_⟩
      walk_at "p4s"
      refine ⟨a, C, dx, _, rfl, updM_same, cl, n3, (by show 2 < 1000; decide), ?_⟩
      walk_at "p4s"
      refine ⟨pt, strsD p.taken, rfl, by rw [updM_ne (fun z => ne z.symm), updM_ne (fun z => ne z.symm), updM_ne (fun z => ne z.symm)]; exact updM_same, ?_⟩
      walk_at "p4s"
      refine ⟨a, C, dx, _, rfl, by rw [delM_ne ne]; exact updM_same, cl, n4, (by show 3 < 1000; decide), ?_⟩
      have fin : updM (delM (updM (updM (updM (updM μ pt (.lst ((strsD p.taken).map Vl.d))) a (.ins C dx (put4 "own_locks" (.d (.lst (strsD p.locks))) []))) a (.ins C dx (put4 "own_cells" (.d (.lst (p.cells.map clD))) (put4 "own_locks" (.d (.lst (strsD p.locks))) [])))) a (.ins C dx (put4 "own_tasks" (.d (.lst (p.tasks.map tkD))) (put4 "own_cells" (.d (.lst (p.cells.map clD))) (put4 "own_locks" (.d (.lst (strsD p.locks))) []))))) pt) a (.ins C dx (planF p)) = updM μ a (.ins C dx (planF p)) := by
        rw [updM_upd, updM_upd, delM_comm ne, updM_upd, delM_upd npt]
      rw [← fin] at q
      exact q
    · obtain ⟨t, htm, rfl⟩ := List.mem_map.mp (List.mem_of_getElem? e)
      walk_at "p4s"
      refine v_gtup (xs := [.d (.str t.1), .d (.lst (t.2.map ddD))]) rfl rfl ?_
      walk_at "p4s"
      refine v_lcMap (fun c => .str c.name) (by have := ok.c8; omega) ?_ ?_
      · intro c hc Y N hY
        walk_at "p4s"
        refine v_ixT at0 ?_
        exact hY
      refine ⟨_, allD_map _, ?_⟩
      walk_at "p4s"
      refine ⟨t.2, p.locks, p.cellNames, by rw [PlanL.cellNames]; simp [strsD, List.map_map], ok.bd t htm, ?_⟩
      walk_at "p4s"
      exact ⟨rfl, _, _, rfl⟩
end
end K22
namespace K22
open PySem PySem.Spec PyProof.Rows L2 TB LamX NdefX L3
open L4 (pCellOf pLockOf)
open C8 (Cal pe_c Mak pe_mk Met pe_mt pe_mt0 pss_cut tCut pe_gc)
theorem sc_Plan_cell_of : FnScope ["self", "name", "found", "cell"] ["self", "name"] (defScope s_Plan_cell_of) := ⟨rfl, rfl, rfl, by decide +kernel, rfl, by decide +kernel, by decide +kernel⟩
theorem sc_Plan_lock_of : FnScope ["self", "cell"] ["self", "cell"] (defScope s_Plan_lock_of) := ⟨rfl, rfl, rfl, by decide +kernel, rfl, by decide +kernel, by decide +kernel⟩
section
variable {P : Program} {w : World} {K : PySem.W.Frag} {mg : Str → Option Value} {base : Heap} {f C : Addr} {fd : FuncData} {tb : List (Addr × Str)}
theorem ok_Plan_cell_of (F : FunD K "cell_of" "Plan.cell_of" (defArgs s_Plan_cell_of) (defBody s_Plan_cell_of) (defScope s_Plan_cell_of) [] [] f fd) (T : BltA mg) (cl : Cls K C) (n1 : NoAttr K C "own_cells") : FnOk P w K mg base CX0 1 f fd ["self", "name"] (lsp ⟨K, tb⟩ none (pCellOf C)) := by
  refine F.ok sc_Plan_cell_of (lsp_len (by rintro ds Q3 ⟨p, c, rfl, _⟩; rfl)) (fun cdv A outer s H vs Q E hr h => ⟨_, PSs.nox
(pss_cons (ps_setLc (i := 2) (own := [("cell", 3)]) rfl sc_Plan_cell_of.nd rfl rfl (sw_true rfl rfl rfl (by decide +kernel)) (kPI K (pi_list (kFld K (pe_fld (pv 0) rfl)))) (blkOk_by (N := ["self", "name", "found", "cell"]) (sc := defScope s_Plan_cell_of) (by decide +kernel)) (fun _ _ _ _ _ => pg_name (i := 3) sc_Plan_cell_of.nd rfl (Or.inl rfl)) (fun _ _ _ _ _ => pts_one (pt_cmpR op_eq (pe_ix (ix_tupK K) (pv 3) pe_int (fun _ _ => rfl)) (pv 1) (nomark _))) (fun _ _ _ _ _ => (pv 3)))
  (pss_cons (ps_if (pt_cmpR (op_eqDK K hr.units) (pv 2) (pe_lst pa_nil) (nomark _))
    (pss_one ps_never)
    pss_nil)
  (pss_one (ps_ret (pe_ix (ix_listK K) (pv 2) pe_int (fun _ _ => rfl))))))
, run3' ?go h⟩)
  case go =>
    refine ⟨_, (by walk_at "li"), ?_⟩
    rintro ds Q3 ⟨p, c, rfl, ok, hc, q⟩
    walk_at "pp"
    refine ⟨_, _, _, rfl, rfl, rfl, ?_⟩
    walk_at "pp"
    refine LcP_filter (xs := p.cells) (enc := clD) (fun y => decide (y.name = c.name)) clD (small1000 (by have := ok.c8; omega)) ?_ ?_
    · intro y hy Y N hY hN
      walk_at "pp"
      refine w_ixT at0 ?_
      walk_at "pp"
      by_cases e : y.name = c.name
      · rw [decide_eq_true e]
        walk_at "pp"
        exact hY _ (decide_eq_true e) rfl
      · rw [decide_eq_false e]
        walk_at "pp"
        exact hN _ (decide_eq_false e) rfl
    rw [filter_one ok.ndC hc]
    walk_at "pp"
    refine ⟨Nat.zero_le _, ?_⟩
    walk_at "pp"
    refine w_eqC (by show (cln (clD c) && true) = true; rw [cln_cl (ok.nmC hc) (ok.nmL _ (ok.cl c hc).1)]; rfl) rfl (by show max (dpt (clD c)) 0 + 1 ≤ 64; rw [dpt_cl]; decide) (by decide) fun b hb => ?_
    obtain rfl : b = false := by
      cases b with
      | false => rfl
      | true => exact nomatch (D.lst.inj (hb.mp rfl))
    walk_at "pp"
    refine w_ixL at0 ?_
    walk_at "pp"
    exact q
theorem ok_Plan_lock_of (F : FunD K "lock_of" "Plan.lock_of" (defArgs s_Plan_lock_of) (defBody s_Plan_lock_of) (defScope s_Plan_lock_of) [] [] f fd) (T : BltA mg) (cl : Cls K C) (n1 : NoAttr K C "own_cells") (m_Plan_cell_of : Met P w K mg base 1 C "cell_of" (lsp ⟨K, tb⟩ none (pCellOf C)) []) : FnOk P w K mg base CX0 2 f fd ["self", "cell"] (lsp ⟨K, tb⟩ none (pLockOf C)) := by
  refine F.ok sc_Plan_lock_of (lsp_len (by rintro ds Q3 ⟨p, c, rfl, _⟩; rfl)) (fun cdv A outer s H vs Q E hr h => ⟨_, PSs.nox
(pss_one (ps_ret (pe_ix (ix_tupK K) (pe_mt m_Plan_cell_of hr (by decide) (pv 0) (pa_cons (pv 1) pa_nil)) pe_int (fun _ _ => rfl))))
, run3' ?go h⟩)
  case go =>
    refine ⟨_, (by walk_at "li"), ?_⟩
    rintro ds Q3 ⟨p, c, rfl, ok, hc, q⟩
    walk_at "pp"
    refine w_planM (by decide) ?_
    walk_at "pp"
    refine ⟨p, c, rfl, ok, hc, ?_⟩
    walk_at "pp"
    refine w_ixT at1 ?_
    walk_at "pp"
    exact q
end
end K22
namespace K22
open PySem PySem.Spec PyProof.Rows L2 TB LamX NdefX
open C8 (Cal pe_c Mak pe_mk Met pe_mt pe_mt0 pss_cut tCut pe_gc)
theorem sc_Life___init__ : FnScope ["self", "place", "hand", "drafts", "called"] ["self", "place", "hand", "drafts", "called"] (defScope s_Life___init__) := ⟨rfl, rfl, rfl, by decide +kernel, rfl, by decide +kernel, by decide +kernel⟩
section
variable {P : Program} {w : World} {K : PySem.W.Frag} {mg : Str → Option Value} {base : Heap} {f C : Addr} {fd : FuncData}
theorem ok_Life___init__ {kws : List (Str × V)} (F : FunD K "__init__" "Life.__init__" (defArgs s_Life___init__) (defBody s_Life___init__) (defScope s_Life___init__) [] kws f fd) (lc : LifC K C) : FnOk P w K mg base CX0 1 f fd ["self", "place", "hand", "drafts", "called"] (spLifeI C) := by
  refine F.ok sc_Life___init__ (fun vs H Q E h => ?_) (fun cdv A outer s H vs Q E hr h => ⟨_, PSs.nox
(pss_cons (kSFld K (ps_fld (pv 0) (pv 1) rfl))
  (pss_cons (kSFld K (ps_fld (pv 0) (pv 2) rfl))
  (pss_cons (kSFld K (ps_fld (pv 0) (pv 3) rfl))
  (pss_one (kSFld K (ps_fld (pv 0) (pv 4) rfl))))))
, ?_⟩)
  · obtain ⟨x, dx, v1, v2, v3, v4, rfl, _⟩ := h
    rfl
  · obtain ⟨x, dx, v1, v2, v3, v4, rfl, h1, q⟩ := h
    walk_at "ss"
    refine ⟨x, C, dx, _, rfl, h1, lc.cls, lc.n1, by decide, ?_⟩
    walk_at "ss"
    refine ⟨x, C, dx, _, rfl, upd_same, lc.cls, lc.n2, (by show 1 < 1000; decide), ?_⟩
    walk_at "ss"
    refine ⟨x, C, dx, _, rfl, upd_same, lc.cls, lc.n3, (by show 2 < 1000; decide), ?_⟩
    walk_at "ss"
    refine ⟨x, C, dx, _, rfl, upd_same, lc.cls, lc.n4, (by show 3 < 1000; decide), ?_⟩
    walk_at "ss"
    rw [upd_upd, upd_upd, upd_upd]
    exact q
end
end K22
namespace K22
open PySem PySem.Spec PyProof.Rows L2 TB LamX NdefX L3 L4
open C8 (Cal pe_c Mak pe_mk Met pe_mt pe_mt0 pss_cut tCut pe_gc)
theorem sc_found_in : FnScope ["life", "cell", "cells", "name", "value"] ["life", "cell", "cells"] (defScope s_found_in) := ⟨rfl, rfl, rfl, by decide +kernel, rfl, by decide +kernel, by decide +kernel⟩
theorem sc_with_hand : FnScope ["life", "hand", "by"] ["life", "hand", "by"] (defScope s_with_hand) := ⟨rfl, rfl, rfl, by decide +kernel, rfl, by decide +kernel, by decide +kernel⟩
theorem sc_do_set : FnScope ["life", "deed", "cells"] ["life", "deed", "cells"] (defScope s_do_set) := ⟨rfl, rfl, rfl, by decide +kernel, rfl, by decide +kernel, by decide +kernel⟩
theorem sc_do_add : FnScope ["life", "deed", "cells"] ["life", "deed", "cells"] (defScope s_do_add) := ⟨rfl, rfl, rfl, by decide +kernel, rfl, by decide +kernel, by decide +kernel⟩
theorem sc_do_take : FnScope ["life", "deed", "cells", "called"] ["life", "deed", "cells"] (defScope s_do_take) := ⟨rfl, rfl, rfl, by decide +kernel, rfl, by decide +kernel, by decide +kernel⟩
theorem sc_do_read : FnScope ["life", "deed", "cells"] ["life", "deed", "cells"] (defScope s_do_read) := ⟨rfl, rfl, rfl, by decide +kernel, rfl, by decide +kernel, by decide +kernel⟩
theorem sc_do_write : FnScope ["life", "deed", "cells", "drafts"] ["life", "deed", "cells"] (defScope s_do_write) := ⟨rfl, rfl, rfl, by decide +kernel, rfl, by decide +kernel, by decide +kernel⟩
theorem sc_do_skip : FnScope ["life", "deed", "cells", "word", "number", "many"] ["life", "deed", "cells"] (defScope s_do_skip) := ⟨rfl, rfl, rfl, by decide +kernel, rfl, by decide +kernel, by decide +kernel⟩
theorem sc_does_fail : FnScope ["life", "deed", "plan"] ["life", "deed", "plan"] (defScope s_does_fail) := ⟨rfl, rfl, rfl, by decide +kernel, rfl, by decide +kernel, by decide +kernel⟩
section
variable {P : Program} {w : World} {K : PySem.W.Frag} {mg : Str → Option Value} {base : Heap} {f C CP : Addr} {fd : FuncData} {tb : List (Addr × Str)}
theorem ok_found_in (F : FnP K "found_in" s_found_in f fd) (T : BltA mg) (cl : Cls K C) (n3 : NoAttr K C "drafts") : FnOk P w K mg base CX0 1 f fd ["life", "cell", "cells"] (lsp ⟨K, tb⟩ none (pFound K C)) := by
  refine F.ok sc_found_in (lsp_len (by rintro ds Q3 ⟨l, c, vs, rfl, _⟩; rfl)) (fun cdv A outer s H vs Q E hr h => ⟨_, PSs.nox
(pss_cons (ps_for PassesOwn.never rfl (kPT K (pi_tup (toKn (kFld K (pe_fld (pv 0) rfl))))) (kTup K 2 (pg_tup rfl (pgs_cons (pg_name (i := 3) sc_found_in.nd rfl (.inl rfl)) (pgs_cons (pg_name (i := 4) sc_found_in.nd rfl (.inl rfl)) pgs_nil))))
    (pss_one (ps_if (pt_cmpR op_eq (pv 3) (pv 1) (nomark _))
        (pss_one (ps_ret (pv 4)))
        pss_nil)))
  (pss_one (ps_ret (pe_dget (hu_of hr) (pv 2) (pv 1) (fun _ _ => rfl)))))
, run3' ?go h⟩)
  case go =>
    refine ⟨_, (by walk_at "li"), ?_⟩
    rintro ds Q3 ⟨l, c, vs, rfl, hl, hv, q⟩
    walk_at "pp"
    refine ⟨_, _, _, rfl, rfl, rfl, ?_⟩
    refine ⟨_, rfl, ?_⟩
    walk_at "pp"
    refine ⟨fun i ρ => (∀ x ∈ l.dr.take i, x.1 ≠ c) ∧ ∃ p3 p4, ρ = [.val (lfD K C l), .val (.str c), .val (valsD vs), p3, p4], ⟨by simp, _, _, rfl⟩, ?_⟩
    rintro i ρ ⟨hn, p3, p4, rfl⟩
    refine ⟨fun e => ?_, fun d e => ?_⟩
    · have hi : l.dr.length ≤ i := by simpa using List.getElem?_eq_none_iff.mp e
      rw [List.take_of_length_le hi] at hn
      obtain ⟨v, hv⟩ := hv
      have ev : foundL l vs c = v := by
        unfold foundL
        rw [valSI_none hn, hv]
        rfl
      walk_at "pp"
      refine ⟨vs.map siK, .inr c, .int v, rfl, rfl, ?_, ?_⟩
      · show val4 (kvSI vs) (.inr c) = _
        rw [val_kvSI, hv]
        rfl
      walk_at "pp"
      rw [ev] at q
      exact q
    · rw [List.getElem?_map] at e
      obtain ⟨b, hb, rfl⟩ := Option.map_eq_some_iff.mp e
      refine w_gtup (ds := [.str b.1, .int b.2]) rfl ?_
      walk_at "pp"
      by_cases ec : b.1 = c
      · rw [decide_eq_true ec]
        walk_at "pp"
        have ev : foundL l vs c = b.2 := by
          unfold foundL
          rw [valSI_first (i := i) hn hb ec]
          rfl
        rw [ev] at q
        exact q
      · rw [decide_eq_false ec]
        walk_at "pp"
        refine ⟨fun x hx => ?_, _, _, rfl⟩
        rw [take_next hb] at hx
        rcases List.mem_append.mp hx with hx | hx
        · exact hn x hx
        · rw [List.mem_singleton.mp hx]; exact ec
theorem ok_with_hand {kws : List (Str × V)} {gV : List V → List V → List V} (gl : GLif K 4 gV g3phdc) (F : FunD K "with_hand" "with_hand" (defArgs s_with_hand) (defBody s_with_hand) (defScope s_with_hand) [] kws f fd) (T : BltA mg) (cl : Cls K C) (n1 : NoAttr K C "place") (n3 : NoAttr K C "drafts") (n4 : NoAttr K C "called") (m_Life_phdc : MakK P w K mg base 1 "Life" C (spLifeI C) ["place", "hand", "drafts", "called"] gV) : FnOk P w K mg base CX0 3 f fd ["life", "hand", "by"] (lsp ⟨K, tb⟩ none (pWith K C)) := by
  refine F.ok sc_with_hand (lsp_len (by rintro ds Q3 ⟨l, h, b, rfl, _⟩; rfl)) (fun cdv A outer s H vs Q E hr h => ⟨_, PSs.nox
(pss_one (ps_ret (pe_mkK m_Life_phdc hr (by decide) (by rfl) (pk_cons (pe_op op_add (kFld K (pe_fld (pv 0) rfl)) (pv 2)) (pk_cons (pv 1) (pk_cons (kFld K (pe_fld (pv 0) rfl)) (pk_cons (kFld K (pe_fld (pv 0) rfl)) pk_nil)))))))
, run3' ?go h⟩)
  case go =>
    refine ⟨_, (by walk_at "li"), ?_⟩
    rintro ds Q3 ⟨l, h, b, rfl, q⟩
    walk_at "pp"
    refine ⟨_, _, _, rfl, rfl, rfl, ?_⟩
    walk_at "pp"
    refine ⟨_, _, _, rfl, rfl, rfl, ?_⟩
    walk_at "pp"
    refine ⟨_, _, _, rfl, rfl, rfl, ?_⟩
    walk_at "pp"
    refine ⟨[.int (l.place + b : Nat), .int h, knD K (l.dr.map pairSI), .tup (strsD l.cl)], _, _, _, _, rfl, rfl, ?_⟩
    exact q
theorem ok_do_set (F : FnP K "do_set" s_do_set f fd) (T : BltA mg) (d1 : ∀ F : Hp, Rp K F (.int 1) (V.int 1)) (c_with_hand : Cal P w K mg base 3 "with_hand" (lsp ⟨K, tb⟩ none (pWith K C)) [.int 1]) : FnOk P w K mg base CX0 4 f fd ["life", "deed", "cells"] (lsp ⟨K, tb⟩ none (pDo K C fun d => ∃ n, d = .set n)) := by
  refine F.ok sc_do_set (lsp_len (by rintro ds Q3 ⟨p, l, l', d, vs, rfl, _⟩; rfl)) (fun cdv A outer s H vs Q E hr h => ⟨_, PSs.nox
(pss_one (ps_ret (pe_c c_with_hand hr (by decide) (by rfl) (pa_cons (pv 0) (pa_cons (pe_ix (ix_tupK K) (pv 1) pe_int (fun _ _ => rfl)) pa_nil)))))
, run3' ?go h⟩)
  case go =>
    refine ⟨_, (by walk_at "li"), ?_⟩
    rintro ds Q3 ⟨p, l, l', d, vs, rfl, ⟨n, rfl⟩, hd, hl, nd, hc, hv, e, q⟩
    obtain rfl := Option.some.inj e
    walk_at "pp"
    refine w_ixT at1 ?_
    walk_at "pp"
    refine ⟨l, n, 1, rfl, ?_⟩
    walk_at "pp"
    exact q
theorem ok_do_add (F : FnP K "do_add" s_do_add f fd) (T : BltA mg) (d1 : ∀ F : Hp, Rp K F (.int 1) (V.int 1)) (cl : Cls K C) (n2 : NoAttr K C "hand") (c_with_hand : Cal P w K mg base 3 "with_hand" (lsp ⟨K, tb⟩ none (pWith K C)) [.int 1]) : FnOk P w K mg base CX0 4 f fd ["life", "deed", "cells"] (lsp ⟨K, tb⟩ none (pDo K C fun d => ∃ n, d = .add n)) := by
  refine F.ok sc_do_add (lsp_len (by rintro ds Q3 ⟨p, l, l', d, vs, rfl, _⟩; rfl)) (fun cdv A outer s H vs Q E hr h => ⟨_, PSs.nox
(pss_one (ps_ret (pe_c c_with_hand hr (by decide) (by rfl) (pa_cons (pv 0) (pa_cons (pe_op op_add (kFld K (pe_fld (pv 0) rfl)) (pe_ix (ix_tupK K) (pv 1) pe_int (fun _ _ => rfl))) pa_nil)))))
, run3' ?go h⟩)
  case go =>
    refine ⟨_, (by walk_at "li"), ?_⟩
    rintro ds Q3 ⟨p, l, l', d, vs, rfl, ⟨n, rfl⟩, hd, hl, nd, hc, hv, e, q⟩
    obtain rfl := Option.some.inj e
    walk_at "pp"
    refine ⟨_, _, _, rfl, rfl, rfl, ?_⟩
    walk_at "pp"
    refine w_ixT at1 ?_
    walk_at "pp"
    refine ⟨l, l.hand + n, 1, rfl, ?_⟩
    walk_at "pp"
    exact q
theorem ok_do_read (F : FnP K "do_read" s_do_read f fd) (T : BltA mg) (d1 : ∀ F : Hp, Rp K F (.int 1) (V.int 1)) (c_found_in : Cal P w K mg base 1 "found_in" (lsp ⟨K, tb⟩ none (pFound K C)) []) (c_with_hand : Cal P w K mg base 3 "with_hand" (lsp ⟨K, tb⟩ none (pWith K C)) [.int 1]) : FnOk P w K mg base CX0 4 f fd ["life", "deed", "cells"] (lsp ⟨K, tb⟩ none (pDo K C fun d => ∃ n, d = .read n)) := by
  refine F.ok sc_do_read (lsp_len (by rintro ds Q3 ⟨p, l, l', d, vs, rfl, _⟩; rfl)) (fun cdv A outer s H vs Q E hr h => ⟨_, PSs.nox
(pss_one (ps_ret (pe_c c_with_hand hr (by decide) (by rfl) (pa_cons (pv 0) (pa_cons (pe_c c_found_in hr (by decide) (by rfl) (pa_cons (pv 0) (pa_cons (pe_ix (ix_tupK K) (pv 1) pe_int (fun _ _ => rfl)) (pa_cons (pv 2) pa_nil)))) pa_nil)))))
, run3' ?go h⟩)
  case go =>
    refine ⟨_, (by walk_at "li"), ?_⟩
    rintro ds Q3 ⟨p, l, l', d, vs, rfl, ⟨c, rfl⟩, hd, hl, nd, hc, hv, e, q⟩
    simp only [stepL] at e
    split at e
    case isFalse => exact nomatch e
    obtain rfl := Option.some.inj e
    walk_at "pp"
    refine w_ixT at1 ?_
    walk_at "pp"
    refine ⟨l, c, vs, rfl, hl, hv.some hd, ?_⟩
    walk_at "pp"
    refine ⟨l, foundL l vs c, 1, rfl, ?_⟩
    walk_at "pp"
    exact q
theorem ok_do_take {gV : List V → List V → List V} (gl : GLif K 4 gV g3phdc) (F : FnP K "do_take" s_do_take f fd) (T : BltA mg) (cl : Cls K C) (n1 : NoAttr K C "place") (n2 : NoAttr K C "hand") (n3 : NoAttr K C "drafts") (n4 : NoAttr K C "called") (m_Life_phdc : MakK P w K mg base 1 "Life" C (spLifeI C) ["place", "hand", "drafts", "called"] gV) : FnOk P w K mg base CX0 4 f fd ["life", "deed", "cells"] (lsp ⟨K, tb⟩ none (pDo K C fun d => ∃ n, d = .take n)) := by
  refine F.ok sc_do_take (lsp_len (by rintro ds Q3 ⟨p, l, l', d, vs, rfl, _⟩; rfl)) (fun cdv A outer s H vs Q E hr h => ⟨_, PSs.nox
(pss_cut (ps_set (i := 3) sc_do_take.nd rfl (.inl rfl) (pe_ifExp (pt_cmpR (op_inK K) (pe_ix (ix_tupK K) (pv 1) pe_int (fun _ _ => rfl)) (kFld K (pe_fld (pv 0) rfl)) rfl) (kFld K (pe_fld (pv 0) rfl)) (pe_op (op_catK K) (kFld K (pe_fld (pv 0) rfl)) (pe_tup (pa_cons (pe_ix (ix_tupK K) (pv 1) pe_int (fun _ _ => rfl)) pa_nil)))))
  (pss_one (ps_ret (pe_mkK m_Life_phdc hr (by decide) (by rfl) (pk_cons (pe_op op_add (kFld K (pe_fld (pv 0) rfl)) pe_int) (pk_cons (kFld K (pe_fld (pv 0) rfl)) (pk_cons (kFld K (pe_fld (pv 0) rfl)) (pk_cons (pv 3) pk_nil))))))))
, run3' ?go h⟩)
  case go =>
    refine ⟨_, (by walk_at "li"), ?_⟩
    rintro ds Q3 ⟨p, l, l', d, vs, rfl, ⟨z, rfl⟩, hd, hl, nd, hc, hv, e, q⟩
    obtain rfl := Option.some.inj e
    refine ⟨fun ρ => ρ = [.val (lfD K C l), .val (ddD (.take z)), .val (valsD vs), .val (.tup (strsD (if z ∈ l.cl then l.cl else l.cl ++ [z])))], ?_, ?_⟩
    · walk_at "pp"
      refine w_ixT at1 ?_
      walk_at "pp"
      refine ⟨_, _, _, rfl, rfl, rfl, ?_⟩
      walk_at "pp"
      by_cases cz : z ∈ l.cl
      · rw [decide_eq_true cz, if_pos cz]
        walk_at "pp"
        refine ⟨_, _, _, rfl, rfl, rfl, ?_⟩
        walk_at "pp"
        rfl
      · rw [decide_eq_false cz, if_neg cz]
        walk_at "pp"
        refine ⟨_, _, _, rfl, rfl, rfl, ?_⟩
        walk_at "pp"
        refine w_ixT at1 ?_
        walk_at "pp"
        refine ⟨(by show 1 ≤ sizeLine; decide), ?_⟩
        walk_at "pp"
        refine w_catT (by show (strsD l.cl).length + 1 ≤ sizeLine; rw [strsD, List.length_map, sizeLine_eq]; omega) ?_
        walk_at "pp"
        rw [show strsD l.cl ++ [D.str z] = strsD (l.cl ++ [z]) from strs_snoc l.cl z]
        rfl
    rintro _ rfl
    walk_at "pp"
    refine ⟨_, _, _, rfl, rfl, rfl, ?_⟩
    walk_at "pp"
    refine ⟨_, _, _, rfl, rfl, rfl, ?_⟩
    walk_at "pp"
    refine ⟨_, _, _, rfl, rfl, rfl, ?_⟩
    walk_at "pp"
    refine ⟨[.int (l.place + 1 : Nat), .int l.hand, knD K (l.dr.map pairSI), .tup (strsD (if z ∈ l.cl then l.cl else l.cl ++ [z]))], _, _, _, _, rfl, rfl, ?_⟩
    exact q
theorem ok_do_write {gV : List V → List V → List V} (gl : GLif K 4 gV g3phdc) (F : FnP K "do_write" s_do_write f fd) (T : BltA mg) (cl : Cls K C) (n1 : NoAttr K C "place") (n2 : NoAttr K C "hand") (n3 : NoAttr K C "drafts") (n4 : NoAttr K C "called") (m_Life_phdc : MakK P w K mg base 1 "Life" C (spLifeI C) ["place", "hand", "drafts", "called"] gV) : FnOk P w K mg base CX0 4 f fd ["life", "deed", "cells"] (lsp ⟨K, tb⟩ none (pDo K C fun d => ∃ n, d = .write n)) := by
  refine FnOk.imp ?_ (lsp4_of (P4 := fun xs μ Q4 _ => ∃ ds Q3, xs = ds.map Vl.d ∧ pDo K C (fun d => ∃ n, d = .write n) ds Q3 ∧ ∀ d μ', Q3 (.val d) none → Q4 (.d d) μ') fun ds Q3 h => ⟨ds, Q3, rfl, h, fun d μ' q => Or.inl ⟨d, rfl, q⟩⟩)
  refine F.ok sc_do_write (lsp4_len (by rintro xs μ Q4 X4 ⟨ds, Q3, rfl, ⟨p, l, l', d, vs, rfl, _⟩, _⟩; rfl)) (fun cdv A outer s H vs Q E hr h => ⟨_, PSs.nox
(pss_cons (ps_set (i := 3) sc_do_write.nd rfl (.inl rfl) (toMu (pe_callTy (call_dictT K rfl) (by rfl) T.b_dict (by decide +kernel) (pa_cons (kFld K (pe_fld (pv 0) rfl)) pa_nil))))
  (pss_cons (ps_dput (hu_of hr) (pv 3) (pe_ix (ix_tupK K) (pv 1) pe_int (fun _ _ => rfl)) (kFld K (pe_fld (pv 0) rfl)) rfl)
  (pss_one (ps_ret (pe_mkK m_Life_phdc hr (by decide) (by rfl) (pk_cons (pe_op op_add (kFld K (pe_fld (pv 0) rfl)) pe_int) (pk_cons (kFld K (pe_fld (pv 0) rfl)) (pk_cons (pe_callTy (call_tupG K) (by rfl) T.b_tuple (by decide +kernel) (pa_cons (pe_sortIt rfl (hu65 hr) (pv 3) (by rfl) T.b_sorted) pa_nil)) (pk_cons (kFld K (pe_fld (pv 0) rfl)) pk_nil)))))))))
, run4 ?go h⟩)
  case go =>
    refine ⟨_, (by walk_at "l4s"), ?_⟩
    rintro xs μ Q4 X4 ⟨ds, Q3, rfl, ⟨p, l, l', d, vs, rfl, ⟨c, rfl⟩, hd, hl, nd, hc, hv, e, q⟩, k⟩
    simp only [stepL] at e
    split at e
    case isFalse => exact nomatch e
    obtain rfl := Option.some.inj e
    walk_at "p4s"
    refine ⟨_, _, _, rfl, cl, n3, rfl, ?_⟩
    refine ⟨_, _, rfl, pairs_SI _, fun pd npd => ?_⟩
    rw [merge_kvSI nd]
    walk_at "p4s"
    refine ⟨_, _, _, rfl, cl, n2, rfl, ?_⟩
    walk_at "p4s"
    refine v_ixT at1 ?_
    refine ⟨pd, _, .inr c, rfl, updM_same, rfl, (by show ((l.dr.map siK).map _).length < _; rw [List.length_map, List.length_map]; exact szL (by omega)), ?_⟩
    rw [updM_upd, put_kvSI]
    walk_at "p4s"
    refine ⟨_, _, _, rfl, cl, n1, rfl, ?_⟩
    walk_at "p4s"
    refine ⟨_, _, _, rfl, cl, n2, rfl, ?_⟩
    walk_at "p4s"
    refine ⟨_, dicOf_loc updM_same, ?_⟩
    walk_at "p4s"
    refine ⟨_, _, _, rfl, cl, n4, rfl, ?_⟩
    walk_at "p4s"
    refine ⟨[.int (l.place + 1 : Nat), .int l.hand, knD K ((sortSI (putSI l.dr c l.hand)).map pairSI), .tup (strsD l.cl)], _, _, _, _, rfl, rfl, ?_⟩
    exact k _ _ q
theorem ok_do_skip {gV : List V → List V → List V} (hg : InRow 2 1 gV) (F : FnP K "do_skip" s_do_skip f fd) (T : BltA mg) (cl : Cls K C) (n2 : NoAttr K C "hand") (c_with_hand_b : CalN P w K mg base 3 "with_hand" (lsp ⟨K, tb⟩ none (pWith K C)) 2 1 ["by"] gV) : FnOk P w K mg base CX0 4 f fd ["life", "deed", "cells"] (lsp ⟨K, tb⟩ none (pDo K C fun d => ∃ n m, d = .skip n m)) := by
  refine F.ok sc_do_skip (lsp_len (by rintro ds Q3 ⟨p, l, l', d, vs, rfl, _⟩; rfl)) (fun cdv A outer s H vs Q E hr h => ⟨_, PSs.nox
(pss_cons (ps_asg (pv 1) (kTup K 3 (pg_tup rfl (pgs_cons (pg_name (i := 3) sc_do_skip.nd rfl (.inl rfl)) (pgs_cons (pg_name (i := 4) sc_do_skip.nd rfl (.inl rfl)) (pgs_cons (pg_name (i := 5) sc_do_skip.nd rfl (.inl rfl)) pgs_nil))))))
  (pss_one (ps_ret (pe_cN c_with_hand_b hr (by decide) (by rfl) (pa_cons (pv 0) (pa_cons (kFld K (pe_fld (pv 0) rfl)) pa_nil)) (pk_cons (pe_ifExp (pt_cmpR op_eq (kFld K (pe_fld (pv 0) rfl)) (pv 4) (nomark _)) (pe_op op_add pe_int (pv 5)) pe_int) pk_nil)))))
, run3' ?go h⟩)
  case go =>
    refine ⟨_, (by walk_at "li"), ?_⟩
    rintro ds Q3 ⟨p, l, l', d, vs, rfl, ⟨n, m, rfl⟩, hd, hl, nd, hc, hv, e, q⟩
    obtain rfl := Option.some.inj e
    refine w_gtup (ds := [.str "skip", .int n, .int m]) rfl ?_
    walk_at "pp"
    refine ⟨_, _, _, rfl, rfl, rfl, ?_⟩
    walk_at "pp"
    refine ⟨_, _, _, rfl, rfl, rfl, ?_⟩
    walk_at "pp"
    have hm : 0 ≤ m := hd.2.1
    by_cases ch : l.hand = n
    · rw [decide_eq_true ch]
      rw [if_pos ch] at q
      walk_at "pp"
      refine ⟨l, l.hand, 1 + m.toNat, by rw [show ((1 + m.toNat : Nat) : Int) = 1 + m by omega], ?_⟩
      walk_at "pp"
      rw [← Nat.add_assoc]
      exact q
    · rw [decide_eq_false ch]
      rw [if_neg ch] at q
      walk_at "pp"
      refine ⟨l, l.hand, 1, rfl, ?_⟩
      walk_at "pp"
      exact q
theorem ok_does_fail (F : FnP K "does_fail" s_does_fail f fd) (T : BltA mg) (ZL : LvC mg) (cl : Cls K C) (n4 : NoAttr K C "called") (m_Plan_lock_of : Met P w K mg base 2 CP "lock_of" (lsp ⟨K, tb⟩ none (pLockOf CP)) []) : FnOk P w K mg base CX0 3 f fd ["life", "deed", "plan"] (lsp ⟨K, tb⟩ none (pFail K C CP)) := by
  refine F.ok sc_does_fail (lsp_len (by rintro ds Q3 ⟨p, l, d, rfl, _⟩; rfl)) (fun cdv A outer s H vs Q E hr h => ⟨_, PSs.nox
(pss_cons (ps_if (pt_cmpR (op_inK K) (pe_ix (ix_tupK K) (pv 1) pe_int (fun _ _ => rfl)) (pe_tup (pa_cons (pe_gc (by rfl) ZL.v_READ) (pa_cons (pe_gc (by rfl) ZL.v_WRITE) pa_nil))) rfl)
    (pss_one (ps_ret (pe_cmpR (op_ninK K) (pe_mt m_Plan_lock_of hr (by decide) (pv 2) (pa_cons (pe_ix (ix_tupK K) (pv 1) pe_int (fun _ _ => rfl)) pa_nil)) (kFld K (pe_fld (pv 0) rfl)) rfl)))
    pss_nil)
  (pss_one (ps_ret (pe_cmpR op_eq (pe_ix (ix_tupK K) (pv 1) pe_int (fun _ _ => rfl)) (pe_gc (by rfl) ZL.v_QUIT) (nomark _)))))
, run3' ?go h⟩)
  case go =>
    refine ⟨_, (by walk_at "li"), ?_⟩
    rintro ds Q3 ⟨p, l, d, rfl, ok, hd, hc, q⟩
    walk_at "pp"
    refine w_ixT at0 ?_
    walk_at "pp"
    refine ⟨(by show 2 ≤ sizeLine; decide), ?_⟩
    refine w_some2 rfl rfl ?_
    refine w_inST (ws := ["read", "write"]) ?_
    have cellL : ∀ c : Str, c ∈ p.cellNames → ∃ x ∈ p.cells, x.name = c ∧ lockOf p c = x.lock := fun c hc => by
      obtain ⟨x, hx, rfl⟩ := List.mem_map.mp hc
      exact ⟨x, hx, rfl, lock_of ok hx⟩
    cases d with
    | set n =>
      rw [decide_eq_false (show ¬ ((Dd.set n).w ∈ ([Str.ofString "read", Str.ofString "write"] : List Str)) from (by decide +kernel : ¬ (Str.ofString "set" ∈ ([Str.ofString "read", Str.ofString "write"] : List Str))))]
      walk_at "pp"
      refine w_ixT at0 ?_
      walk_at "pp"
      rw [decide_eq_false (show ¬ ((Dd.set n).w = Str.ofString "quit") from (by decide +kernel : ¬ (Str.ofString "set" = Str.ofString "quit")))]
      exact q
    | add n =>
      rw [decide_eq_false (show ¬ ((Dd.add n).w ∈ ([Str.ofString "read", Str.ofString "write"] : List Str)) from (by decide +kernel : ¬ (Str.ofString "add" ∈ ([Str.ofString "read", Str.ofString "write"] : List Str))))]
      walk_at "pp"
      refine w_ixT at0 ?_
      walk_at "pp"
      rw [decide_eq_false (show ¬ ((Dd.add n).w = Str.ofString "quit") from (by decide +kernel : ¬ (Str.ofString "add" = Str.ofString "quit")))]
      exact q
    | take n =>
      rw [decide_eq_false (show ¬ ((Dd.take n).w ∈ ([Str.ofString "read", Str.ofString "write"] : List Str)) from (by decide +kernel : ¬ (Str.ofString "take" ∈ ([Str.ofString "read", Str.ofString "write"] : List Str))))]
      walk_at "pp"
      refine w_ixT at0 ?_
      walk_at "pp"
      rw [decide_eq_false (show ¬ ((Dd.take n).w = Str.ofString "quit") from (by decide +kernel : ¬ (Str.ofString "take" = Str.ofString "quit")))]
      exact q
    | skip n m =>
      rw [decide_eq_false (show ¬ ((Dd.skip n m).w ∈ ([Str.ofString "read", Str.ofString "write"] : List Str)) from (by decide +kernel : ¬ (Str.ofString "skip" ∈ ([Str.ofString "read", Str.ofString "write"] : List Str))))]
      walk_at "pp"
      refine w_ixT at0 ?_
      walk_at "pp"
      rw [decide_eq_false (show ¬ ((Dd.skip n m).w = Str.ofString "quit") from (by decide +kernel : ¬ (Str.ofString "skip" = Str.ofString "quit")))]
      exact q
    | quit =>
      rw [decide_eq_false (show ¬ ((Dd.quit).w ∈ ([Str.ofString "read", Str.ofString "write"] : List Str)) from (by decide +kernel : ¬ (Str.ofString "quit" ∈ ([Str.ofString "read", Str.ofString "write"] : List Str))))]
      walk_at "pp"
      refine w_ixT at0 ?_
      walk_at "pp"
      rw [decide_eq_true (show ((Dd.quit).w = Str.ofString "quit") from (by decide +kernel : (Str.ofString "quit" = Str.ofString "quit")))]
      exact q
    | read c =>
      rw [decide_eq_true (show ((Dd.read c).w ∈ ([Str.ofString "read", Str.ofString "write"] : List Str)) from (by decide +kernel : (Str.ofString "read" ∈ ([Str.ofString "read", Str.ofString "write"] : List Str))))]
      walk_at "pp"
      obtain ⟨x, hx, rfl, el⟩ := cellL c hd
      refine w_planM (by decide) ?_
      walk_at "pp"
      refine w_ixT at1 ?_
      walk_at "pp"
      refine ⟨p, x, rfl, ok, hx, ?_⟩
      walk_at "pp"
      refine ⟨_, _, _, rfl, rfl, rfl, ?_⟩
      walk_at "pp"
      have e2 : (stepL p [] l (.read x.name)).isNone = !decide (x.lock ∈ l.cl) := by
        simp only [stepL, el]
        by_cases h : x.lock ∈ l.cl
        · rw [if_pos h, decide_eq_true h]; rfl
        · rw [if_neg h, decide_eq_false h]; rfl
      rw [e2] at q
      exact q
    | write c =>
      rw [decide_eq_true (show ((Dd.write c).w ∈ ([Str.ofString "read", Str.ofString "write"] : List Str)) from (by decide +kernel : (Str.ofString "write" ∈ ([Str.ofString "read", Str.ofString "write"] : List Str))))]
      walk_at "pp"
      obtain ⟨x, hx, rfl, el⟩ := cellL c hd
      refine w_planM (by decide) ?_
      walk_at "pp"
      refine w_ixT at1 ?_
      walk_at "pp"
      refine ⟨p, x, rfl, ok, hx, ?_⟩
      walk_at "pp"
      refine ⟨_, _, _, rfl, rfl, rfl, ?_⟩
      walk_at "pp"
      have e2 : (stepL p [] l (.write x.name)).isNone = !decide (x.lock ∈ l.cl) := by
        simp only [stepL, el]
        by_cases h : x.lock ∈ l.cl
        · rw [if_pos h, decide_eq_true h]; rfl
        · rw [if_neg h, decide_eq_false h]; rfl
      rw [e2] at q
      exact q
end
end K22
namespace K22
open PySem PySem.Spec PyProof.Rows L2 TB LamX NdefX L3 L4
open C8 (Cal pe_c Mak pe_mk Met pe_mt pe_mt0 pss_cut tCut pe_gc)
theorem sc_done_by : FnScope ["life", "deed", "plan", "cells", "act"] ["life", "deed", "plan", "cells"] (defScope s_done_by) := ⟨rfl, rfl, rfl, by decide +kernel, rfl, by decide +kernel, by decide +kernel⟩
section
variable {P : Program} {w : World} {K : PySem.W.Frag} {mg : Str → Option Value} {base : Heap} {f C CP : Addr} {fd : FuncData} {tb : List (Addr × Str)}
theorem ok_done_by (F : FnP K "done_by" s_done_by f fd) (T : BltA mg) {dD : Addr} {esD : Array DictEntry} {nD : Nat} (kd_DEEDS : KDict K w dD esD nD) (v_DEEDS : ∃ u, mg "DEEDS" = some u ∧ RelV (.ref dD) u)
    {S : Addr → Option PSp} (hA : ∀ f sp, spA ⟨K, tb⟩ S f = some sp → Held P w K mg base 4 f sp) (ds : DeedsAt K C dD S)
    (c_does_fail : Cal P w K mg base 3 "does_fail" (lsp ⟨K, tb⟩ none (pFail K C CP)) []) : FnOk P w K mg base CX0 5 f fd ["life", "deed", "plan", "cells"] (lsp ⟨K, tb⟩ none (pDoneBy K C CP)) := by
  refine F.ok sc_done_by (lsp_len (by rintro ds Q3 ⟨p, l, d, vs, rfl, _⟩; rfl)) (fun cdv A outer s H vs Q E hr h => ⟨_, PSs.nox
(pss_cons (ps_if (pt_val (pe_c c_does_fail hr (by decide) (by rfl) (pa_cons (pv 0) (pa_cons (pv 1) (pa_cons (pv 2) pa_nil)))))
    (pss_one (ps_ret pe_non))
    pss_nil)
  (pss_cons (ps_set (i := 4) sc_done_by.nd rfl (.inl rfl) (pe_ix (ix_kd K kd_DEEDS) (pe_gc (by rfl) v_DEEDS) (pe_ix (ix_tupK K) (pv 1) pe_int (fun _ _ => rfl)) (fun _ _ => rfl)))
  (pss_one (ps_ret (pe_callA (i := 4) hA hr rfl (Or.inl rfl) (pa_cons (pv 0) (pa_cons (pv 1) (pa_cons (pv 3) pa_nil))))))))
, run3' ?go h⟩)
  case go =>
    refine ⟨_, (by walk_at "li"), ?_⟩
    rintro ds Q3 ⟨p, l, d, vs, rfl, ok, hd, hl, nd, hc, hv, q⟩
    walk_at "pp"
    refine ⟨p, l, d, rfl, ok, hd, hc, ?_⟩
    have en : (stepL p [] l d).isNone = (stepL p vs l d).isNone := by
      cases d <;> first | rfl | (simp only [stepL]; split <;> rfl)
    rw [en]
    cases es : stepL p vs l d with
    | none =>
      rw [es] at q
      walk_at "pp"
      exact q
    | some l' =>
      rw [es] at q
      walk_at "pp"
      refine w_ixT at0 ?_
      obtain ⟨fa, P3, k1, k2, k3⟩ := ds.act d (step_quit es)
      refine w_ixKd k1 ?_
      walk_at "pp"
      refine w_callA rfl k2 ?_
      walk_at "pp"
      refine ⟨[lfD K C l, ddD d, valsD vs], rfl, ?_⟩
      refine k3 _ _ ⟨p, l, l', d, vs, rfl, rfl, hd, hl, nd, hc, hv, es, ?_⟩
      walk_at "pp"
      refine ⟨_, rfl, ?_⟩
      walk_at "pp"
      exact q
end
end K22
namespace K22
open PySem PySem.Spec PyProof.Rows L2 TB LamX NdefX L3 L4
open C8 (Cal pe_c Mak pe_mk Met pe_mt pe_mt0 pss_cut tCut pe_gc)
theorem sc__law_person : FnScope [] [] (defScope s__law_person) := ⟨rfl, rfl, rfl, by decide +kernel, rfl, by decide +kernel, by decide +kernel⟩
theorem sc__law_joins : FnScope ["_law_world_here", "_law_name_here", "_law_acts_here"] ["_law_world_here", "_law_name_here", "_law_acts_here"] (defScope s__law_joins) := ⟨rfl, rfl, rfl, by decide +kernel, rfl, by decide +kernel, by decide +kernel⟩
theorem sc__law_world : FnScope ["_law_drawn_here", "_law_latches", "_law_slots", "_law_crew", "_law_world_here", "_law_slot", "_law_latch", "_law_name_here", "_law_acts_here"] ["_law_drawn_here"] (defScope s__law_world) := ⟨rfl, rfl, rfl, by decide +kernel, rfl, by decide +kernel, by decide +kernel⟩
theorem sc__law_claims : FnScope ["_law_person_here", "_law_latch"] ["_law_person_here", "_law_latch"] (defScope s__law_claims) := ⟨rfl, rfl, rfl, by decide +kernel, rfl, by decide +kernel, by decide +kernel⟩
section
variable {P : Program} {w : World} {K : PySem.W.Frag} {mg : Str → Option Value} {base : Heap} {f C CP : Addr} {fd : FuncData} {tb : List (Addr × Str)}
theorem ok__law_person (F : FnP K "_law_person" s__law_person f fd) (T : BltA mg) : FnOk P w K mg base CX0 1 f fd [] (lsp4 ⟨K, tb⟩ pPerson) := by
  refine F.ok sc__law_person (lsp4_len (by rintro xs μ Q4 X4 ⟨rfl, _⟩; rfl)) (fun cdv A outer s H vs Q E hr h => ⟨_, PSs.nox
(pss_one (ps_ret (pe_disp (pps_cons pe_str pe_int (pps_cons pe_str pe_int (pps_cons pe_str pe_dnewK (pps_cons pe_str (pe_lst pa_nil) (pps_cons pe_str (pe_lst pa_nil) (pps_cons pe_str pe_non (pps_cons pe_str pe_non pps_nil))))))) (by rfl) (by rfl) (fun z => by cases z) (by decide))))
, run4 ?go h⟩)
  case go =>
    refine ⟨_, (by walk_at "l4s"), ?_⟩
    rintro xs μ Q4 X4 ⟨rfl, q⟩
    walk_at "p4s"
    intro a na
    walk_at "p4s"
    refine ⟨updM_same, _, rfl, by decide, ?_⟩
    rw [updM_upd]
    exact q a na
theorem ok__law_joins (F : FnP K "_law_joins" s__law_joins f fd) (T : BltA mg) (c__law_person : Cal P w K mg base 1 "_law_person" (lsp4 ⟨K, tb⟩ pPerson) []) : FnOk P w K mg base CX0 2 f fd ["_law_world_here", "_law_name_here", "_law_acts_here"] (lsp4 ⟨K, tb⟩ pJoins) := by
  refine F.ok sc__law_joins (lsp4_len (by rintro xs μ Q4 X4 ⟨w, o, a, f, z, es, kvs, os, as, fs, rfl, _⟩; rfl)) (fun cdv A outer s H vs Q E hr h => ⟨_, PSs.nox
(pss_cons (ps_expr (kBM K (pe_bm PySem.F.plainAttrs_list PySem.F.slot_list_append PySem.F.type_list_append mt_append (pe_dget (hu_of hr) (pv 0) pe_str (fun _ _ => rfl)) (pa_cons (pv 1) pa_nil))))
  (pss_cons (ps_dput (hu_of hr) (pe_dget (hu_of hr) (pv 0) pe_str (fun _ _ => rfl)) (pv 1) (pe_callTy (call_listK K) (by rfl) T.b_list (by decide +kernel) (pa_cons (pv 2) pa_nil)) rfl)
  (pss_one (ps_dput (hu_of hr) (pe_dget (hu_of hr) (pv 0) pe_str (fun _ _ => rfl)) (pv 1) (pe_c0 c__law_person hr (by decide) (by rfl)) rfl))))
, run4 ?go h⟩)
  case go =>
    refine ⟨_, (by walk_at "l4s"), ?_⟩
    rintro xs μ Q4 X4 ⟨w, o, a, f, z, es, kvs, os, as, fs, rfl, he, hw, k1, k2, k3, wa, wf, af, ho, lo, ha, la, hf, lf, q⟩
    have wo : w ≠ o := fun e => by rw [e, ho] at hw; exact nomatch hw
    have oa : o ≠ a := fun e => by rw [e, ha] at ho; exact nomatch ho
    have of_ : o ≠ f := fun e => by rw [e, hf] at ho; exact nomatch ho
    walk_at "p4s"
    refine ⟨_, _, _, dicOf_loc hw, rfl, k1, ?_⟩
    refine ⟨o, rfl, ⟨_, ho⟩, ?_⟩
    walk_at "p4s"
    refine ⟨os, ho, _, rfl, szL (by omega), ?_⟩
    walk_at "p4s"
    refine ⟨_, _, _, dicOf_loc (by rw [updM_ne wo]; exact hw), rfl, k2, ?_⟩
    walk_at "p4s"
    refine ⟨a, as, _, rfl, by rw [updM_ne (fun e => oa e.symm)]; exact ha, rfl, szL (by omega), ?_⟩
    walk_at "p4s"
    refine ⟨rfl, fun q0 nq => ?_⟩
    have nq1 : μ q0 = none := by
      have e1 : q0 ≠ a := fun e => by rw [e, updM_same] at nq; exact nomatch nq
      rw [updM_ne e1] at nq
      have e2 : q0 ≠ o := fun e => by rw [e, updM_same] at nq; exact nomatch nq
      rw [updM_ne e2] at nq
      exact nq
    have qw : w ≠ q0 := fun e => by rw [e, nq1] at hw; exact nomatch hw
    have qf : f ≠ q0 := fun e => by rw [e, nq1] at hf; exact nomatch hf
    walk_at "p4s"
    refine ⟨_, _, _, dicOf_loc (by rw [updM_ne qw, updM_ne wa, updM_ne wo]; exact hw), rfl, k3, ?_⟩
    walk_at "p4s"
    refine ⟨f, fs, _, rfl, by rw [updM_ne qf, updM_ne (fun e => af e.symm), updM_ne (fun e => of_ e.symm)]; exact hf, rfl, szL (by omega), ?_⟩
    walk_at "p4s"
    exact q q0 nq1
theorem ok__law_claims (F : FnP K "_law_claims" s__law_claims f fd) (T : BltA mg) : FnOk P w K mg base CX0 1 f fd ["_law_person_here", "_law_latch"] (lsp4 ⟨K, tb⟩ pClaims) := by
  refine F.ok sc__law_claims (lsp4_len (by rintro xs μ Q4 X4 ⟨a, z, t, palm, notes, cl, rfl, _⟩; rfl)) (fun cdv A outer s H vs Q E hr h => ⟨_, PSs.nox
(pss_cut (ps_if (pt_cmpR (op_ninK K) (pv 1) (pe_dget (hu_of hr) (pv 0) pe_str (fun _ _ => rfl)) rfl)
    (pss_one (ps_dput (hu_of hr) (pv 0) pe_str (pe_op op_cat (pe_dget (hu_of hr) (pv 0) pe_str (fun _ _ => rfl)) (pe_lst (pa_cons (pv 1) pa_nil))) rfl))
    pss_nil)
  (pss_one (ps_dput (hu_of hr) (pv 0) pe_str (pe_op op_add (pe_dget (hu_of hr) (pv 0) pe_str (fun _ _ => rfl)) pe_int) rfl)))
, run4 ?go h⟩)
  case go =>
    refine ⟨_, (by walk_at "l4s"), ?_⟩
    rintro xs μ Q4 X4 ⟨a, z, t, palm, notes, cl, rfl, ha, hc, q⟩
    refine ⟨fun ρ' μ' => ρ' = [some (.loc a), some (.d (.str z))] ∧ μ' = updM μ a (.dic (perK t palm notes (if z ∈ cl then cl else cl ++ [z]))), ?_, ?_⟩
    · walk_at "p4s"
      refine ⟨_, _, _, dicOf_loc ha, rfl, pk_claims, ?_⟩
      walk_at "p4s"
      by_cases cz : z ∈ cl
      · rw [decide_eq_true cz, if_pos cz]
        walk_at "p4s"
        exact ⟨rfl, (updM_self ha).symm⟩
      · rw [decide_eq_false cz, if_neg cz]
        walk_at "p4s"
        refine ⟨_, _, _, dicOf_loc ha, rfl, pk_claims, ?_⟩
        walk_at "p4s"
        refine w_catL (szN (by show (cl.map D.str).length + 1 ≤ _; rw [List.length_map]; omega)) ?_
        rw [show strsD cl ++ [D.str z] = strsD (cl ++ [z]) from strs_snoc cl z]
        walk_at "p4s"
        refine ⟨a, _, _, rfl, ha, rfl, pk_len, ?_⟩
        rw [pp_claims]
        exact ⟨rfl, rfl⟩
    rintro _ _ ⟨rfl, rfl⟩
    walk_at "p4s"
    refine ⟨_, _, _, dicOf_loc updM_same, rfl, pk_at, ?_⟩
    walk_at "p4s"
    refine ⟨a, _, _, rfl, updM_same, rfl, pk_len, ?_⟩
    rw [updM_upd, show (Vl.d (D.int ((t : Int) + 1))) = .d (.int ((t + 1 : Nat) : Int)) from rfl, pp_at]
    exact q
theorem ok__law_world (F : FnP K "_law_world" s__law_world f fd) (T : BltA mg) (c__law_joins : Cal P w K mg base 2 "_law_joins" (lsp4 ⟨K, tb⟩ pJoins) []) : FnOk P w K mg base CX0 3 f fd ["_law_drawn_here"] (lsp4 ⟨K, tb⟩ pWorld) := by
  refine F.ok sc__law_world (lsp4_len (by rintro xs μ Q4 X4 ⟨p, rfl, _⟩; rfl)) (fun cdv A outer s H vs Q E hr h => ⟨_, PSs.nox
(pss_cons (ps_asg (pv 0) (kTup K 3 (pg_tup rfl (pgs_cons (pg_name (i := 1) sc__law_world.nd rfl (.inl rfl)) (pgs_cons (pg_name (i := 2) sc__law_world.nd rfl (.inl rfl)) (pgs_cons (pg_name (i := 3) sc__law_world.nd rfl (.inl rfl)) pgs_nil))))))
  (pss_cons (ps_set (i := 4) sc__law_world.nd rfl (.inl rfl) (pe_disp (pps_cons pe_str (pe_callTy (call_listK K) (by rfl) T.b_list (by decide +kernel) (pa_cons (pv 1) pa_nil)) (pps_cons pe_str (pe_callTy (call_listK K) (by rfl) T.b_list (by decide +kernel) (pa_cons (pv 2) pa_nil)) (pps_cons pe_str (toMu (pe_lst pa_nil)) (pps_cons pe_str (toMu pe_dnewK) (pps_cons pe_str (toMu pe_dnewK) (pps_cons pe_str (pe_lst pa_nil) pps_nil)))))) (by rfl) (by rfl) (fun z => by cases z) (by decide)))
  (pss_cons (ps_dput (hu_of hr) (pv 4) pe_str (pe_callTy (cr_dictP K rfl) (by rfl) T.b_dict (by decide +kernel) (pa_cons (pe_lc (own := [("_law_slot", 5)]) (tt := tYes) rfl sc__law_world.nd (kPI K (pi_list (pv 2))) (blkOk_by (N := ["_law_drawn_here", "_law_latches", "_law_slots", "_law_crew", "_law_world_here", "_law_slot", "_law_latch", "_law_name_here", "_law_acts_here"]) (sc := defScope s__law_world) (by decide +kernel)) (fun _ _ _ _ _ => pg_name (i := 5) sc__law_world.nd rfl (Or.inl rfl)) (fun _ _ _ _ _ => pts_nil) (fun _ _ _ _ _ => (pe_tup (pa_cons (pe_ix (ix_tupK K) (pv 5) pe_int (fun _ _ => rfl)) (pa_cons (pe_ix (ix_tupK K) (pv 5) pe_int (fun _ _ => rfl)) pa_nil))))) pa_nil)) rfl)
  (pss_cons (ps_dput (hu_of hr) (pv 4) pe_str (pe_callTy (cr_dictP K rfl) (by rfl) T.b_dict (by decide +kernel) (pa_cons (pe_lc (own := [("_law_slot", 5)]) (tt := tYes) rfl sc__law_world.nd (kPI K (pi_list (pv 2))) (blkOk_by (N := ["_law_drawn_here", "_law_latches", "_law_slots", "_law_crew", "_law_world_here", "_law_slot", "_law_latch", "_law_name_here", "_law_acts_here"]) (sc := defScope s__law_world) (by decide +kernel)) (fun _ _ _ _ _ => pg_name (i := 5) sc__law_world.nd rfl (Or.inl rfl)) (fun _ _ _ _ _ => pts_nil) (fun _ _ _ _ _ => (pe_tup (pa_cons (pe_ix (ix_tupK K) (pv 5) pe_int (fun _ _ => rfl)) (pa_cons (pe_ix (ix_tupK K) (pv 5) pe_int (fun _ _ => rfl)) pa_nil))))) pa_nil)) rfl)
  (pss_cons (ps_dput (hu_of hr) (pv 4) pe_str (pe_callTy (cr_dictP K rfl) (by rfl) T.b_dict (by decide +kernel) (pa_cons (pe_lc (own := [("_law_latch", 6)]) (tt := tYes) rfl sc__law_world.nd (kPI K (pi_list (pv 1))) (blkOk_by (N := ["_law_drawn_here", "_law_latches", "_law_slots", "_law_crew", "_law_world_here", "_law_slot", "_law_latch", "_law_name_here", "_law_acts_here"]) (sc := defScope s__law_world) (by decide +kernel)) (fun _ _ _ _ _ => pg_name (i := 6) sc__law_world.nd rfl (Or.inl rfl)) (fun _ _ _ _ _ => pts_nil) (fun _ _ _ _ _ => (pe_tup (pa_cons (pv 6) (pa_cons (pe_lst pa_nil) pa_nil))))) pa_nil)) rfl)
  (pss_cons (ps_asg (pe_tup (pa_cons (pe_lst pa_nil) (pa_cons (pe_lst pa_nil) pa_nil))) (kTup K 2 (pg_tup rfl (pgs_cons (pg_sub (pv 4) pe_str (set_dict (hu_of hr))) (pgs_cons (pg_sub (pv 4) pe_str (set_dict (hu_of hr))) pgs_nil)))))
  (pss_cons (ps_for PassesOwn.never rfl (kPI K (pi_list (pv 3))) (kTup K 2 (pg_tup rfl (pgs_cons (pg_name (i := 7) sc__law_world.nd rfl (.inl rfl)) (pgs_cons (pg_name (i := 8) sc__law_world.nd rfl (.inl rfl)) pgs_nil))))
    (pss_one (ps_expr (pe_c c__law_joins hr (by decide) (by rfl) (pa_cons (pv 4) (pa_cons (pv 7) (pa_cons (pv 8) pa_nil)))))))
  (pss_one (ps_ret (pv 4))))))))))
, run4 ?go h⟩)
  case go =>
    refine ⟨_, (by walk_at "l4s"), ?_⟩
    rintro xs μ Q4 X4 ⟨p, rfl, ok, q⟩
    refine v_seq ?_
    walk_at "p4s"
    refine v_gtup (xs := [.d (.lst (strsD p.locks)), .d (.lst (p.cells.map clD)), .d (.lst (p.tasks.map tkD))]) rfl rfl ?_
    walk_at "p4s"
    intro pw nw
    walk_at "p4s"
    intro po no
    walk_at "p4s"
    intro pa na
    walk_at "p4s"
    intro pf nf
    walk_at "p4s"
    have wo : po ≠ pw := fun e => by rw [e, updM_same] at no; exact nomatch no
    rw [updM_ne wo] at no
    have ao : pa ≠ po := fun e => by rw [e, updM_same] at na; exact nomatch na
    rw [updM_ne ao] at na
    have aw : pa ≠ pw := fun e => by rw [e, updM_same] at na; exact nomatch na
    rw [updM_ne aw] at na
    have fa : pf ≠ pa := fun e => by rw [e, updM_same] at nf; exact nomatch nf
    rw [updM_ne fa] at nf
    have fo : pf ≠ po := fun e => by rw [e, updM_same] at nf; exact nomatch nf
    rw [updM_ne fo] at nf
    have fw : pf ≠ pw := fun e => by rw [e, updM_same] at nf; exact nomatch nf
    rw [updM_ne fw] at nf
    refine ⟨by rw [updM_ne (fun e => fw e.symm), updM_ne (fun e => aw e.symm), updM_ne (fun e => wo e.symm), updM_same], _, rfl, (by show 6 ≤ 15; decide), ?_⟩
    rw [w6_merge (PlanL.vals p)]
    walk_at "p4s"
    have c8 := ok.c8
    have l7 := ok.l7
    refine v_lcMap (fun c : Cl => pairD (.inr c.name, .int c.val)) (by omega) ?_ ?_
    · intro c hc Y N hY
      walk_at "p4s"
      refine v_ixT at0 ?_
      walk_at "p4s"
      refine v_ixT at2 ?_
      walk_at "p4s"
      exact hY
    refine ⟨_, allD_map _, ?_⟩
    have ndc : ((p.cells.map fun c => ((.inr c.name : Key), D.int c.val)).map (·.1)).Nodup := by
      rw [List.map_map]
      show ((p.cells.map ((fun z : Str => (Sum.inr z : Key)) ∘ fun c : Cl => c.name))).Nodup
      rw [← List.map_map]
      exact List.Pairwise.map _ (fun a b h e => h (Sum.inr.inj e)) ok.ndC
    have ndl : ((p.cells.map fun c => ((.inr c.name : Key), D.str c.lock)).map (·.1)).Nodup := by
      rw [List.map_map]
      rw [List.map_map] at ndc
      exact ndc
    have ndr : ((p.locks.map fun z => ((.inr z : Key), D.lst [])).map (·.1)).Nodup := by
      rw [List.map_map]
      exact List.Pairwise.map _ (fun a b h e => h (Sum.inr.inj e)) ok.ndL
    refine ⟨_, _, rfl, pairs_map (fun c : Cl => ((.inr c.name : Key), D.int c.val)) p.cells, p.cells.map (fun c => (.inr c.name, .int c.val)), merge_dKV ndc, ?_⟩
    walk_at "p4s"
    refine ⟨pw, _, _, rfl, updM_same, rfl, w6_len, ?_⟩
    rw [updM_upd, show putK4 (w6 p (PlanL.vals p) po pa pf) (.inr "values") (.d (dicD (p.cells.map fun c => (.inr c.name, .int c.val)))) = w7 p (PlanL.vals p) po pa pf from by rw [show dicD (p.cells.map fun c => ((.inr c.name : Key), D.int c.val)) = valsD (PlanL.vals p) by unfold valsD dicSI PlanL.vals; rw [List.map_map]; rfl]; exact w6_put]
    walk_at "p4s"
    refine v_lcMap (fun c : Cl => pairD (.inr c.name, .str c.lock)) (by omega) ?_ ?_
    · intro c hc Y N hY
      walk_at "p4s"
      refine v_ixT at0 ?_
      walk_at "p4s"
      refine v_ixT at1 ?_
      walk_at "p4s"
      exact hY
    refine ⟨_, allD_map _, ?_⟩
    refine ⟨_, _, rfl, pairs_map (fun c : Cl => ((.inr c.name : Key), D.str c.lock)) p.cells, p.cells.map (fun c => (.inr c.name, .str c.lock)), merge_dKV ndl, ?_⟩
    walk_at "p4s"
    refine ⟨pw, _, _, rfl, updM_same, rfl, w7_len, ?_⟩
    rw [updM_upd, show putK4 (w7 p (PlanL.vals p) po pa pf) (.inr "latch") (.d (dicD (p.cells.map fun c => (.inr c.name, .str c.lock)))) = w8 p (PlanL.vals p) po pa pf from w7_put]
    walk_at "p4s"
    refine v_lcMap (fun z : Str => pairD (.inr z, .lst [])) (by omega) ?_ ?_
    · intro z hz Y N hY
      walk_at "p4s"
      exact hY
    refine ⟨_, allD_map _, ?_⟩
    refine ⟨_, _, rfl, pairs_map (fun z : Str => ((.inr z : Key), D.lst [])) p.locks, p.locks.map (fun z => (.inr z, .lst [])), merge_dKV ndr, ?_⟩
    walk_at "p4s"
    refine ⟨pw, _, _, rfl, updM_same, rfl, w8_len, ?_⟩
    rw [updM_upd, show putK4 (w8 p (PlanL.vals p) po pa pf) (.inr "rows") (.d (dicD (p.locks.map fun z => (.inr z, .lst [])))) = w9 p (PlanL.vals p) po pa pf from w8_put]
    walk_at "p4s"
    refine v_gtup (xs := [.d (.lst []), .d (.lst [])]) rfl rfl ?_
    walk_at "p4s"
    refine ⟨pw, _, _, rfl, rfl, updM_same, w9_len, ?_⟩
    rw [updM_upd, w9_put]
    walk_at "p4s"
    refine ⟨pw, _, _, rfl, rfl, updM_same, w10_len, ?_⟩
    rw [updM_upd, w10_put]
    walk_at "p4s"
    refine v_for3 ⟨fun i ρ' μ' => ∃ os as fs p7 p8, Kept μ μ' ∧ μ' pw = some (.dic (worldK p (PlanL.vals p) po pa pf)) ∧ μ' po = some (.lst os) ∧ os.length ≤ i ∧ μ' pa = some (.dic as) ∧ as.length ≤ i ∧ μ' pf = some (.dic fs) ∧ fs.length ≤ i ∧ ρ' = [some (.d (drawnD p)), some (.d (.lst (strsD p.locks))), some (.d (.lst (p.cells.map clD))), some (.d (.lst (p.tasks.map tkD))), some (.loc pw), none, none, p7, p8], ?_, ?_⟩
    · refine ⟨[], [], [], _, _, ?_, updM_same, ?_, Nat.le_refl _, ?_, Nat.le_refl _, ?_, Nat.le_refl _, rfl⟩
      · exact (((((Kept.refl μ).new nw).new no).new na).new nf).new nw
      · rw [updM_ne wo, updM_ne (fun e => fo e.symm), updM_ne (fun e => ao e.symm), updM_same]
      · rw [updM_ne aw, updM_ne (fun e => fa e.symm), updM_same]
      · rw [updM_ne fw, updM_same]
    rintro i _ μ' ⟨os, as, fs, p7, p8, kp, hw, ho, lo, ha, la, hf, lf, rfl⟩
    refine ⟨fun e => ?_, fun d e => ?_⟩
    · walk_at "p4s"
      exact q pw po pa pf μ' kp nw hw
    · obtain ⟨t, htm, rfl⟩ := List.mem_map.mp (List.mem_of_getElem? e)
      have hi : i < 6 := by
        have h1 := (List.getElem?_eq_some_iff.mp e).1
        rw [List.length_map] at h1
        have := ok.t6
        omega
      refine v_gtup (xs := [.d (.str t.1), .d (.lst (t.2.map ddD))]) rfl rfl ?_
      walk_at "p4s"
      refine ⟨pw, po, pa, pf, t.1, t.2.map ddD, _, os, as, fs, rfl, by rw [List.length_map]; have := (ok.bd t htm).len; omega, hw, wk_order, wk_acts, wk_folk, (fun e => aw e.symm), (fun e => fw e.symm), (fun e => fa e.symm), ho, by omega, ha, by omega, hf, by omega, fun q0 nq => ?_⟩
      have qw : pw ≠ q0 := fun e => by rw [e, nq] at hw; exact nomatch hw
      have qo : po ≠ q0 := fun e => by rw [e, nq] at ho; exact nomatch ho
      have qa : pa ≠ q0 := fun e => by rw [e, nq] at ha; exact nomatch ha
      have qf : pf ≠ q0 := fun e => by rw [e, nq] at hf; exact nomatch hf
      walk_at "p4s"
      refine ⟨os ++ [.d (.str t.1)], putK4 as (.inr t.1) (.d (.lst (t.2.map ddD))), putK4 fs (.inr t.1) (.loc q0), _, _, (((kp.new no).new na).new (kp.none nq)).new nf, ?_, ?_, ?_, ?_, ?_, updM_same, ?_, rfl⟩
      · rw [updM_ne (fun e => fw e.symm), updM_ne qw, updM_ne (fun e => aw e.symm), updM_ne (fun e => wo e.symm)]
        exact hw
      · rw [updM_ne (fun e => fo e.symm), updM_ne qo, updM_ne (fun e => ao e.symm), updM_same]
      · rw [List.length_append]
        show os.length + 1 ≤ _
        omega
      · rw [updM_ne (fun e => fa e.symm), updM_ne qa, updM_same]
      · exact Nat.le_trans putK4_len (by omega)
      · exact Nat.le_trans putK4_len (by omega)
end
end K22
namespace K22
open PySem PySem.Spec PyProof.Rows L2 TB LamX NdefX L3 L4
open C8 (Cal pe_c Mak pe_mk Met pe_mt pe_mt0 pss_cut tCut pe_gc)
theorem sc__law_moves : FnScope ["_law_world_here", "_law_person_here", "_law_act_here", "_law_word"] ["_law_world_here", "_law_person_here", "_law_act_here"] (defScope s__law_moves) := ⟨rfl, rfl, rfl, by decide +kernel, rfl, by decide +kernel, by decide +kernel⟩
section
variable {P : Program} {w : World} {K : PySem.W.Frag} {mg : Str → Option Value} {base : Heap} {f C CP : Addr} {fd : FuncData} {tb : List (Addr × Str)}
theorem ok__law_moves (F : FnP K "_law_moves" s__law_moves f fd) (T : BltA mg) : FnOk P w K mg base CX0 1 f fd ["_law_world_here", "_law_person_here", "_law_act_here"] (lsp4 ⟨K, tb⟩ pMoves) := by
  refine F.ok sc__law_moves (lsp4_len (by rintro xs μ Q4 X4 ⟨p, vs, w, o, a', f, a, d, t, palm, notes, cl, rfl, _⟩; rfl)) (fun cdv A outer s H vs Q E hr h => ⟨_, PSs.nox
(pss_cons (ps_set (i := 3) sc__law_moves.nd rfl (.inl rfl) (pe_ix (ix_tupK K) (pv 2) pe_int (fun _ _ => rfl)))
  (pss_cons (ps_if (PW.pt (pw_or (pt_cmpR op_eq (pv 3) pe_str (nomark _)) (pw_or1 (PW.pt (pw_and (pt_cmpR (op_inK K) (pv 3) (pe_tup (pa_cons pe_str (pa_cons pe_str pa_nil))) rfl) (pw_and1 (pt_cmpR (op_ninK K) (pe_dget (hu_of hr) (pe_dget (hu_of hr) (pv 0) pe_str (fun _ _ => rfl)) (pe_ix (ix_tupK K) (pv 2) pe_int (fun _ _ => rfl)) (fun _ _ => rfl)) (pe_dget (hu_of hr) (pv 1) pe_str (fun _ _ => rfl)) rfl)))))))
    (pss_one (ps_ret pe_bl))
    pss_nil)
  (pss_cut (ps_if (pt_cmpR op_eq (pv 3) pe_str (nomark _))
    (pss_one (ps_dput (hu_of hr) (pv 1) pe_str (pe_ix (ix_tupK K) (pv 2) pe_int (fun _ _ => rfl)) rfl))
    (pss_one (ps_if (pt_cmpR op_eq (pv 3) pe_str (nomark _))
        (pss_one (ps_dput (hu_of hr) (pv 1) pe_str (pe_op op_add (pe_dget (hu_of hr) (pv 1) pe_str (fun _ _ => rfl)) (pe_ix (ix_tupK K) (pv 2) pe_int (fun _ _ => rfl))) rfl))
        (pss_one (ps_if (pt_cmpR op_eq (pv 3) pe_str (nomark _))
            (pss_one (ps_dput (hu_of hr) (pv 1) pe_str (pe_dget2 (hu_of hr) (pe_dget (hu_of hr) (pv 1) pe_str (fun _ _ => rfl)) (pe_ix (ix_tupK K) (pv 2) pe_int (fun _ _ => rfl)) (pe_dget (hu_of hr) (pe_dget (hu_of hr) (pv 0) pe_str (fun _ _ => rfl)) (pe_ix (ix_tupK K) (pv 2) pe_int (fun _ _ => rfl)) (fun _ _ => rfl)) ⟨rfl, rfl, rfl, rfl⟩) rfl))
            (pss_one (ps_if (pt_cmpR op_eq (pv 3) pe_str (nomark _))
                (pss_one (ps_dput (hu_of hr) (pv 1) pe_str (pe_callTy (cr_dictP K rfl) (by rfl) T.b_dict (by decide +kernel) (pa_cons (pe_op op_cat (pe_listIt rfl (pe_dget (hu_of hr) (pv 1) pe_str (fun _ _ => rfl)) (by rfl) T.b_list) (pe_lst (pa_cons (pe_tup (pa_cons (pe_ix (ix_tupK K) (pv 2) pe_int (fun _ _ => rfl)) (pa_cons (pe_dget (hu_of hr) (pv 1) pe_str (fun _ _ => rfl)) pa_nil))) pa_nil))) pa_nil)) rfl))
                (pss_one (ps_if (PW.pt (pw_and (pt_cmpR op_eq (pv 3) pe_str (nomark _)) (pw_and1 (pt_cmpR op_eq (pe_dget (hu_of hr) (pv 1) pe_str (fun _ _ => rfl)) (pe_ix (ix_tupK K) (pv 2) pe_int (fun _ _ => rfl)) (nomark _)))))
                    (pss_one (ps_dput (hu_of hr) (pv 1) pe_str (pe_op op_add (pe_dget (hu_of hr) (pv 1) pe_str (fun _ _ => rfl)) (pe_ix (ix_tupK K) (pv 2) pe_int (fun _ _ => rfl))) rfl))
                    pss_nil)))))))))
  (pss_cons (ps_dput (hu_of hr) (pv 1) pe_str (pe_op op_add (pe_dget (hu_of hr) (pv 1) pe_str (fun _ _ => rfl)) pe_int) rfl)
  (pss_one (ps_ret pe_bl))))))
, run4 ?go h⟩)
  case go =>
    refine ⟨_, (by walk_at "l4s"), ?_⟩
    rintro xs μ Q4 X4 ⟨p, vs, w, o, a', f, a, d, t, palm, notes, cl, rfl, ok, hv, hw, wa, ha, hd, nt, nd, hn, hc, q⟩
    walk_at "p4s"
    refine v_ixT at0 ?_
    walk_at "p4s"
    cases d with
    | set n =>
      rw [decide_eq_false (show ¬ ((Dd.set n).w = Str.ofString "quit") from (by decide +kernel : ¬ (Str.ofString "set" = Str.ofString "quit")))]
      walk_at "p4s"
      refine w_inST (ws := ["read", "write"]) ?_
      rw [decide_eq_false (show ¬ ((Dd.set n).w ∈ ([Str.ofString "read", Str.ofString "write"] : List Str)) from (by decide +kernel : ¬ (Str.ofString "set" ∈ ([Str.ofString "read", Str.ofString "write"] : List Str))))]
      walk_at "p4s"
      refine ⟨fun ρ' μ' => ρ' = [some (.loc w), some (.loc a), some (.d (ddD (.set n))), some (.d (.str (Dd.set n).w))] ∧ μ' = updM μ a (.dic (perK t n notes cl)), ?_, ?_⟩
      · walk_at "p4s"
        rw [decide_eq_true (show ((Dd.set n).w = Str.ofString "set") from (by decide +kernel : (Str.ofString "set" = Str.ofString "set")))]
        walk_at "p4s"
        refine v_ixT at1 ?_
        walk_at "p4s"
        refine ⟨a, _, _, rfl, ha, rfl, pk_len, ?_⟩
        rw [pp_palm]
        exact ⟨rfl, rfl⟩
      rintro _ _ ⟨rfl, rfl⟩
      walk_at "p4s"
      refine ⟨_, _, _, dicOf_loc updM_same, rfl, pk_at, ?_⟩
      walk_at "p4s"
      refine ⟨a, _, _, rfl, updM_same, rfl, pk_len, ?_⟩
      rw [updM_upd, pp_atS]
      walk_at "p4s"
      exact q notes rfl nd (Nat.le_succ _)
    | add n =>
      rw [decide_eq_false (show ¬ ((Dd.add n).w = Str.ofString "quit") from (by decide +kernel : ¬ (Str.ofString "add" = Str.ofString "quit")))]
      walk_at "p4s"
      refine w_inST (ws := ["read", "write"]) ?_
      rw [decide_eq_false (show ¬ ((Dd.add n).w ∈ ([Str.ofString "read", Str.ofString "write"] : List Str)) from (by decide +kernel : ¬ (Str.ofString "add" ∈ ([Str.ofString "read", Str.ofString "write"] : List Str))))]
      walk_at "p4s"
      refine ⟨fun ρ' μ' => ρ' = [some (.loc w), some (.loc a), some (.d (ddD (.add n))), some (.d (.str (Dd.add n).w))] ∧ μ' = updM μ a (.dic (perK t (palm + n) notes cl)), ?_, ?_⟩
      · walk_at "p4s"
        rw [decide_eq_false (show ¬ ((Dd.add n).w = Str.ofString "set") from (by decide +kernel : ¬ (Str.ofString "add" = Str.ofString "set")))]
        walk_at "p4s"
        rw [decide_eq_true (show ((Dd.add n).w = Str.ofString "add") from (by decide +kernel : (Str.ofString "add" = Str.ofString "add")))]
        walk_at "p4s"
        refine ⟨_, _, _, dicOf_loc ha, rfl, pk_palm, ?_⟩
        walk_at "p4s"
        refine v_ixT at1 ?_
        walk_at "p4s"
        refine ⟨a, _, _, rfl, ha, rfl, pk_len, ?_⟩
        rw [pp_palm]
        exact ⟨rfl, rfl⟩
      rintro _ _ ⟨rfl, rfl⟩
      walk_at "p4s"
      refine ⟨_, _, _, dicOf_loc updM_same, rfl, pk_at, ?_⟩
      walk_at "p4s"
      refine ⟨a, _, _, rfl, updM_same, rfl, pk_len, ?_⟩
      rw [updM_upd, pp_atS]
      walk_at "p4s"
      exact q notes rfl nd (Nat.le_succ _)
    | take n => exact absurd rfl (nt n)
    | skip n m =>
      rw [decide_eq_false (show ¬ ((Dd.skip n m).w = Str.ofString "quit") from (by decide +kernel : ¬ (Str.ofString "skip" = Str.ofString "quit")))]
      walk_at "p4s"
      refine w_inST (ws := ["read", "write"]) ?_
      rw [decide_eq_false (show ¬ ((Dd.skip n m).w ∈ ([Str.ofString "read", Str.ofString "write"] : List Str)) from (by decide +kernel : ¬ (Str.ofString "skip" ∈ ([Str.ofString "read", Str.ofString "write"] : List Str))))]
      walk_at "p4s"
      have hm : 0 ≤ m := hd.2.1
      refine ⟨fun ρ' μ' => ρ' = [some (.loc w), some (.loc a), some (.d (ddD (.skip n m))), some (.d (.str (Dd.skip n m).w))] ∧ μ' = updM μ a (.dic (perK (if palm = n then t + m.toNat else t) palm notes cl)), ?_, ?_⟩
      · walk_at "p4s"
        rw [decide_eq_false (show ¬ ((Dd.skip n m).w = Str.ofString "set") from (by decide +kernel : ¬ (Str.ofString "skip" = Str.ofString "set")))]
        walk_at "p4s"
        rw [decide_eq_false (show ¬ ((Dd.skip n m).w = Str.ofString "add") from (by decide +kernel : ¬ (Str.ofString "skip" = Str.ofString "add")))]
        walk_at "p4s"
        rw [decide_eq_false (show ¬ ((Dd.skip n m).w = Str.ofString "read") from (by decide +kernel : ¬ (Str.ofString "skip" = Str.ofString "read")))]
        walk_at "p4s"
        rw [decide_eq_false (show ¬ ((Dd.skip n m).w = Str.ofString "write") from (by decide +kernel : ¬ (Str.ofString "skip" = Str.ofString "write")))]
        walk_at "p4s"
        rw [decide_eq_true (show ((Dd.skip n m).w = Str.ofString "skip") from (by decide +kernel : (Str.ofString "skip" = Str.ofString "skip")))]
        walk_at "p4s"
        refine ⟨_, _, _, dicOf_loc ha, rfl, pk_palm, ?_⟩
        walk_at "p4s"
        refine v_ixT at1 ?_
        walk_at "p4s"
        by_cases cp : palm = n
        · rw [decide_eq_true cp, if_pos cp]
          walk_at "p4s"
          refine ⟨_, _, _, dicOf_loc ha, rfl, pk_at, ?_⟩
          walk_at "p4s"
          refine v_ixT at2 ?_
          walk_at "p4s"
          refine ⟨a, _, _, rfl, ha, rfl, pk_len, ?_⟩
          rw [show (t : Int) + m = ((t + m.toNat : Nat) : Int) by omega, pp_at]
          exact ⟨rfl, rfl⟩
        · rw [decide_eq_false cp, if_neg cp]
          walk_at "p4s"
          exact ⟨rfl, (updM_self ha).symm⟩
      rintro _ _ ⟨rfl, rfl⟩
      walk_at "p4s"
      refine ⟨_, _, _, dicOf_loc updM_same, rfl, pk_at, ?_⟩
      walk_at "p4s"
      refine ⟨a, _, _, rfl, updM_same, rfl, pk_len, ?_⟩
      rw [updM_upd, pp_atS]
      walk_at "p4s"
      have e1 : (if palm = n then t + m.toNat else t) + 1 = (if palm = n then t + 1 + m.toNat else t + 1) := by split <;> omega
      rw [e1]
      exact q notes rfl nd (Nat.le_succ _)
    | quit =>
      rw [decide_eq_true (show ((Dd.quit).w = Str.ofString "quit") from (by decide +kernel : (Str.ofString "quit" = Str.ofString "quit")))]
      walk_at "p4s"
      exact q
    | read c =>
      rw [decide_eq_false (show ¬ ((Dd.read c).w = Str.ofString "quit") from (by decide +kernel : ¬ (Str.ofString "read" = Str.ofString "quit")))]
      walk_at "p4s"
      refine w_inST (ws := ["read", "write"]) ?_
      rw [decide_eq_true (show ((Dd.read c).w ∈ ([Str.ofString "read", Str.ofString "write"] : List Str)) from (by decide +kernel : (Str.ofString "read" ∈ ([Str.ofString "read", Str.ofString "write"] : List Str))))]
      walk_at "p4s"
      obtain ⟨x, hx, ex⟩ := List.mem_map.mp (show c ∈ p.cells.map (·.name) from hd)
      subst ex
      have el : lockOf p x.name = x.lock := lock_of ok hx
      obtain ⟨kv, e1, e2⟩ := val_latch ok hx (μ := μ)
      refine ⟨_, _, _, dicOf_loc hw, rfl, wk_latch, ?_⟩
      walk_at "p4s"
      refine v_ixT at1 ?_
      walk_at "p4s"
      refine ⟨kv, .inr x.name, _, e1, rfl, e2, ?_⟩
      walk_at "p4s"
      refine ⟨_, _, _, dicOf_loc ha, rfl, pk_claims, ?_⟩
      walk_at "p4s"
      by_cases hc2 : x.lock ∈ cl
      case neg =>
        rw [decide_eq_false hc2]
        walk_at "p4s"
        have es : stepL p vs (absL t palm notes cl) (.read x.name) = none := by
          simp only [stepL, el]
          exact if_neg hc2
        rw [es] at q
        exact q
      rw [decide_eq_true hc2]
      walk_at "p4s"
      obtain ⟨v, hvc⟩ := hv.some hd
      have es : stepL p vs (absL t palm notes cl) (.read x.name) = some ⟨t + 1, (valSI notes x.name).getD v, sortSI notes, cl⟩ := by
        simp only [stepL, el]
        refine (if_pos hc2).trans ?_
        unfold foundL absL
        rw [valSI_perm (sortSI_pm notes) (keys_sort nd), hvc]
        rfl
      rw [es] at q
      refine ⟨fun ρ' μ' => ρ' = [some (.loc w), some (.loc a), some (.d (ddD (.read x.name))), some (.d (.str (Dd.read x.name).w))] ∧ μ' = updM μ a (.dic (perK t ((valSI notes x.name).getD v) notes cl)), ?_, ?_⟩
      · walk_at "p4s"
        rw [decide_eq_false (show ¬ ((Dd.read x.name).w = Str.ofString "set") from (by decide +kernel : ¬ (Str.ofString "read" = Str.ofString "set")))]
        walk_at "p4s"
        rw [decide_eq_false (show ¬ ((Dd.read x.name).w = Str.ofString "add") from (by decide +kernel : ¬ (Str.ofString "read" = Str.ofString "add")))]
        walk_at "p4s"
        rw [decide_eq_true (show ((Dd.read x.name).w = Str.ofString "read") from (by decide +kernel : (Str.ofString "read" = Str.ofString "read")))]
        walk_at "p4s"
        refine ⟨_, _, _, dicOf_loc ha, rfl, pk_notes, ?_⟩
        refine ⟨⟨_, dicOf_dicD _⟩, ?_⟩
        walk_at "p4s"
        refine v_ixT at1 ?_
        walk_at "p4s"
        refine ⟨_, _, _, dicOf_loc hw, rfl, wk_values, ?_⟩
        walk_at "p4s"
        refine v_ixT at1 ?_
        walk_at "p4s"
        refine ⟨kvSI vs, .inr x.name, .d (.int v), dicOf_dicD _, rfl, by rw [val_kvSI, hvc]; rfl, ?_⟩
        walk_at "p4s"
        refine ⟨kvSI notes, .inr x.name, dicOf_dicD _, rfl, ?_⟩
        rw [val_kvSI, show ((valSI notes x.name).map fun v => Vl.d (.int v)).getD (.d (.int v)) = .d (.int ((valSI notes x.name).getD v)) by cases valSI notes x.name <;> rfl]
        walk_at "p4s"
        refine ⟨a, _, _, rfl, ha, rfl, pk_len, ?_⟩
        rw [pp_palm]
        exact ⟨rfl, rfl⟩
      rintro _ _ ⟨rfl, rfl⟩
      walk_at "p4s"
      refine ⟨_, _, _, dicOf_loc updM_same, rfl, pk_at, ?_⟩
      walk_at "p4s"
      refine ⟨a, _, _, rfl, updM_same, rfl, pk_len, ?_⟩
      rw [updM_upd, pp_atS]
      walk_at "p4s"
      exact q notes rfl nd (Nat.le_succ _)
    | write c =>
      rw [decide_eq_false (show ¬ ((Dd.write c).w = Str.ofString "quit") from (by decide +kernel : ¬ (Str.ofString "write" = Str.ofString "quit")))]
      walk_at "p4s"
      refine w_inST (ws := ["read", "write"]) ?_
      rw [decide_eq_true (show ((Dd.write c).w ∈ ([Str.ofString "read", Str.ofString "write"] : List Str)) from (by decide +kernel : (Str.ofString "write" ∈ ([Str.ofString "read", Str.ofString "write"] : List Str))))]
      walk_at "p4s"
      obtain ⟨x, hx, ex⟩ := List.mem_map.mp (show c ∈ p.cells.map (·.name) from hd)
      subst ex
      have el : lockOf p x.name = x.lock := lock_of ok hx
      obtain ⟨kv, e1, e2⟩ := val_latch ok hx (μ := μ)
      refine ⟨_, _, _, dicOf_loc hw, rfl, wk_latch, ?_⟩
      walk_at "p4s"
      refine v_ixT at1 ?_
      walk_at "p4s"
      refine ⟨kv, .inr x.name, _, e1, rfl, e2, ?_⟩
      walk_at "p4s"
      refine ⟨_, _, _, dicOf_loc ha, rfl, pk_claims, ?_⟩
      walk_at "p4s"
      by_cases hc2 : x.lock ∈ cl
      case neg =>
        rw [decide_eq_false hc2]
        walk_at "p4s"
        have es : stepL p vs (absL t palm notes cl) (.write x.name) = none := by
          simp only [stepL, el]
          exact if_neg hc2
        rw [es] at q
        exact q
      rw [decide_eq_true hc2]
      walk_at "p4s"
      have es : stepL p vs (absL t palm notes cl) (.write x.name) = some ⟨t + 1, palm, sortSI (putSI (sortSI notes) x.name palm), cl⟩ := by
        simp only [stepL, el]
        exact if_pos hc2
      rw [es] at q
      refine ⟨fun ρ' μ' => ρ' = [some (.loc w), some (.loc a), some (.d (ddD (.write x.name))), some (.d (.str (Dd.write x.name).w))] ∧ μ' = updM μ a (.dic (perK t palm (putSI notes x.name palm) cl)), ?_, ?_⟩
      · walk_at "p4s"
        rw [decide_eq_false (show ¬ ((Dd.write x.name).w = Str.ofString "set") from (by decide +kernel : ¬ (Str.ofString "write" = Str.ofString "set")))]
        walk_at "p4s"
        rw [decide_eq_false (show ¬ ((Dd.write x.name).w = Str.ofString "add") from (by decide +kernel : ¬ (Str.ofString "write" = Str.ofString "add")))]
        walk_at "p4s"
        rw [decide_eq_false (show ¬ ((Dd.write x.name).w = Str.ofString "read") from (by decide +kernel : ¬ (Str.ofString "write" = Str.ofString "read")))]
        walk_at "p4s"
        rw [decide_eq_true (show ((Dd.write x.name).w = Str.ofString "write") from (by decide +kernel : (Str.ofString "write" = Str.ofString "write")))]
        walk_at "p4s"
        refine ⟨_, _, _, dicOf_loc ha, rfl, pk_notes, ?_⟩
        refine ⟨notes.map siK, dicOf_dicD _, ?_⟩
        walk_at "p4s"
        refine v_ixT at1 ?_
        walk_at "p4s"
        refine ⟨_, _, _, dicOf_loc ha, rfl, pk_palm, ?_⟩
        walk_at "p4s"
        refine w_catL (szN (by rw [List.length_map, List.length_map]; show notes.length + 1 ≤ _; omega)) ?_
        rw [show (notes.map siK).map L4.pairD ++ [D.tup [.str x.name, .int palm]] = (notes ++ [(x.name, palm)]).map pairSI by rw [pair_siK, List.map_append]; rfl]
        refine ⟨_, _, rfl, pairs_SI _, (putSI notes x.name palm).map siK, merge_put nd, ?_⟩
        walk_at "p4s"
        refine ⟨a, _, _, rfl, ha, rfl, pk_len, ?_⟩
        rw [show dicD ((putSI notes x.name palm).map siK) = dicSI (putSI notes x.name palm) from rfl, pp_notes]
        exact ⟨rfl, rfl⟩
      rintro _ _ ⟨rfl, rfl⟩
      walk_at "p4s"
      refine ⟨_, _, _, dicOf_loc updM_same, rfl, pk_at, ?_⟩
      walk_at "p4s"
      refine ⟨a, _, _, rfl, updM_same, rfl, pk_len, ?_⟩
      rw [updM_upd, pp_atS]
      walk_at "p4s"
      exact q (putSI notes x.name palm) (sort_put _ _ _).symm (putSI_keys nd) putSI_len
end
end K22
namespace K22
open PySem PySem.Spec PyProof.Rows L2 TB LamX NdefX L3 L4
open C8 (Cal pe_c Mak pe_mk Met pe_mt pe_mt0 pss_cut tCut pe_gc)
theorem sc__law_worths : FnScope ["_law_pot_here", "_law_world_here", "_law_slot"] ["_law_pot_here", "_law_world_here"] (defScope s__law_worths) := ⟨rfl, rfl, rfl, by decide +kernel, rfl, by decide +kernel, by decide +kernel⟩
section
variable {P : Program} {w : World} {K : PySem.W.Frag} {mg : Str → Option Value} {base : Heap} {f C CP : Addr} {fd : FuncData} {tb : List (Addr × Str)}
theorem ok__law_worths (F : FnP K "_law_worths" s__law_worths f fd) (T : BltA mg) (c__law_number : Cal P w K mg base 2 "_law_number" (lsp ⟨K, tb⟩ none pNumber) []) (c__law_draw : Cal P w K mg base 1 "_law_draw" (lsp ⟨K, tb⟩ none pDraw) []) : FnOk P w K mg base CX0 3 f fd ["_law_pot_here", "_law_world_here"] (lsp4 ⟨K, tb⟩ pWorthsB) := by
  refine F.ok sc__law_worths (lsp4_len (by rintro xs μ Q4 X4 ⟨p, vs, w, o, a, f, rfl, _⟩; rfl)) (fun cdv A outer s H vs Q E hr h => ⟨_, PSs.nox
(pss_one (ps_ret (pe_callTy (cr_dictP K rfl) (by rfl) T.b_dict (by decide +kernel) (pa_cons (pe_lc (own := [("_law_slot", 2)]) (tt := tYes) rfl sc__law_worths.nd (kPI K (pi_list (pe_dget (hu_of hr) (pv 1) pe_str (fun _ _ => rfl)))) (blkOk_by (N := ["_law_pot_here", "_law_world_here", "_law_slot"]) (sc := defScope s__law_worths) (by decide +kernel)) (fun _ _ _ _ _ => pg_name (i := 2) sc__law_worths.nd rfl (Or.inl rfl)) (fun _ _ _ _ _ => pts_nil) (fun _ _ _ _ _ => (pe_tup (pa_cons (pe_ix (ix_tupK K) (pv 2) pe_int (fun _ _ => rfl)) (pa_cons (pe_ix (ix_listK K) (pe_lst (pa_cons (pe_ix (ix_tupK K) (pv 2) pe_int (fun _ _ => rfl)) (pa_cons (pe_c c__law_number hr (by decide) (by rfl) (pa_cons (pv 0) pa_nil)) pa_nil))) (pe_c c__law_draw hr (by decide) (by rfl) (pa_cons (pv 0) (pa_cons pe_int pa_nil))) (fun _ _ => rfl)) pa_nil))))) pa_nil))))
, run4 ?go h⟩)
  case go =>
    refine ⟨_, (by walk_at "l4s"), ?_⟩
    rintro xs μ Q4 X4 ⟨p, vs, w, o, a, f, rfl, ok, hw, q⟩
    walk_at "p4s"
    refine ⟨_, _, _, dicOf_loc hw, rfl, wk_slots, ?_⟩
    walk_at "p4s"
    refine ⟨_, rfl, ?_⟩
    refine ⟨fun i acc μ' => μ' = μ ∧ ∃ ws : List SI, acc = (ws.map pairSI).map Vl.d ∧ keysSI ws = p.cellNames.take i ∧ ValsB ws, ⟨rfl, [], rfl, rfl, (fun _ z => nomatch z)⟩, ?_⟩
    rintro i _ _ ⟨rfl, ws, rfl, kw, vb⟩
    have ev : (wkOf (Vl.d (D.lst (p.cells.map clD))) ((p.cells.map clD).map Vl.d)).vs = (p.cells.map clD).map Vl.d := rfl
    refine ⟨trivial, fun e => ?_, fun x e => ?_⟩
    · have hi : p.cells.length ≤ i := by
        have := List.getElem?_eq_none_iff.mp e
        rw [ev, List.length_map, List.length_map] at this
        exact this
      have kw2 : keysSI ws = p.cellNames := by rw [kw, List.take_of_length_le (by rw [PlanL.cellNames, List.length_map]; exact hi)]
      have nd : (keysSI ws).Nodup := by rw [kw2]; exact ok.ndC
      refine ⟨_, allD_map _, _, _, rfl, pairs_SI ws, ws.map siK, merge_kvSI nd, ?_⟩
      exact q ws kw2 vb
    · rw [ev, List.getElem?_map, List.getElem?_map] at e
      obtain ⟨y, e1, rfl⟩ := Option.map_eq_some_iff.mp e
      obtain ⟨c, ec, rfl⟩ := Option.map_eq_some_iff.mp e1
      have hc := List.mem_of_getElem? ec
      walk_at "p4s"
      refine v_ixT at0 ?_
      walk_at "p4s"
      refine v_ixT at2 ?_
      walk_at "p4s"
      refine ⟨rfl, fun n n0 n1 => ?_⟩
      walk_at "p4s"
      refine ⟨2, rfl, by decide, by decide, fun k k0 k1 => ?_⟩
      have li : (ws.map pairSI).length < 1000000 := by
        have e2 : (keysSI ws).length = (p.cellNames.take i).length := congrArg _ kw
        rw [keysSI, List.length_map] at e2
        rw [List.length_map, e2, List.length_take, PlanL.cellNames, List.length_map]
        have := ok.c8
        omega
      have nb : n.natAbs ≤ uN := by have : uN = 10 ^ 18 := rfl; omega
      have cb : c.val.natAbs ≤ uN := far_abs (ok.cl c hc).2
      have st : ∀ v : Int, v.natAbs ≤ uN → ∃ ws' : List SI, (ws.map pairSI).map Vl.d ++ [Vl.d (D.tup [.str c.name, .int v])] = (ws'.map pairSI).map Vl.d ∧ keysSI ws' = p.cellNames.take (i + 1) ∧ ValsB ws' := fun v hv => ⟨ws ++ [(c.name, v)], by rw [List.map_append, List.map_append]; rfl, keys_take p kw ec, fun b hb => by
        rcases List.mem_append.mp hb with hb | hb
        · exact vb b hb
        · rw [List.mem_singleton.mp hb]; exact hv⟩
      rcases (by omega : k = 0 ∨ k = 1) with rfl | rfl
      · walk_at "p4s"
        refine ⟨_, _, _, rfl, rfl, show atI _ (0 : Int) = some (Vl.d (D.int c.val)) from rfl, ?_⟩
        walk_at "p4s"
        exact ⟨szL (by rw [List.length_map]; exact li), rfl, st _ cb⟩
      · walk_at "p4s"
        refine ⟨_, _, _, rfl, rfl, show atI _ (1 : Int) = some (Vl.d (D.int n)) from rfl, ?_⟩
        walk_at "p4s"
        exact ⟨szL (by rw [List.length_map]; exact li), rfl, st _ nb⟩
end
end K22
namespace K22
open PySem PySem.Spec PyProof.Rows L2 TB LamX NdefX L3 L4
open C8 (Cal pe_c Mak pe_mk Met pe_mt pe_mt0 pss_cut tCut pe_gc)
theorem sc__law_plan_of : FnScope ["_law_drawn_here", "_law_latches", "_law_slots", "_law_crew", "_law_name_here", "_law_acts_here"] ["_law_drawn_here"] (defScope s__law_plan_of) := ⟨rfl, rfl, rfl, by decide +kernel, rfl, by decide +kernel, by decide +kernel⟩
section
variable {P : Program} {w : World} {K : PySem.W.Frag} {mg : Str → Option Value} {base : Heap} {f C CP : Addr} {fd : FuncData} {tb : List (Addr × Str)}
theorem ok__law_plan_of (F : FnP K "_law_plan_of" s__law_plan_of f fd) (T : BltA mg) (m_Plan : Mak P w K mg base 5 "Plan" C (lsp4 ⟨K, tb⟩ (pPlanInit C)) []) : FnOk P w K mg base CX0 7 f fd ["_law_drawn_here"] (lsp ⟨K, tb⟩ none (pBuilt C)) := by
  refine F.ok sc__law_plan_of (lsp_len (by rintro ds Q3 ⟨p, rfl, _⟩; rfl)) (fun cdv A outer s H vs Q E hr h => ⟨_, PSs.nox
(pss_cons (ps_asg (pv 0) (kTup K 3 (pg_tup rfl (pgs_cons (pg_name (i := 1) sc__law_plan_of.nd rfl (.inl rfl)) (pgs_cons (pg_name (i := 2) sc__law_plan_of.nd rfl (.inl rfl)) (pgs_cons (pg_name (i := 3) sc__law_plan_of.nd rfl (.inl rfl)) pgs_nil))))))
  (pss_one (ps_ret (pe_mk m_Plan hr (by decide) (by rfl) (pa_cons (pe_callTy (call_listK K) (by rfl) T.b_list (by decide +kernel) (pa_cons (pv 1) pa_nil)) (pa_cons (pe_callTy (call_listK K) (by rfl) T.b_list (by decide +kernel) (pa_cons (pv 2) pa_nil)) (pa_cons (pe_lc (own := [("_law_name_here", 4), ("_law_acts_here", 5)]) (tt := tYes) rfl sc__law_plan_of.nd (kPI K (pi_list (pv 3))) (blkOk_by (N := ["_law_drawn_here", "_law_latches", "_law_slots", "_law_crew", "_law_name_here", "_law_acts_here"]) (sc := defScope s__law_plan_of) (by decide +kernel)) (fun _ _ _ _ _ => kTup K 2 (pg_tup rfl (pgs_cons (pg_name (i := 4) sc__law_plan_of.nd rfl (Or.inl rfl)) (pgs_cons (pg_name (i := 5) sc__law_plan_of.nd rfl (Or.inl rfl)) pgs_nil)))) (fun _ _ _ _ _ => pts_nil) (fun _ _ _ _ _ => (pe_tup (pa_cons (pv 4) (pa_cons (pe_callTy (call_listK K) (by rfl) T.b_list (by decide +kernel) (pa_cons (pv 5) pa_nil)) pa_nil))))) pa_nil)))))))
, run3' ?go h⟩)
  case go =>
    refine ⟨_, (by walk_at "li"), ?_⟩
    rintro ds Q3 ⟨p, rfl, ok, q⟩
    unfold drawnD
    walk_at "pp"
    refine LcP_map (xs := p.tasks) (enc := tkD) tkD (small1000 (by have := ok.t6; omega)) ?_ ?_
    · intro t ht Y N hY
      rw [show tkD t = .tup [.str t.1, .lst (t.2.map ddD)] from rfl] at hY ⊢
      walk_at "pp"
      refine ⟨(by show 2 ≤ sizeLine; decide), ?_⟩
      walk_at "pp"
      exact hY _ rfl
    walk_at "pp"
    refine ⟨[.lst (strsD p.locks), .lst (p.cells.map clD), .lst (p.tasks.map tkD)], rfl, fun x dx => ⟨x, dx, p, _, rfl, Or.inl rfl, L4.updM_same, ok, rfl, L4.planF p, _, (by rw [L4.updM_upd]; exact L4.updM_same), rfl, ?_⟩⟩
    walk_at "pp"
    exact q
end
end K22
namespace K22
open PySem PySem.Spec PyProof.Rows L2 TB LamX NdefX L3 OwnE
open C8 (Cal pe_c Mak pe_mk Met pe_mt pe_mt0 pss_cut tCut pe_gc)
open L4 (pPlEq planT w_eqPlanT)
theorem sc_Plan___eq__ : FnScope ["self", "other", "mine"] ["self", "other"] (defScope s_Plan___eq__) := ⟨rfl, rfl, rfl, by decide +kernel, rfl, by decide +kernel, by decide +kernel⟩
section
variable {P : Program} {w : World} {K : PySem.W.Frag} {mg : Str → Option Value} {base : Heap} {f C : Addr} {fd : FuncData} {tb : List (Addr × Str)}
theorem ok_Plan___eq__ (F : FnM K "__eq__" "Plan.__eq__" s_Plan___eq__ [] f fd) (T : BltA mg) (cl : Cls K C) (n1 : NoAttr K C "own_locks") (n2 : NoAttr K C "own_cells") (n3 : NoAttr K C "own_tasks") (n4 : NoAttr K C "own_names") (ic : IsiC K C) (v_Plan : ∃ u, mg "Plan" = some u ∧ RelV (V.ref C) u) : FnOk P w K mg base CX0 2 f fd ["self", "other"] (lsp ⟨K, tb⟩ none (pPlEq C)) := by
  refine F.ok sc_Plan___eq__ (lsp_len (by rintro ds Q3 (⟨f, g, rfl, _⟩ | ⟨f, y, rfl, _⟩) <;> rfl)) (fun cdv A outer s H vs Q E hr h => ⟨_, PSs.nox
(pss_cons (ps_if (pt_not (pt_val (pe_callB (call_isiX K) (by rfl) T.b_isinstance (by decide +kernel) (pa_cons (pv 1) (pa_cons (pe_gc (by rfl) v_Plan) pa_nil)))))
    (pss_one (ps_ret pe_bl))
    pss_nil)
  (pss_cons (ps_set (i := 2) sc_Plan___eq__.nd rfl (.inl rfl) (pe_tup (pa_cons (kFld K (pe_fld (pv 0) rfl)) (pa_cons (kFld K (pe_fld (pv 0) rfl)) (pa_cons (kFld K (pe_fld (pv 0) rfl)) pa_nil)))))
  (pss_one (ps_ret (pe_cmpR (op_eqDK K hr.units) (pv 2) (pe_tup (pa_cons (kFld K (pe_fld (pv 1) rfl)) (pa_cons (kFld K (pe_fld (pv 1) rfl)) (pa_cons (kFld K (pe_fld (pv 1) rfl)) pa_nil)))) (nomark _))))))
, run3' ?go h⟩)
  case go =>
    refine ⟨_, (by walk_at "li"), ?_⟩
    rintro ds Q3 (⟨p, q, rfl, op, oq, h⟩ | ⟨p, y, rfl, o, h⟩)
    · walk_at "pp"
      refine Or.inl ⟨_, _, rfl, ?_⟩
      walk_at "pp"
      refine ⟨_, _, _, rfl, rfl, rfl, ?_⟩
      walk_at "pp"
      refine ⟨_, _, _, rfl, rfl, rfl, ?_⟩
      walk_at "pp"
      refine ⟨_, _, _, rfl, rfl, rfl, ?_⟩
      walk_at "pp"
      refine ⟨(by show 3 ≤ sizeLine; decide), ?_⟩
      walk_at "pp"
      refine ⟨_, _, _, rfl, rfl, rfl, ?_⟩
      walk_at "pp"
      refine ⟨_, _, _, rfl, rfl, rfl, ?_⟩
      walk_at "pp"
      refine ⟨_, _, _, rfl, rfl, rfl, ?_⟩
      walk_at "pp"
      refine ⟨(by show 3 ≤ sizeLine; decide), ?_⟩
      walk_at "pp"
      refine w_eqPlanT op oq fun b hb => ?_
      walk_at "pp"
      exact h b hb
    · walk_at "pp"
      refine Or.inr ⟨_, rfl, o, ?_⟩
      walk_at "pp"
      exact h
end
end K22
namespace K22
open PySem PySem.Spec PyProof.Rows L2 TB LamX NdefX L3 L4
open C8 (Cal pe_c Mak pe_mk Met pe_mt pe_mt0 pss_cut tCut pe_gc)
theorem sc_Life_key : FnScope ["self"] ["self"] (defScope s_Life_key) := ⟨rfl, rfl, rfl, by decide +kernel, rfl, by decide +kernel, by decide +kernel⟩
theorem sc__law_own_life : FnScope ["_law_person_here"] ["_law_person_here"] (defScope s__law_own_life) := ⟨rfl, rfl, rfl, by decide +kernel, rfl, by decide +kernel, by decide +kernel⟩
theorem sc__law_life_of : FnScope ["_law_life", "_law_at", "_law_palm", "_law_notes", "_law_claims_here"] ["_law_life"] (defScope s__law_life_of) := ⟨rfl, rfl, rfl, by decide +kernel, rfl, by decide +kernel, by decide +kernel⟩
theorem sc__law_life_made : FnScope ["_law_person_here", "_law_notes", "_law_claims_here"] ["_law_person_here"] (defScope s__law_life_made) := ⟨rfl, rfl, rfl, by decide +kernel, rfl, by decide +kernel, by decide +kernel⟩
theorem sc__law_due : FnScope ["_law_world_here", "_law_person_here", "_law_act_here", "_law_later"] ["_law_world_here", "_law_person_here", "_law_act_here"] (defScope s__law_due) := ⟨rfl, rfl, rfl, by decide +kernel, rfl, by decide +kernel, by decide +kernel⟩
theorem sc__law_told : FnScope ["_law_life", "_law_act_here", "_law_plan", "_law_worths_here", "_law_came"] ["_law_life", "_law_act_here", "_law_plan", "_law_worths_here"] (defScope s__law_told) := ⟨rfl, rfl, rfl, by decide +kernel, rfl, by decide +kernel, by decide +kernel⟩
theorem w_takeN {d : Dd} (h : ∀ z, d ≠ .take z) : ¬ d.w = Str.ofString "take" := by
  cases d with
  | take z => exact absurd rfl (h z)
  | set n => exact (by decide +kernel : Str.ofString "set" ≠ Str.ofString "take")
  | add n => exact (by decide +kernel : Str.ofString "add" ≠ Str.ofString "take")
  | quit => exact (by decide +kernel : Str.ofString "quit" ≠ Str.ofString "take")
  | read n => exact (by decide +kernel : Str.ofString "read" ≠ Str.ofString "take")
  | write n => exact (by decide +kernel : Str.ofString "write" ≠ Str.ofString "take")
  | skip n m => exact (by decide +kernel : Str.ofString "skip" ≠ Str.ofString "take")
section
variable {P : Program} {w : World} {K : PySem.W.Frag} {mg : Str → Option Value} {base : Heap} {f C CP : Addr} {fd : FuncData} {tb : List (Addr × Str)}
theorem ok2__law_person (F : FnP K "_law_person" s__law_person f fd) (T : BltA mg) : FnOk P w K mg base CX0 1 f fd [] (lsp4 ⟨K, tb⟩ pPersonL) := by
  refine F.ok sc__law_person (lsp4_len (by rintro xs μ Q4 X4 ⟨rfl, _⟩; rfl)) (fun cdv A outer s H vs Q E hr h => ⟨_, PSs.nox
(pss_one (ps_ret (pe_disp (pps_cons pe_str pe_int (pps_cons pe_str pe_int (pps_cons pe_str (toMu pe_dnewK) (pps_cons pe_str (pe_lst pa_nil) (pps_cons pe_str (pe_lst pa_nil) (pps_cons pe_str pe_non (pps_cons pe_str pe_non pps_nil))))))) (by rfl) (by rfl) (fun z => by cases z) (by decide))))
, run4 ?go h⟩)
  case go =>
    refine ⟨_, (by walk_at "l4s"), ?_⟩
    rintro xs μ Q4 X4 ⟨rfl, q⟩
    walk_at "p4s"
    intro a na
    walk_at "p4s"
    intro n nn
    have ea : n ≠ a := fun e => by rw [e, updM_same] at nn; exact nomatch nn
    rw [updM_ne ea] at nn
    walk_at "p4s"
    refine ⟨by rw [updM_ne (fun e => ea e.symm)]; exact updM_same, _, rfl, by show 7 ≤ 15; decide, ?_⟩
    rw [updM_swap ea]
    exact q a n na nn ea
theorem ok__law_own_life (F : FnP K "_law_own_life" s__law_own_life f fd) (T : BltA mg) : FnOk P w K mg base CX0 1 f fd ["_law_person_here"] (lsp4 ⟨K, tb⟩ pOwnLife) := by
  refine F.ok sc__law_own_life (lsp4_len (by rintro xs μ Q4 X4 ⟨b, t, palm, notes, cl, rfl, _⟩; rfl)) (fun cdv A outer s H vs Q E hr h => ⟨_, PSs.nox
(pss_one (ps_ret (pe_tup (pa_cons (pe_dget (hu_of hr) (pv 0) pe_str (fun _ _ => rfl)) (pa_cons (pe_dget (hu_of hr) (pv 0) pe_str (fun _ _ => rfl)) (pa_cons (pe_dget (hu_of hr) (pv 0) pe_str (fun _ _ => rfl)) (pa_cons (pe_dget (hu_of hr) (pv 0) pe_str (fun _ _ => rfl)) pa_nil)))))))
, run4 ?go h⟩)
  case go =>
    refine ⟨_, (by walk_at "l4s"), ?_⟩
    rintro xs μ Q4 X4 ⟨b, t, palm, notes, cl, rfl, hb, q⟩
    walk_at "p4s"
    refine ⟨_, _, _, dicOf_loc hb, rfl, pk_at, ?_⟩
    walk_at "p4s"
    refine ⟨_, _, _, dicOf_loc hb, rfl, pk_palm, ?_⟩
    walk_at "p4s"
    refine ⟨_, _, _, dicOf_loc hb, rfl, pk_notes, ?_⟩
    walk_at "p4s"
    refine ⟨_, _, _, dicOf_loc hb, rfl, pk_claims, ?_⟩
    walk_at "p4s"
    exact q
theorem ok__law_life_of (F : FnP K "_law_life_of" s__law_life_of f fd) (T : BltA mg) : FnOk P w K mg base CX0 1 f fd ["_law_life"] (lsp4 ⟨K, tb⟩ pLifeOf) := by
  refine F.ok sc__law_life_of (lsp4_len (by rintro xs μ Q4 X4 ⟨t, palm, notes, cl, rfl, _⟩; rfl)) (fun cdv A outer s H vs Q E hr h => ⟨_, PSs.nox
(pss_cons (ps_asg (pv 0) (kTup K 4 (pg_tup rfl (pgs_cons (pg_name (i := 1) sc__law_life_of.nd rfl (.inl rfl)) (pgs_cons (pg_name (i := 2) sc__law_life_of.nd rfl (.inl rfl)) (pgs_cons (pg_name (i := 3) sc__law_life_of.nd rfl (.inl rfl)) (pgs_cons (pg_name (i := 4) sc__law_life_of.nd rfl (.inl rfl)) pgs_nil)))))))
  (pss_one (ps_ret (pe_tup (pa_cons (pv 1) (pa_cons (pv 2) (pa_cons (toKn (pe_callTy (call_tupG K) (by rfl) T.b_tuple (by decide +kernel) (pa_cons (pe_sortIt rfl (hu65 hr) (pv 3) (by rfl) T.b_sorted) pa_nil))) (pa_cons (pe_callTy (call_tupK K) (by rfl) T.b_tuple (by decide +kernel) (pa_cons (pv 4) pa_nil)) pa_nil))))))))
, run4 ?go h⟩)
  case go =>
    refine ⟨_, (by walk_at "l4s"), ?_⟩
    rintro xs μ Q4 X4 ⟨t, palm, notes, cl, rfl, hn, hc, q⟩
    walk_at "p4s"
    unfold ownD
    refine v_gtup (xs := [.d (.int t), .d (.int palm), .d (dicSI notes), .d (.lst (strsD cl))]) rfl rfl ?_
    walk_at "p4s"
    refine ⟨notes, dicOf_dicD _, ?_⟩
    walk_at "p4s"
    refine ⟨_, rfl, ?_⟩
    walk_at "p4s"
    exact q
theorem ok__law_life_made {gV : List V → List V → List V} (gl : GLif K 4 gV g3phdc) (F : FnP K "_law_life_made" s__law_life_made f fd) (T : BltA mg) (m_Life_phdc : MakK P w K mg base 1 "Life" C (spLifeI C) ["place", "hand", "drafts", "called"] gV) : FnOk P w K mg base CX0 3 f fd ["_law_person_here"] (lsp4 ⟨K, tb⟩ (pLifeMade K C)) := by
  refine F.ok sc__law_life_made (lsp4_len (by rintro xs μ Q4 X4 ⟨b, t, palm, notes, cl, rfl, _⟩; rfl)) (fun cdv A outer s H vs Q E hr h => ⟨_, PSs.nox
(pss_cons (ps_par (i := 1) (j := 2) rfl sc__law_life_made.nd rfl rfl (by decide) rfl rfl (pa_cons (pe_callTy (call_tupG K) (by rfl) T.b_tuple (by decide +kernel) (pa_cons (pe_sortIt rfl (hu65 hr) (pe_dget (hu_of hr) (pv 0) pe_str (fun _ _ => rfl)) (by rfl) T.b_sorted) pa_nil)) (pa_cons (pe_callTy (call_tupK K) (by rfl) T.b_tuple (by decide +kernel) (pa_cons (pe_dget (hu_of hr) (pv 0) pe_str (fun _ _ => rfl)) pa_nil)) pa_nil)) rfl)
  (pss_one (ps_ret (pe_mkK m_Life_phdc hr (by decide) (by rfl) (pk_cons (pe_dget (hu_of hr) (pv 0) pe_str (fun _ _ => rfl)) (pk_cons (pe_dget (hu_of hr) (pv 0) pe_str (fun _ _ => rfl)) (pk_cons (pv 1) (pk_cons (pv 2) pk_nil))))))))
, run4 ?go h⟩)
  case go =>
    refine ⟨_, (by walk_at "l4s"), ?_⟩
    rintro xs μ Q4 X4 ⟨b, t, palm, notes, cl, rfl, hb, hn, hc, q⟩
    walk_at "p4s"
    refine ⟨_, _, _, dicOf_loc hb, rfl, pk_notes, ?_⟩
    walk_at "p4s"
    refine ⟨notes, dicOf_dicD _, ?_⟩
    walk_at "p4s"
    refine ⟨_, _, _, dicOf_loc hb, rfl, pk_claims, ?_⟩
    walk_at "p4s"
    refine ⟨_, _, rfl, ?_⟩
    walk_at "p4s"
    refine ⟨_, _, _, dicOf_loc hb, rfl, pk_at, ?_⟩
    walk_at "p4s"
    refine ⟨_, _, _, dicOf_loc hb, rfl, pk_palm, ?_⟩
    walk_at "p4s"
    refine ⟨[.int t, .int palm, knD K ((sortSI notes).map pairSI), .tup (strsD cl)], _, _, _, _, rfl, rfl, ?_⟩
    exact q
theorem ok__law_due (F : FnP K "_law_due" s__law_due f fd) (T : BltA mg) (c__law_claims : Cal P w K mg base 1 "_law_claims" (lsp4 ⟨K, tb⟩ pClaims) []) (c__law_moves : Cal P w K mg base 1 "_law_moves" (lsp4 ⟨K, tb⟩ pMoves) []) (c__law_own_life : Cal P w K mg base 1 "_law_own_life" (lsp4 ⟨K, tb⟩ pOwnLife) []) (c__law_life_of : Cal P w K mg base 1 "_law_life_of" (lsp4 ⟨K, tb⟩ pLifeOf) []) : FnOk P w K mg base CX0 2 f fd ["_law_world_here", "_law_person_here", "_law_act_here"] (lsp4 ⟨K, tb⟩ pDue22) := by
  refine F.ok sc__law_due (lsp4_len (by rintro xs μ Q4 X4 ⟨p, vs, w, o, a, f, b, d, t, palm, notes, cl, rfl, _⟩; rfl)) (fun cdv A outer s H vs Q E hr h => ⟨_, PSs.nox
(pss_cons (ps_set (i := 3) sc__law_due.nd rfl (.inl rfl) (toMu (pe_callTy (call_dictC K rfl) (by rfl) T.b_dict (by decide +kernel) (pa_cons (pv 1) pa_nil))))
  (pss_cons (ps_if (pt_cmpR op_eq (pe_ix (ix_tupK K) (pv 2) pe_int (fun _ _ => rfl)) pe_str (nomark _))
    (pss_cons (ps_expr (pe_c c__law_claims hr (by decide) (by rfl) (pa_cons (pv 3) (pa_cons (pe_ix (ix_tupK K) (pv 2) pe_int (fun _ _ => rfl)) pa_nil))))
      (pss_one (ps_ret (pe_c c__law_life_of hr (by decide) (by rfl) (pa_cons (pe_c c__law_own_life hr (by decide) (by rfl) (pa_cons (pv 3) pa_nil)) pa_nil)))))
    pss_nil)
  (pss_cons (ps_if (pt_not (pt_val (pe_c c__law_moves hr (by decide) (by rfl) (pa_cons (pv 0) (pa_cons (pv 3) (pa_cons (pv 2) pa_nil))))))
    (pss_one (ps_ret pe_non))
    pss_nil)
  (pss_one (ps_ret (pe_c c__law_life_of hr (by decide) (by rfl) (pa_cons (pe_c c__law_own_life hr (by decide) (by rfl) (pa_cons (pv 3) pa_nil)) pa_nil)))))))
, run4 ?go h⟩)
  case go =>
    refine ⟨_, (by walk_at "l4s"), ?_⟩
    rintro xs μ Q4 X4 ⟨p, vs, w, o, a', f, b, d, t, palm, notes, cl, rfl, ok, hv, hw, hb, hd, lo, nd, q⟩
    have nl : notes.length ≤ 8 := by have := lo.drl ok; rwa [show (absL t palm notes cl).dr.length = notes.length from (sortSI_pm notes).length_eq] at this
    have cl7 : cl.length ≤ 7 := lo.cll ok
    walk_at "p4s"
    refine ⟨_, dicOf_loc hb, fun x nx => ?_⟩
    have xw : w ≠ x := fun e => by rw [e, nx] at hw; exact nomatch hw
    walk_at "p4s"
    refine v_ixT at0 ?_
    walk_at "p4s"
    by_cases ct : ∃ z, d = .take z
    · obtain ⟨z, rfl⟩ := ct
      rw [decide_eq_true (show ((Dd.take z).w = Str.ofString "take") from (by decide +kernel : (Str.ofString "take" = Str.ofString "take")))]
      walk_at "p4s"
      refine v_ixT at1 ?_
      walk_at "p4s"
      refine ⟨x, z, t, palm, notes, cl, rfl, updM_same, by omega, ?_⟩
      rw [updM_upd]
      walk_at "p4s"
      refine ⟨x, _, _, _, _, rfl, updM_same, ?_⟩
      walk_at "p4s"
      have lz : (if z ∈ cl then cl else cl ++ [z]).length ≤ 1000 := by
        split
        · omega
        · rw [List.length_append]
          show cl.length + 1 ≤ _
          omega
      refine ⟨_, _, _, _, rfl, by omega, lz, ?_⟩
      exact q _ ((Kept.refl μ).new nx)
    · have nt : ∀ z, d ≠ .take z := fun z e => ct ⟨z, e⟩
      rw [decide_eq_false (show ¬ (d.w = Str.ofString "take") from w_takeN nt)]
      walk_at "p4s"
      refine ⟨p, vs, w, o, a', f, x, d, t, palm, notes, cl, rfl, ok, hv, by rw [updM_ne xw]; exact hw, xw, updM_same, hd, nt, nd, by omega, by omega, ?_⟩
      cases es : stepL p vs (absL t palm notes cl) d with
      | none =>
        rw [es] at q
        walk_at "p4s"
        exact q _ ((Kept.refl μ).new nx)
      | some l' =>
        rw [es] at q
        intro notes' h1 h2 h3
        rw [updM_upd]
        walk_at "p4s"
        refine ⟨x, _, _, _, _, rfl, updM_same, ?_⟩
        walk_at "p4s"
        have c7 := (lo.step hd es).cll ok
        refine ⟨_, _, _, _, rfl, by omega, by omega, ?_⟩
        have ea : absL l'.place l'.hand notes' l'.cl = l' := by rw [absL, h1]
        have q2 := q _ ((Kept.refl μ).new (m := .dic (perK l'.place l'.hand notes' l'.cl)) nx)
        rw [← ea] at q2
        exact q2
theorem ok_Life_key (F : FnM K "key" "Life.key" s_Life_key [] f fd) (T : BltA mg) (l0 : Cls K C) (l1 : NoAttr K C "place") (l2 : NoAttr K C "hand") (l3 : NoAttr K C "drafts") (l4 : NoAttr K C "called") : FnOk P w K mg base CX0 1 f fd ["self"] (lsp ⟨K, tb⟩ none (pKeyL K C)) := by
  refine F.ok sc_Life_key (lsp_len (by rintro ds Q3 ⟨l, rfl, _⟩; rfl)) (fun cdv A outer s H vs Q E hr h => ⟨_, PSs.nox
(pss_one (ps_ret (pe_tup (pa_cons (kFld K (pe_fld (pv 0) rfl)) (pa_cons (kFld K (pe_fld (pv 0) rfl)) (pa_cons (toKn (kFld K (pe_fld (pv 0) rfl))) (pa_cons (kFld K (pe_fld (pv 0) rfl)) pa_nil)))))))
, run3' ?go h⟩)
  case go =>
    refine ⟨_, (by walk_at "li"), ?_⟩
    rintro ds Q3 ⟨l, rfl, q⟩
    walk_at "pp"
    refine ⟨_, _, _, rfl, rfl, rfl, ?_⟩
    walk_at "pp"
    refine ⟨_, _, _, rfl, rfl, rfl, ?_⟩
    walk_at "pp"
    refine ⟨_, _, _, rfl, rfl, rfl, ?_⟩
    walk_at "pp"
    refine ⟨_, rfl, ?_⟩
    walk_at "pp"
    refine ⟨_, _, _, rfl, rfl, rfl, ?_⟩
    walk_at "pp"
    exact ⟨by show 4 ≤ sizeLine; decide, q⟩
theorem ok__law_told (F : FnP K "_law_told" s__law_told f fd) (T : BltA mg) (ic : IsiC K C) (v_Life : ∃ u, mg "Life" = some u ∧ RelV (V.ref C) u) (m_Life_key : Met P w K mg base 1 C "key" (lsp ⟨K, tb⟩ none (pKeyL K C)) []) (c_done_by : Cal P w K mg base 5 "done_by" (lsp ⟨K, tb⟩ none (pDoneBy K C CP)) []) : FnOk P w K mg base CX0 6 f fd ["_law_life", "_law_act_here", "_law_plan", "_law_worths_here"] (lsp ⟨K, tb⟩ none (pTold22 K C CP)) := by
  refine F.ok sc__law_told (lsp_len (by rintro ds Q3 ⟨p, l, d, vs, rfl, _⟩; rfl)) (fun cdv A outer s H vs Q E hr h => ⟨_, PSs.nox
(pss_cons (ps_set (i := 4) sc__law_told.nd rfl (.inl rfl) (pe_c c_done_by hr (by decide) (by rfl) (pa_cons (pv 0) (pa_cons (pv 1) (pa_cons (pv 2) (pa_cons (pv 3) pa_nil))))))
  (pss_cons (ps_if (pt_cmpR op_isN (pv 4) pe_non (nomark _))
    (pss_one (ps_ret pe_non))
    pss_nil)
  (pss_one (ps_ret (pe_ifExp (pt_val (pe_callB (call_isiX K) (by rfl) T.b_isinstance (by decide +kernel) (pa_cons (pv 4) (pa_cons (pe_gc (by rfl) v_Life) pa_nil)))) (pe_mt0 m_Life_key hr (by decide) (pv 4)) pe_str)))))
, run3' ?go h⟩)
  case go =>
    refine ⟨_, (by walk_at "li"), ?_⟩
    rintro ds Q3 ⟨p, l, d, vs, rfl, ok, hd, hl, nd, hc, hv, q⟩
    walk_at "pp"
    refine ⟨p, l, d, vs, rfl, ok, hd, hl, nd, hc, hv, ?_⟩
    cases es : stepL p vs l d with
    | none =>
      rw [es] at q
      walk_at "pp"
      rw [if_pos (show L3.isNon (optD K C none) = true from rfl)]
      walk_at "pp"
      exact q
    | some l' =>
      rw [es] at q
      walk_at "pp"
      rw [if_neg (show ¬ L3.isNon (optD K C (some l')) = true from fun e => Bool.false_ne_true e)]
      walk_at "pp"
      refine Or.inl ⟨_, _, rfl, ?_⟩
      walk_at "pp"
      refine w_life (by decide) ?_
      walk_at "pp"
      refine ⟨l', rfl, ?_⟩
      walk_at "pp"
      exact q
end
end K22
namespace K22
open PySem PySem.Spec PyProof.Rows L2 TB LamX NdefX L3 L4
open C8 (Cal pe_c Mak pe_mk Met pe_mt pe_mt0 pss_cut tCut pe_gc)
theorem sc__law_acts_of : FnScope ["_law_drawn_here", "_law_found", "_law_name_here", "_law_acts_here"] ["_law_drawn_here"] (defScope s__law_acts_of) := ⟨rfl, rfl, rfl, by decide +kernel, rfl, by decide +kernel, by decide +kernel⟩
theorem sc__law_numbers_in : FnScope ["_law_drawn_here", "_law_act_here"] ["_law_drawn_here"] (defScope s__law_numbers_in) := ⟨rfl, rfl, rfl, by decide +kernel, rfl, by decide +kernel, by decide +kernel⟩
def numO : Dd → Option Int
  | .set n => some n
  | .add n => some n
  | .skip n _ => some n
  | _ => none
theorem num_map (b : List Dd) : (b.filterMap fun d => (numO d).map D.int) = (b.filterMap numO).map D.int := by
  induction b with
  | nil => rfl
  | cons d b ih =>
    rw [List.filterMap_cons, List.filterMap_cons]
    cases numO d with
    | none => exact ih
    | some n => exact congrArg (_ :: ·) ih
theorem num_ok {p : PlanL} {b : List Dd} (h : ∀ d ∈ b, d.ok p.locks p.cellNames) : ∀ n ∈ b.filterMap numO, -far ≤ n ∧ n ≤ far := fun n hn => by
  obtain ⟨d, hd, e⟩ := List.mem_filterMap.mp hn
  have hd := h d hd
  cases d with
  | set m => obtain rfl := Option.some.inj e; exact hd
  | add m => obtain rfl := Option.some.inj e; exact hd
  | skip m k => obtain rfl := Option.some.inj e; exact hd.1
  | _ => exact nomatch e
section
variable {P : Program} {w : World} {K : PySem.W.Frag} {mg : Str → Option Value} {base : Heap} {f C CP : Addr} {fd : FuncData} {tb : List (Addr × Str)}
theorem ok__law_acts_of (F : FnP K "_law_acts_of" s__law_acts_of f fd) (T : BltA mg) : FnOk P w K mg base CX0 1 f fd ["_law_drawn_here"] (lsp ⟨K, tb⟩ none pActsOf) := by
  refine F.ok sc__law_acts_of (lsp_len (by rintro ds Q3 ⟨p, rfl, _⟩; rfl)) (fun cdv A outer s H vs Q E hr h => ⟨_, PSs.nox
(pss_cons (ps_set (i := 1) sc__law_acts_of.nd rfl (.inl rfl) (pe_lst pa_nil))
  (pss_cons (ps_for PassesOwn.never rfl (kPI K (pi_list (pe_ix (ix_tupK K) (pv 0) pe_int (fun _ _ => rfl)))) (kTup K 2 (pg_tup rfl (pgs_cons (pg_name (i := 2) sc__law_acts_of.nd rfl (.inl rfl)) (pgs_cons (pg_name (i := 3) sc__law_acts_of.nd rfl (.inl rfl)) pgs_nil))))
    (pss_one (ps_set (i := 1) sc__law_acts_of.nd rfl (.inl rfl) (pe_op op_cat (pv 1) (pv 3)))))
  (pss_one (ps_ret (pv 1)))))
, run3' ?go h⟩)
  case go =>
    refine ⟨_, (by walk_at "li"), ?_⟩
    rintro ds Q3 ⟨p, rfl, ok, q⟩
    walk_at "pp"
    refine ⟨Nat.zero_le _, ?_⟩
    walk_at "pp"
    refine w_ixT at2 ?_
    walk_at "pp"
    refine ⟨fun i ρ => ∃ (b : List Dd) (p2 p3 : PV), (∀ d ∈ b, d.ok p.locks p.cellNames) ∧ b.length ≤ 12 * i ∧ i ≤ p.tasks.length ∧ ρ = [.val (drawnD p), .val (.lst (b.map ddD)), p2, p3], ⟨[], _, _, (fun _ z => nomatch z), Nat.le_refl _, Nat.zero_le _, rfl⟩, ?_⟩
    rintro i ρ ⟨b, p2, p3, hb, hl, hi, rfl⟩
    have t6 := ok.t6
    refine ⟨fun e => ?_, fun d e => ?_⟩
    · walk_at "pp"
      exact q b hb (by omega)
    · rw [List.getElem?_map] at e
      obtain ⟨t, et, rfl⟩ := Option.map_eq_some_iff.mp e
      have ht := List.mem_of_getElem? et
      have bd := ok.bd t ht
      have bl := bd.len
      have hi2 := (List.getElem?_eq_some_iff.mp et).1
      refine w_gtup (ds := [.str t.1, .lst (t.2.map ddD)]) rfl ?_
      walk_at "pp"
      refine w_catL (szN (by rw [List.length_map, List.length_map]; omega)) ?_
      walk_at "pp"
      refine ⟨b ++ t.2, _, _, fun d hd => ?_, by rw [List.length_append]; omega, hi2, by rw [List.map_append]; rfl⟩
      rcases List.mem_append.mp hd with h | h
      · exact hb d h
      · exact bd.ok d h
theorem ok__law_numbers_in (F : FnP K "_law_numbers_in" s__law_numbers_in f fd) (T : BltA mg) (c__law_acts_of : Cal P w K mg base 1 "_law_acts_of" (lsp ⟨K, tb⟩ none pActsOf) []) : FnOk P w K mg base CX0 2 f fd ["_law_drawn_here"] (lsp ⟨K, tb⟩ none pNumbersIn) := by
  refine F.ok sc__law_numbers_in (lsp_len (by rintro ds Q3 ⟨p, rfl, _⟩; rfl)) (fun cdv A outer s H vs Q E hr h => ⟨_, PSs.nox
(pss_one (ps_ret (pe_lc (own := [("_law_act_here", 1)]) rfl sc__law_numbers_in.nd (kPI K (pi_list (pe_c c__law_acts_of hr (by decide) (by rfl) (pa_cons (pv 0) pa_nil)))) (blkOk_by (N := ["_law_drawn_here", "_law_act_here"]) (sc := defScope s__law_numbers_in) (by decide +kernel)) (fun _ _ _ _ _ => pg_name (i := 1) sc__law_numbers_in.nd rfl (Or.inl rfl)) (fun _ _ _ _ _ => pts_one (pt_cmpR (op_inK K) (pe_ix (ix_tupK K) (pv 1) pe_int (fun _ _ => rfl)) (pe_tup (pa_cons pe_str (pa_cons pe_str (pa_cons pe_str pa_nil)))) rfl)) (fun _ _ _ _ _ => (pe_ix (ix_tupK K) (pv 1) pe_int (fun _ _ => rfl))))))
, run3' ?go h⟩)
  case go =>
    refine ⟨_, (by walk_at "li"), ?_⟩
    rintro ds Q3 ⟨p, rfl, ok, q⟩
    walk_at "pp"
    refine ⟨p, rfl, ok, fun b hb hl => ?_⟩
    walk_at "pp"
    refine LcP_fm (xs := b) (enc := ddD) (fun d => (numO d).map D.int) (small1000 (by omega)) ?_ ?_
    · intro d hd Y N hY hN
      walk_at "pp"
      refine w_ixT at0 ?_
      walk_at "pp"
      refine ⟨(by show 3 ≤ sizeLine; decide), ?_⟩
      walk_at "pp"
      refine w_inST (ws := ["set", "add", "skip"]) ?_
      cases d with
      | set n =>
        rw [decide_eq_true (show ((Dd.set n).w ∈ ([Str.ofString "set", Str.ofString "add", Str.ofString "skip"] : List Str)) from (by decide +kernel : (Str.ofString "set" ∈ ([Str.ofString "set", Str.ofString "add", Str.ofString "skip"] : List Str))))]
        walk_at "pp"
        refine w_ixT at1 ?_
        walk_at "pp"
        exact hY _ _ rfl rfl
      | add n =>
        rw [decide_eq_true (show ((Dd.add n).w ∈ ([Str.ofString "set", Str.ofString "add", Str.ofString "skip"] : List Str)) from (by decide +kernel : (Str.ofString "add" ∈ ([Str.ofString "set", Str.ofString "add", Str.ofString "skip"] : List Str))))]
        walk_at "pp"
        refine w_ixT at1 ?_
        walk_at "pp"
        exact hY _ _ rfl rfl
      | skip n m =>
        rw [decide_eq_true (show ((Dd.skip n m).w ∈ ([Str.ofString "set", Str.ofString "add", Str.ofString "skip"] : List Str)) from (by decide +kernel : (Str.ofString "skip" ∈ ([Str.ofString "set", Str.ofString "add", Str.ofString "skip"] : List Str))))]
        walk_at "pp"
        refine w_ixT at1 ?_
        walk_at "pp"
        exact hY _ _ rfl rfl
      | quit =>
        rw [decide_eq_false (show ¬ ((Dd.quit).w ∈ ([Str.ofString "set", Str.ofString "add", Str.ofString "skip"] : List Str)) from (by decide +kernel : ¬ (Str.ofString "quit" ∈ ([Str.ofString "set", Str.ofString "add", Str.ofString "skip"] : List Str))))]
        walk_at "pp"
        exact hN _ rfl rfl
      | take n =>
        rw [decide_eq_false (show ¬ ((Dd.take n).w ∈ ([Str.ofString "set", Str.ofString "add", Str.ofString "skip"] : List Str)) from (by decide +kernel : ¬ (Str.ofString "take" ∈ ([Str.ofString "set", Str.ofString "add", Str.ofString "skip"] : List Str))))]
        walk_at "pp"
        exact hN _ rfl rfl
      | read n =>
        rw [decide_eq_false (show ¬ ((Dd.read n).w ∈ ([Str.ofString "set", Str.ofString "add", Str.ofString "skip"] : List Str)) from (by decide +kernel : ¬ (Str.ofString "read" ∈ ([Str.ofString "set", Str.ofString "add", Str.ofString "skip"] : List Str))))]
        walk_at "pp"
        exact hN _ rfl rfl
      | write n =>
        rw [decide_eq_false (show ¬ ((Dd.write n).w ∈ ([Str.ofString "set", Str.ofString "add", Str.ofString "skip"] : List Str)) from (by decide +kernel : ¬ (Str.ofString "write" ∈ ([Str.ofString "set", Str.ofString "add", Str.ofString "skip"] : List Str))))]
        walk_at "pp"
        exact hN _ rfl rfl
    rw [num_map]
    walk_at "pp"
    exact q _ (num_ok hb) (Nat.le_trans (List.length_filterMap_le _ _) hl)
end
end K22
namespace K22
open PySem PySem.Spec PyProof.Rows L2 TB LamX NdefX L3 L4
open C8 (Cal pe_c Mak pe_mk Met pe_mt pe_mt0 pss_cut tCut pe_gc)
theorem sc__law_somebody : FnScope ["_law_pot_here", "_law_world_here", "_law_drawn_here", "_law_person_here", "_law_latches", "_law_near", "_law_k", "_law_title", "_law_latch", "_law_value"] ["_law_pot_here", "_law_world_here", "_law_drawn_here"] (defScope s__law_somebody) := ⟨rfl, rfl, rfl, by decide +kernel, rfl, by decide +kernel, by decide +kernel⟩
section
variable {P : Program} {w : World} {K : PySem.W.Frag} {mg : Str → Option Value} {base : Heap} {f C CP : Addr} {fd : FuncData} {tb : List (Addr × Str)}
theorem ok__law_somebody (F : FnP K "_law_somebody" s__law_somebody f fd) (T : BltA mg) (c__law_person : Cal P w K mg base 1 "_law_person" (lsp4 ⟨K, tb⟩ pPersonL) []) (c__law_numbers_in : Cal P w K mg base 2 "_law_numbers_in" (lsp ⟨K, tb⟩ none pNumbersIn) []) (c__law_draw : Cal P w K mg base 1 "_law_draw" (lsp ⟨K, tb⟩ none pDraw) []) (c__law_number : Cal P w K mg base 2 "_law_number" (lsp ⟨K, tb⟩ none pNumber) []) : FnOk P w K mg base CX0 3 f fd ["_law_pot_here", "_law_world_here", "_law_drawn_here"] (lsp4 ⟨K, tb⟩ pSomebody) := by
  refine F.ok sc__law_somebody (lsp4_len (by rintro xs μ Q4 X4 ⟨p, vs, w, o, a, f, rfl, _⟩; rfl)) (fun cdv A outer s H vs Q E hr h => ⟨_, PSs.nox
(pss_cons (ps_par (i := 3) (j := 4) rfl sc__law_somebody.nd rfl rfl (by decide) rfl rfl (pa_cons (pe_c0 c__law_person hr (by decide) (by rfl)) (pa_cons (toMu (pe_callTy (call_listK K) (by rfl) T.b_list (by decide +kernel) (pa_cons (pe_dget (hu_of hr) (pv 1) pe_str (fun _ _ => rfl)) pa_nil))) pa_nil)) rfl)
  (pss_cons (ps_set (i := 5) sc__law_somebody.nd rfl (.inl rfl) (pe_c c__law_numbers_in hr (by decide) (by rfl) (pa_cons (pv 2) pa_nil)))
  (pss_cons (ps_asg (pe_tup (pa_cons (pe_c c__law_draw hr (by decide) (by rfl) (pa_cons (pv 0) (pa_cons pe_int pa_nil))) (pa_cons (pe_c c__law_number hr (by decide) (by rfl) (pa_cons (pv 0) pa_nil)) pa_nil))) (kTup K 2 (pg_tup rfl (pgs_cons (pg_sub (pv 3) pe_str (set_dict (hu_of hr))) (pgs_cons (pg_sub (pv 3) pe_str (set_dict (hu_of hr))) pgs_nil)))))
  (pss_cut (ps_if (PW.pt (pw_and (pt_cmpR (op_neDK K hr.units) (pv 5) (pe_lst pa_nil) (nomark _)) (pw_and1 (pt_cmpR op_eq (pe_c c__law_draw hr (by decide) (by rfl) (pa_cons (pv 0) (pa_cons pe_int pa_nil))) pe_int (nomark _)))))
    (pss_one (ps_dput (hu_of hr) (pv 3) pe_str (pe_ix (ix_listK K) (pv 5) (pe_c c__law_draw hr (by decide) (by rfl) (pa_cons (pv 0) (pa_cons (pe_callB (call_lenK K) (by rfl) T.b_len PySem.boot_len (pa_cons (pv 5) pa_nil)) pa_nil))) (fun _ _ => rfl)) rfl))
    pss_nil)
  (pss_cons (ps_for PassesOwn.never rfl (toRg (pi_range1 (by rfl) T.b_range (pa_cons (pe_c c__law_draw hr (by decide) (by rfl) (pa_cons (pv 0) (pa_cons (pe_op op_add (pe_callB (call_lenK K) (by rfl) T.b_len PySem.boot_len (pa_cons (pv 4) pa_nil)) pe_int) pa_nil))) pa_nil))) (pg_name (i := 6) sc__law_somebody.nd rfl (.inl rfl))
    (pss_one (ps_dput (hu_of hr) (pv 3) pe_str (pe_op op_cat (pe_dget (hu_of hr) (pv 3) pe_str (fun _ _ => rfl)) (pe_lst (pa_cons (kBM K (pe_bm PySem.F.plainAttrs_list PySem.F.slot_list_pop PySem.F.type_list_pop mt_popAt (pv 4) (pa_cons (pe_c c__law_draw hr (by decide) (by rfl) (pa_cons (pv 0) (pa_cons (pe_callB (call_lenK K) (by rfl) T.b_len PySem.boot_len (pa_cons (pv 4) pa_nil)) pa_nil))) pa_nil))) pa_nil))) rfl)))
  (pss_cons (ps_for PassesOwn.never rfl (kPI K (pi_list (pe_dget (hu_of hr) (pv 1) pe_str (fun _ _ => rfl)))) (kTup K 3 (pg_tup rfl (pgs_cons (pg_name (i := 7) sc__law_somebody.nd rfl (.inl rfl)) (pgs_cons (pg_name (i := 8) sc__law_somebody.nd rfl (.inl rfl)) (pgs_cons (pg_name (i := 9) sc__law_somebody.nd rfl (.inl rfl)) pgs_nil)))))
    (pss_one (ps_if (PW.pt (pw_and (PW.pt (pw_or (pt_cmpR (op_inK K) (pv 8) (pe_dget (hu_of hr) (pv 3) pe_str (fun _ _ => rfl)) rfl) (pw_or1 (pt_cmpR op_eq (pe_c c__law_draw hr (by decide) (by rfl) (pa_cons (pv 0) (pa_cons pe_int pa_nil))) pe_int (nomark _))))) (pw_and1 (pt_cmpR op_eq (pe_c c__law_draw hr (by decide) (by rfl) (pa_cons (pv 0) (pa_cons pe_int pa_nil))) pe_int (nomark _)))))
        (pss_one (ps_dput (hu_of hr) (pe_dget (hu_of hr) (pv 3) pe_str (fun _ _ => rfl)) (pv 7) (pe_c c__law_number hr (by decide) (by rfl) (pa_cons (pv 0) pa_nil)) rfl))
        pss_nil)))
  (pss_one (ps_ret (pv 3)))))))))
, run4F ?go h⟩)
  case go =>
    refine ⟨_, (by walk_at "l4s"), ?_⟩
    rintro xs μ Q4 X4 ⟨p, vs, w, o, a', f, rfl, ok, hw, q⟩
    have l7 := ok.l7
    walk_at "p4s"
    refine ⟨rfl, fun a n na nn an => ?_⟩
    have wa : w ≠ a := fun e => by rw [e, na] at hw; exact nomatch hw
    have wn : w ≠ n := fun e => by rw [e, nn] at hw; exact nomatch hw
    walk_at "p4s"
    refine ⟨_, _, _, dicOf_loc (by rw [updM_ne wa, updM_ne wn]; exact hw), rfl, wk_locks, ?_⟩
    walk_at "p4s"
    intro l nl
    have la : l ≠ a := fun e => by rw [e, updM_same] at nl; exact nomatch nl
    rw [updM_ne la] at nl
    have ln : l ≠ n := fun e => by rw [e, updM_same] at nl; exact nomatch nl
    rw [updM_ne ln] at nl
    have wl : w ≠ l := fun e => by rw [e, nl] at hw; exact nomatch hw
    have kk : Kept μ (updM (updM (updM μ n (.dic [])) a (.dic (perL (.d (.int 0)) (.d (.int 0)) (.loc n) (.d (.lst []))))) l (.lst ((strsD p.locks).map Vl.d))) := (((Kept.refl μ).new nn).new na).new nl
    have hA : (updM (updM (updM μ n (.dic [])) a (.dic (perL (.d (.int 0)) (.d (.int 0)) (.loc n) (.d (.lst []))))) l (.lst ((strsD p.locks).map Vl.d))) a = some (.dic (perL (.d (.int 0)) (.d (.int 0)) (.loc n) (.d (.lst [])))) := by rw [updM_ne (fun e => la e.symm), updM_same]
    have hN : (updM (updM (updM μ n (.dic [])) a (.dic (perL (.d (.int 0)) (.d (.int 0)) (.loc n) (.d (.lst []))))) l (.lst ((strsD p.locks).map Vl.d))) n = some (.dic []) := by rw [updM_ne (fun e => ln e.symm), updM_ne an, updM_same]
    have hL : (updM (updM (updM μ n (.dic [])) a (.dic (perL (.d (.int 0)) (.d (.int 0)) (.loc n) (.d (.lst []))))) l (.lst ((strsD p.locks).map Vl.d))) l = some (.lst ((strsD p.locks).map Vl.d)) := updM_same
    walk_at "p4s"
    refine ⟨_, _, rfl, ?_⟩
    revert kk hA hN hL
    generalize updM (updM (updM μ n (.dic [])) a (.dic (perL (.d (.int 0)) (.d (.int 0)) (.loc n) (.d (.lst []))))) l (.lst ((strsD p.locks).map Vl.d)) = μ1
    intro kk hA hN hL
    walk_at "p4s"
    refine ⟨p, rfl, ok, fun ns hns lns => ?_⟩
    walk_at "p4s"
    refine ⟨13, rfl, by decide, by decide, fun t t0 t1 => ?_⟩
    walk_at "p4s"
    refine ⟨rfl, fun palm p0 p1 => ?_⟩
    walk_at "p4s"
    refine v_gtup (xs := [.d (.int t), .d (.int palm)]) rfl rfl ?_
    walk_at "p4s"
    refine ⟨a, _, _, rfl, rfl, hA, lk_len, ?_⟩
    rw [lp_at]
    walk_at "p4s"
    refine ⟨a, _, _, rfl, rfl, updM_same, lk_len, ?_⟩
    rw [updM_upd, lp_palm]
    refine ⟨rfl, fun ρ' μ' => ∃ pm : Int, (-far ≤ pm ∧ pm ≤ far) ∧ μ' = updM μ1 a (.dic (perL (.d (.int t)) (.d (.int pm)) (.loc n) (.d (.lst [])))) ∧ ρ' = [some (.d potD), some (.loc w), some (.d (drawnD p)), some (.loc a), some (.loc l), some (.d (.lst (ns.map D.int))), none, none, none, none], ?_, ?_⟩
    · walk_at "p4s"
      by_cases en : ns = []
      · rw [decide_eq_true en]
        walk_at "p4s"
        exact ⟨palm, ⟨p0, p1⟩, rfl, rfl⟩
      · rw [decide_eq_false en]
        walk_at "p4s"
        refine ⟨2, rfl, by decide, by decide, fun k k0 k1 => ?_⟩
        walk_at "p4s"
        by_cases ck : k = 0
        · rw [decide_eq_true ck]
          walk_at "p4s"
          have nl0 : 0 < ns.length := by
            cases ns with
            | nil => exact absurd rfl en
            | cons a b => exact Nat.succ_pos _
          rw [List.length_map]
          refine ⟨_, rfl, by omega, by omega, fun j j0 j1 => ?_⟩
          obtain ⟨j, rfl⟩ : ∃ j' : Nat, j = (j' : Int) := ⟨j.toNat, by omega⟩
          have hj : j < ns.length := by omega
          walk_at "p4s"
          refine ⟨_, _, _, rfl, rfl, show atI ((ns.map D.int).map Vl.d) (j : Int) = some (Vl.d (.int ns[j])) from atI_nat (by rw [List.getElem?_map, List.getElem?_map, List.getElem?_eq_getElem hj]; rfl), ?_⟩
          walk_at "p4s"
          refine ⟨a, _, _, rfl, updM_same, rfl, lk_len, ?_⟩
          rw [updM_upd, lp_palm]
          exact ⟨ns[j], hns _ (List.getElem_mem hj), rfl, rfl⟩
        · rw [decide_eq_false ck]
          walk_at "p4s"
          exact ⟨palm, ⟨p0, p1⟩, rfl, rfl⟩
    rintro _ _ ⟨pm, pb, rfl, rfl⟩
    obtain ⟨t, rfl⟩ : ∃ t' : Nat, t = (t' : Int) := ⟨t.toNat, by omega⟩
    replace kk : Kept μ (updM μ1 a (.dic (perL (.d (.int t)) (.d (.int pm)) (.loc n) (.d (.lst []))))) := kk.new na
    replace hA : (updM μ1 a (.dic (perL (.d (.int t)) (.d (.int pm)) (.loc n) (.d (.lst []))))) a = some (.dic (perL (.d (.int t)) (.d (.int pm)) (.loc n) (.d (.lst [])))) := updM_same
    replace hN : (updM μ1 a (.dic (perL (.d (.int t)) (.d (.int pm)) (.loc n) (.d (.lst []))))) n = some (.dic []) := by rw [updM_ne an]; exact hN
    replace hL : (updM μ1 a (.dic (perL (.d (.int t)) (.d (.int pm)) (.loc n) (.d (.lst []))))) l = some (.lst ((strsD p.locks).map Vl.d)) := by rw [updM_ne la]; exact hL
    revert kk hA hN hL
    generalize updM μ1 a (.dic (perL (.d (.int t)) (.d (.int pm)) (.loc n) (.d (.lst [])))) = μ2
    intro kk hA hN hL
    walk_at "p4s"
    rw [rdL4_loc hL]
    walk_at "p4s"
    rw [show (strsD p.locks).length = p.locks.length from List.length_map _]
    refine ⟨_, rfl, by omega, by omega, fun m m0 m1 => ?_⟩
    walk_at "p4s"
    refine ⟨m, rfl, by omega, by omega, ?_⟩
    refine v_for3 ⟨fun i ρ' μ' => ∃ (ls cl : List Str) (p6 : Option Vl), (cl ++ ls).Perm p.locks ∧ cl.length = i ∧ Kept μ μ' ∧ μ' a = some (.dic (perL (.d (.int t)) (.d (.int pm)) (.loc n) (.d (.lst (strsD cl))))) ∧ μ' n = some (.dic []) ∧ μ' l = some (.lst ((strsD ls).map Vl.d)) ∧ ρ' = [some (.d potD), some (.loc w), some (.d (drawnD p)), some (.loc a), some (.loc l), some (.d (.lst (ns.map D.int))), p6, none, none, none], ⟨p.locks, [], _, List.Perm.refl _, rfl, kk, hA, hN, hL, rfl⟩, ?_⟩
    clear hA hN hL kk
    rintro i _ μ3 ⟨ls, cl, p6, pm1, ci, kk, hA, hN, hL, rfl⟩
    have ll : cl.length + ls.length = p.locks.length := by rw [← List.length_append]; exact pm1.length_eq
    refine ⟨fun e => ?_, fun d e => ?_⟩
    case refine_2 =>
      obtain ⟨hi, rfl⟩ := range_at e
      have h0 : 0 < ls.length := by omega
      walk_at "p4s"
      refine ⟨_, _, _, dicOf_loc hA, rfl, lk_claims, ?_⟩
      walk_at "p4s"
      refine ⟨l, rfl, ⟨_, hL⟩, ?_⟩
      walk_at "p4s"
      rw [rdL4_loc hL]
      walk_at "p4s"
      have hll : (strsD ls).length = ls.length := List.length_map _
      rw [hll]
      refine ⟨_, rfl, by omega, by omega, fun j j0 j1 => ?_⟩
      obtain ⟨j, rfl⟩ : ∃ j' : Nat, j = (j' : Int) := ⟨j.toNat, by omega⟩
      have hj : j < ls.length := by omega
      walk_at "p4s"
      refine ⟨_, hL, ?_⟩
      refine ⟨(j : Int), j, .d (.str ls[j]), rfl, by omega, by omega, seq_at (by rw [List.length_map, hll]; exact hj), (by rw [strsD, List.getElem?_map, List.getElem?_map, List.getElem?_eq_getElem hj]; rfl), ?_⟩
      walk_at "p4s"
      refine w_catL (szN (by show (cl.map D.str).length + 1 ≤ _; rw [List.length_map]; omega)) ?_
      rw [show strsD cl ++ [D.str ls[j]] = strsD (cl ++ [ls[j]]) from strs_snoc cl _]
      walk_at "p4s"
      refine ⟨a, _, _, rfl, by rw [updM_ne (fun e => la e.symm)]; exact hA, rfl, lk_len, ?_⟩
      rw [lp_claims]
      refine ⟨ls.eraseIdx j, cl ++ [ls[j]], _, ?_, by rw [List.length_append, ci]; rfl, (kk.new nl).new na, updM_same, by rw [updM_ne an, updM_ne (fun e => ln e.symm)]; exact hN, ?_, rfl⟩
      · rw [List.append_assoc]
        exact ((erase_perm hj).append_left cl).trans pm1
      · rw [updM_ne la, updM_same, show (strsD ls).map Vl.d = (ls.map fun z => Vl.d (.str z)) from List.map_map, TB.erase_map, show (strsD (ls.eraseIdx j)).map Vl.d = ((ls.eraseIdx j).map fun z => Vl.d (.str z)) from List.map_map]
    have cnd : cl.Nodup := ((pm1.nodup_iff.mpr ok.ndL).sublist (List.sublist_append_left _ _))
    have cin : ∀ z ∈ cl, z ∈ p.locks := fun z hz => pm1.mem_iff.mp (List.mem_append_left _ hz)
    have cl7 : cl.length ≤ 7 := by omega
    walk_at "p4s"
    refine ⟨_, _, _, dicOf_loc (kk.at hw), rfl, wk_slots, ?_⟩
    walk_at "p4s"
    refine ⟨_, rfl, ?_⟩
    show For4 ⟨(p.cells.map clD).map Vl.d, fun _ => True⟩ _ _ _ _ _
    refine v_for3 ⟨fun i ρ' μ' => ∃ (notes : List SI) (p7 p8 p9 : Option Vl), (keysSI notes).Nodup ∧ (∀ k ∈ keysSI notes, k ∈ p.cellNames) ∧ (∀ b ∈ notes, b.2.natAbs ≤ uN) ∧ Kept μ μ' ∧ μ' a = some (.dic (perL (.d (.int t)) (.d (.int pm)) (.loc n) (.d (.lst (strsD cl))))) ∧ μ' n = some (.dic (kvSI notes)) ∧ ρ' = [some (.d potD), some (.loc w), some (.d (drawnD p)), some (.loc a), some (.loc l), some (.d (.lst (ns.map D.int))), p6, p7, p8, p9], ⟨[], _, _, _, List.nodup_nil, (fun _ z => nomatch z), (fun _ z => nomatch z), kk, hA, hN, rfl⟩, ?_⟩
    clear hA hN hL kk e
    rintro i2 _ μ4 ⟨notes, p7, p8, p9, nd, kin, nb, kk, hA, hN, rfl⟩
    have n8 : notes.length ≤ 8 := by
      have := nodup_len nd kin
      rw [keysSI, List.length_map, PlanL.cellNames, List.length_map] at this
      have := ok.c8
      omega
    refine ⟨fun e => ?_, fun d e => ?_⟩
    · walk_at "p4s"
      refine ⟨_, Or.inr ⟨n, a, _, notes.map siK, hN, an, hA, rfl⟩, ?_⟩
      refine q a _ t pm notes cl (fun b hb => ?_) na ?_ ⟨⟨keys_sort nd, fun k hk => kin k ((keys_perm (sortSI_pm notes)).mem_iff.mp hk), sortSI_idem _, cnd, cin⟩, nd, by omega, pb, nb⟩
      · have b1 : b ≠ a := fun e => hb (by rw [e]; exact na)
        have b2 : b ≠ n := fun e => hb (by rw [e]; exact nn)
        rw [updM_ne b1, delM_ne b2]
        exact kk b hb
      · rw [updM_same]
        exact congrArg some (congrArg MO.dic per_sub)
    · rw [List.getElem?_map] at e
      obtain ⟨c, ec, rfl⟩ := Option.map_eq_some_iff.mp e
      have hc := List.mem_of_getElem? ec
      have hcn : c.name ∈ p.cellNames := List.mem_map_of_mem hc
      refine v_gtup (xs := [.d (.str c.name), .d (.str c.lock), .d (.int c.val)]) rfl rfl ?_
      walk_at "p4s"
      refine ⟨_, _, _, dicOf_loc hA, rfl, lk_claims, ?_⟩
      walk_at "p4s"
      by_cases cz : c.lock ∈ cl
      · rw [decide_eq_true cz]
        walk_at "p4s"
        refine ⟨2, rfl, by decide, by decide, fun k k0 k1 => ?_⟩
        walk_at "p4s"
        by_cases ck : k = 0
        · rw [decide_eq_true ck]
          walk_at "p4s"
          refine ⟨rfl, fun x x0 x1 => ?_⟩
          walk_at "p4s"
          refine ⟨_, _, _, dicOf_loc hA, rfl, lk_notes, ?_⟩
          walk_at "p4s"
          refine ⟨n, _, _, rfl, hN, rfl, (by rw [kvSI, dKV, List.length_map, List.length_map]; exact szL (by omega)), ?_⟩
          rw [put_kvSI]
          refine ⟨putSI notes c.name x, _, _, _, putSI_keys nd, putSI_keysIn kin hcn, fun b hb => ?_, kk.new nn, by rw [updM_ne (fun e => an e.symm)]; exact hA, updM_same, rfl⟩
          rcases putSI_in hb with hb | hb
          · exact nb b hb
          · rw [hb]
            exact far_abs ⟨x0, x1⟩
        · rw [decide_eq_false ck]
          walk_at "p4s"
          exact ⟨notes, _, _, _, nd, kin, nb, kk, hA, hN, rfl⟩
      · rw [decide_eq_false cz]
        walk_at "p4s"
        refine ⟨2, rfl, by decide, by decide, fun k' k0' k1' => ?_⟩
        walk_at "p4s"
        by_cases ck' : k' = 0
        · rw [decide_eq_true ck']
          walk_at "p4s"
          refine ⟨2, rfl, by decide, by decide, fun k k0 k1 => ?_⟩
          walk_at "p4s"
          by_cases ck : k = 0
          · rw [decide_eq_true ck]
            walk_at "p4s"
            refine ⟨rfl, fun x x0 x1 => ?_⟩
            walk_at "p4s"
            refine ⟨_, _, _, dicOf_loc hA, rfl, lk_notes, ?_⟩
            walk_at "p4s"
            refine ⟨n, _, _, rfl, hN, rfl, (by rw [kvSI, dKV, List.length_map, List.length_map]; exact szL (by omega)), ?_⟩
            rw [put_kvSI]
            refine ⟨putSI notes c.name x, _, _, _, putSI_keys nd, putSI_keysIn kin hcn, fun b hb => ?_, kk.new nn, by rw [updM_ne (fun e => an e.symm)]; exact hA, updM_same, rfl⟩
            rcases putSI_in hb with hb | hb
            · exact nb b hb
            · rw [hb]
              exact far_abs ⟨x0, x1⟩
          · rw [decide_eq_false ck]
            walk_at "p4s"
            exact ⟨notes, _, _, _, nd, kin, nb, kk, hA, hN, rfl⟩
        · rw [decide_eq_false ck']
          walk_at "p4s"
          exact ⟨notes, _, _, _, nd, kin, nb, kk, hA, hN, rfl⟩
end
end K22
namespace K22
open PySem PySem.Spec PyProof.Rows L2 TB LamX NdefX L3 L4
open C8 (Cal pe_c Mak pe_mk Met pe_mt pe_mt0 pss_cut tCut pe_gc)
theorem sc__law_deeds_for : FnScope ["_law_pot_here", "_law_world_here", "_law_drawn_here", "_law_person_here", "_law_found", "_law_title", "_law_latch", "_law_value", "_law_near"] ["_law_pot_here", "_law_world_here", "_law_drawn_here", "_law_person_here"] (defScope s__law_deeds_for) := ⟨rfl, rfl, rfl, by decide +kernel, rfl, by decide +kernel, by decide +kernel⟩
section
variable {P : Program} {w : World} {K : PySem.W.Frag} {mg : Str → Option Value} {base : Heap} {f C CP : Addr} {fd : FuncData} {tb : List (Addr × Str)}
theorem ok__law_deeds_for (F : FnP K "_law_deeds_for" s__law_deeds_for f fd) (T : BltA mg) (c__law_acts_of : Cal P w K mg base 1 "_law_acts_of" (lsp ⟨K, tb⟩ none pActsOf) []) (c__law_draw : Cal P w K mg base 1 "_law_draw" (lsp ⟨K, tb⟩ none pDraw) []) (c__law_number : Cal P w K mg base 2 "_law_number" (lsp ⟨K, tb⟩ none pNumber) []) : FnOk P w K mg base CX0 3 f fd ["_law_pot_here", "_law_world_here", "_law_drawn_here", "_law_person_here"] (lsp4 ⟨K, tb⟩ pDeedsFor) := by
  refine F.ok sc__law_deeds_for (lsp4_len (by rintro xs μ Q4 X4 ⟨p, vs, w, o, a, f, b, t, palm, notes, cl, rfl, _⟩; rfl)) (fun cdv A outer s H vs Q E hr h => ⟨_, PSs.nox
(pss_cons (ps_set (i := 4) sc__law_deeds_for.nd rfl (.inl rfl) (pe_op op_cat (pe_c c__law_acts_of hr (by decide) (by rfl) (pa_cons (pv 2) pa_nil)) (pe_lst (pa_cons (pe_tup (pa_cons pe_str pa_nil)) (pa_cons (pe_tup (pa_cons pe_str (pa_cons (pe_c c__law_number hr (by decide) (by rfl) (pa_cons (pv 0) pa_nil)) pa_nil))) pa_nil)))))
  (pss_cons (ps_for PassesOwn.never rfl (kPI K (pi_list (pe_dget (hu_of hr) (pv 1) pe_str (fun _ _ => rfl)))) (kTup K 3 (pg_tup rfl (pgs_cons (pg_name (i := 5) sc__law_deeds_for.nd rfl (.inl rfl)) (pgs_cons (pg_name (i := 6) sc__law_deeds_for.nd rfl (.inl rfl)) (pgs_cons (pg_name (i := 7) sc__law_deeds_for.nd rfl (.inl rfl)) pgs_nil)))))
    (pss_one (ps_set (i := 4) sc__law_deeds_for.nd rfl (.inl rfl) (pe_op op_cat (pv 4) (pe_lst (pa_cons (pe_tup (pa_cons pe_str (pa_cons (pv 5) pa_nil))) (pa_cons (pe_tup (pa_cons pe_str (pa_cons (pv 5) pa_nil))) pa_nil)))))))
  (pss_cons (ps_set (i := 4) sc__law_deeds_for.nd rfl (.inl rfl) (pe_op op_cat (pe_op op_cat (pv 4) (pe_lc (own := [("_law_latch", 6)]) (tt := tYes) rfl sc__law_deeds_for.nd (kPI K (pi_list (pe_dget (hu_of hr) (pv 1) pe_str (fun _ _ => rfl)))) (blkOk_by (N := ["_law_pot_here", "_law_world_here", "_law_drawn_here", "_law_person_here", "_law_found", "_law_title", "_law_latch", "_law_value", "_law_near"]) (sc := defScope s__law_deeds_for) (by decide +kernel)) (fun _ _ _ _ _ => pg_name (i := 6) sc__law_deeds_for.nd rfl (Or.inl rfl)) (fun _ _ _ _ _ => pts_nil) (fun _ _ _ _ _ => (pe_tup (pa_cons pe_str (pa_cons (pv 6) pa_nil)))))) (pe_lst (pa_cons (pe_tup (pa_cons pe_str (pa_cons (pe_c c__law_number hr (by decide) (by rfl) (pa_cons (pv 0) pa_nil)) pa_nil))) pa_nil))))
  (pss_cons (ps_set (i := 8) sc__law_deeds_for.nd rfl (.inl rfl) (pe_op op_add (pe_dget (hu_of hr) (pv 3) pe_str (fun _ _ => rfl)) (pe_ix (ix_listK K) (pe_lst (pa_cons pe_int (pa_cons (pe_un un_neg pe_int) pa_nil))) (pe_callTy call_intB (by rfl) T.b_int (by decide +kernel) (pa_cons (pe_cmpR op_gt (pe_dget (hu_of hr) (pv 3) pe_str (fun _ _ => rfl)) pe_int (nomark _)) pa_nil)) (fun _ _ => rfl))))
  (pss_one (ps_ret (pe_op op_cat (pv 4) (pe_lst (pa_cons (pe_tup (pa_cons pe_str (pa_cons (pe_dget (hu_of hr) (pv 3) pe_str (fun _ _ => rfl)) (pa_cons (pe_c c__law_draw hr (by decide) (by rfl) (pa_cons (pv 0) (pa_cons pe_int pa_nil))) pa_nil)))) (pa_cons (pe_tup (pa_cons pe_str (pa_cons (pv 8) (pa_cons pe_int pa_nil)))) pa_nil))))))))))
, run4 ?go h⟩)
  case go =>
    refine ⟨_, (by walk_at "l4s"), ?_⟩
    rintro xs μ Q4 X4 ⟨p, vs, w, o, a', f, b, t, palm, notes, cl, rfl, ok, hw, hb, pb, q⟩
    walk_at "p4s"
    refine ⟨p, rfl, ok, fun as ha la => ?_⟩
    walk_at "p4s"
    refine ⟨rfl, fun n0 n1 n2 => ?_⟩
    walk_at "p4s"
    refine w_catL (szN (by rw [List.length_map]; show as.length + 2 ≤ _; omega)) ?_
    walk_at "p4s"
    refine ⟨_, _, _, dicOf_loc hw, rfl, wk_slots, ?_⟩
    walk_at "p4s"
    refine ⟨_, rfl, ?_⟩
    show For4 ⟨(p.cells.map clD).map Vl.d, fun _ => True⟩ _ _ _ _ _
    have c8 := ok.c8
    have l7 := ok.l7
    refine v_for3 ⟨fun i ρ' μ' => ∃ (ds : List Dd) (p5 p6 p7 : Option Vl), μ' = μ ∧ (∀ d ∈ ds, d.ok p.locks p.cellNames) ∧ ds.length ≤ 80 + 2 * i ∧ i ≤ 8 ∧ ρ' = [some (.d potD), some (.loc w), some (.d (drawnD p)), some (.loc b), some (.d (.lst (ds.map ddD))), p5, p6, p7, none], ⟨as ++ [.quit, .set n0], _, _, _, rfl, ?_, by rw [List.length_append]; show as.length + 2 ≤ _; omega, Nat.zero_le _, by rw [List.map_append]; rfl⟩, ?_⟩
    · intro d hd
      rcases List.mem_append.mp hd with hd | hd
      · exact ha d hd
      · rcases List.mem_cons.mp hd with rfl | hd
        · exact trivial
        · rw [List.mem_singleton.mp hd]; exact ⟨n1, n2⟩
    rintro i _ μ1 ⟨ds, p5, p6, p7, rfl, hd, ld, i8, rfl⟩
    refine ⟨fun e => ?_, fun d e => ?_⟩
    case refine_2 =>
      rw [List.getElem?_map] at e
      obtain ⟨c, ec, rfl⟩ := Option.map_eq_some_iff.mp e
      have hc := List.mem_of_getElem? ec
      have hi := (List.getElem?_eq_some_iff.mp ec).1
      have hcn : c.name ∈ p.cellNames := List.mem_map_of_mem hc
      refine v_gtup (xs := [.d (.str c.name), .d (.str c.lock), .d (.int c.val)]) rfl rfl ?_
      walk_at "p4s"
      refine w_catL (szN (by rw [List.length_map]; show ds.length + 2 ≤ _; omega)) ?_
      walk_at "p4s"
      refine ⟨ds ++ [.read c.name, .write c.name], _, _, _, rfl, ?_, by rw [List.length_append]; show ds.length + 2 ≤ _; omega, by omega, by rw [List.map_append]; rfl⟩
      intro d hd2
      rcases List.mem_append.mp hd2 with hd2 | hd2
      · exact hd d hd2
      · rcases List.mem_cons.mp hd2 with rfl | hd2
        · exact hcn
        · rw [List.mem_singleton.mp hd2]; exact hcn
    walk_at "p4s"
    refine ⟨_, _, _, dicOf_loc hw, rfl, wk_locks, ?_⟩
    walk_at "p4s"
    refine ⟨_, rfl, ?_⟩
    show LcP4 ⟨(p.locks.map D.str).map Vl.d, fun _ => True⟩ _ _ _ _ _ _ _
    refine v_lcMap (fun z : Str => ddD (.take z)) (by omega) ?_ ?_
    · intro z hz Y N hY
      walk_at "p4s"
      exact hY
    refine ⟨_, allD_map _, ?_⟩
    walk_at "p4s"
    refine w_catL (szN (by rw [List.length_map, List.length_map]; omega)) ?_
    walk_at "p4s"
    refine ⟨rfl, fun n3 n4 n5 => ?_⟩
    walk_at "p4s"
    refine w_catL (szN (by rw [List.length_append, List.length_map, List.length_map]; show ds.length + p.locks.length + 1 ≤ _; omega)) ?_
    walk_at "p4s"
    refine ⟨_, _, _, dicOf_loc hb, rfl, pk_palm, ?_⟩
    walk_at "p4s"
    have hfar : far = 10 ^ 18 := rfl
    have fin : ∀ (m nr : Int), 0 ≤ m → m ≤ 12 → -far ≤ nr → nr ≤ far → Q4 (.d (.lst (ds.map ddD ++ p.locks.map (fun z => ddD (.take z)) ++ [ddD (.add n3)] ++ [ddD (.skip palm m), ddD (.skip nr 3)]))) μ1 := fun m nr m0 m1 r0 r1 => by
      have h := q (ds ++ p.locks.map Dd.take ++ [.add n3] ++ [.skip palm m, .skip nr 3]) (fun d hd2 => ?_) ?_
      · rw [List.map_append, List.map_append, List.map_append, List.map_map] at h
        exact h
      · rcases List.mem_append.mp hd2 with hd2 | hd2
        · rcases List.mem_append.mp hd2 with hd2 | hd2
          · rcases List.mem_append.mp hd2 with hd2 | hd2
            · exact hd d hd2
            · obtain ⟨z, hz, rfl⟩ := List.mem_map.mp hd2
              exact hz
          · rw [List.mem_singleton.mp hd2]; exact ⟨n4, n5⟩
        · rcases List.mem_cons.mp hd2 with rfl | hd2
          · exact ⟨pb, m0, m1⟩
          · rw [List.mem_singleton.mp hd2]; exact ⟨⟨r0, r1⟩, by decide, by decide⟩
      · rw [List.length_append, List.length_append, List.length_append, List.length_map]
        show ds.length + p.locks.length + 1 + 2 ≤ _
        omega
    refine ⟨_, _, _, dicOf_loc hb, rfl, pk_palm, ?_⟩
    walk_at "p4s"
    obtain ⟨pb0, pb1⟩ := pb
    by_cases hp : 0 < palm
    · rw [decide_eq_true hp]
      refine ⟨_, _, _, rfl, rfl, show atI _ (1 : Int) = some (Vl.d (.int (-1))) from rfl, ?_⟩
      walk_at "p4s"
      refine ⟨_, _, _, dicOf_loc hb, rfl, pk_palm, ?_⟩
      walk_at "p4s"
      refine ⟨13, rfl, by decide, by decide, fun m m0 m1 => ?_⟩
      walk_at "p4s"
      refine w_catL (szN (by show (ds.map ddD ++ p.locks.map (fun z => ddD (.take z)) ++ [ddD (.add n3)]).length + 2 ≤ _; rw [List.length_append, List.length_append, List.length_map, List.length_map]; show ds.length + p.locks.length + 1 + 2 ≤ _; omega)) ?_
      exact fin m _ m0 (by omega) (by omega) (by omega)
    · rw [decide_eq_false hp]
      refine ⟨_, _, _, rfl, rfl, show atI _ (0 : Int) = some (Vl.d (.int 1)) from rfl, ?_⟩
      walk_at "p4s"
      refine ⟨_, _, _, dicOf_loc hb, rfl, pk_palm, ?_⟩
      walk_at "p4s"
      refine ⟨13, rfl, by decide, by decide, fun m m0 m1 => ?_⟩
      walk_at "p4s"
      refine w_catL (szN (by show (ds.map ddD ++ p.locks.map (fun z => ddD (.take z)) ++ [ddD (.add n3)]).length + 2 ≤ _; rw [List.length_append, List.length_append, List.length_map, List.length_map]; show ds.length + p.locks.length + 1 + 2 ≤ _; omega)) ?_
      exact fin m _ m0 (by omega) (by omega) (by omega)
end
end K22
namespace K22
open PySem PySem.Spec PyProof.Rows L2 TB LamX NdefX L3 L4
open C8 (Cal pe_c Mak pe_mk Met pe_mt pe_mt0 pss_cut tCut pe_gc)
theorem sc__law_right : FnScope ["_law_pot_here", "_law_world_here", "_law_drawn_here", "_law_plan", "_law_person_here", "_law_life", "_law_shown", "_law_act_here", "_law_due_here", "_law_turn", "_law_found", "_law_title", "_law_latch", "_law_value", "_law_slot"] ["_law_pot_here", "_law_world_here", "_law_drawn_here", "_law_plan"] (defScope s__law_right) := ⟨rfl, rfl, rfl, by decide +kernel, rfl, by decide +kernel, by decide +kernel⟩
section
variable {P : Program} {w : World} {K : PySem.W.Frag} {mg : Str → Option Value} {base : Heap} {f C CP : Addr} {fd : FuncData} {tb : List (Addr × Str)}
theorem ok__law_right (F : FnP K "_law_right" s__law_right f fd) (T : BltA mg) (sysB : He.dictB K sysModules = true) (c__law_somebody : Cal P w K mg base 3 "_law_somebody" (lsp4 ⟨K, tb⟩ pSomebody) []) (c__law_life_made : Cal P w K mg base 3 "_law_life_made" (lsp4 ⟨K, tb⟩ (pLifeMade K C)) []) (c__law_deeds_for : Cal P w K mg base 3 "_law_deeds_for" (lsp4 ⟨K, tb⟩ pDeedsFor) []) (c__law_due : Cal P w K mg base 2 "_law_due" (lsp4 ⟨K, tb⟩ pDue22) []) (c__law_told : Cal P w K mg base 6 "_law_told" (lsp ⟨K, tb⟩ none (pTold22 K C CP)) []) (c_found_in : Cal P w K mg base 1 "found_in" (lsp ⟨K, tb⟩ none (pFound K C)) []) (m_Life_key : Met P w K mg base 1 C "key" (lsp ⟨K, tb⟩ none (pKeyL K C)) []) : FnG P w K mg base CX0 7 f fd ["_law_pot_here", "_law_world_here", "_law_drawn_here", "_law_plan"] (lsp4 ⟨K, tb⟩ (pRight22 CP)) := by
  refine fng_of F sc__law_right (lsp4_len (by rintro xs μ Q4 X4 ⟨p, vs, w, o, a, f, rfl, _⟩; rfl)) (fun cdv A outer s H vs Q E g hr h => ⟨_, PSs.nox
(pss_cons (ps_set (i := 4) sc__law_right.nd rfl (.inr rfl) (pe_c c__law_somebody hr (by decide) (by rfl) (pa_cons (pv 0) (pa_cons (pv 1) (pa_cons (pv 2) pa_nil)))))
  (pss_cons (ps_set (i := 5) sc__law_right.nd rfl (.inr rfl) (pe_c c__law_life_made hr (by decide) (by rfl) (pa_cons (pv 4) pa_nil)))
  (pss_cons (ps_set (i := 6) sc__law_right.nd rfl (.inl rfl) (pe_callB (call_reprX K sysB hr.units g) (by rfl) T.b_repr (by decide +kernel) (pa_cons (pe_lst (pa_cons (pe_mt0 m_Life_key hr (by decide) (pv 5)) (pa_cons (pe_dget (hu_of hr) (pv 1) pe_str (fun _ _ => rfl)) pa_nil))) pa_nil)))
  (pss_cons (ps_for PassesOwn.never rfl (kPI K (pi_list (pe_c c__law_deeds_for hr (by decide) (by rfl) (pa_cons (pv 0) (pa_cons (pv 1) (pa_cons (pv 2) (pa_cons (pv 4) pa_nil))))))) (pg_name (i := 7) sc__law_right.nd rfl (.inl rfl))
    (pss_cons (ps_set (i := 8) sc__law_right.nd rfl (.inl rfl) (pe_callB (call_reprX K sysB hr.units g) (by rfl) T.b_repr (by decide +kernel) (pa_cons (pe_c c__law_due hr (by decide) (by rfl) (pa_cons (pv 1) (pa_cons (pv 4) (pa_cons (pv 7) pa_nil)))) pa_nil)))
      (pss_one (ps_for PassesOwn.never rfl (pi_range1 (by rfl) T.b_range (pa_cons pe_int pa_nil)) (pg_name (i := 9) sc__law_right.nd rfl (.inl rfl))
        (pss_one (ps_if (pt_cmpR op_ne (pe_callB (call_reprX K sysB hr.units g) (by rfl) T.b_repr (by decide +kernel) (pa_cons (pe_c c__law_told hr (by decide) (by rfl) (pa_cons (pv 5) (pa_cons (pv 7) (pa_cons (pv 3) (pa_cons (pe_dget (hu_of hr) (pv 1) pe_str (fun _ _ => rfl)) pa_nil))))) pa_nil)) (pv 8) (nomark _))
            (pss_one (ps_ret pe_bl))
            pss_nil))))))
  (pss_cons (ps_setLc (i := 10) (own := [("_law_title", 11), ("_law_latch", 12), ("_law_value", 13)]) (tt := tYes) rfl sc__law_right.nd rfl rfl (sw_true rfl rfl rfl (by decide +kernel)) (kPI K (pi_list (pe_dget (hu_of hr) (pv 1) pe_str (fun _ _ => rfl)))) (blkOk_by (N := ["_law_pot_here", "_law_world_here", "_law_drawn_here", "_law_plan", "_law_person_here", "_law_life", "_law_shown", "_law_act_here", "_law_due_here", "_law_turn", "_law_found", "_law_title", "_law_latch", "_law_value", "_law_slot"]) (sc := defScope s__law_right) (by decide +kernel)) (fun _ _ _ _ _ => kTup K 3 (pg_tup rfl (pgs_cons (pg_name (i := 11) sc__law_right.nd rfl (Or.inl rfl)) (pgs_cons (pg_name (i := 12) sc__law_right.nd rfl (Or.inl rfl)) (pgs_cons (pg_name (i := 13) sc__law_right.nd rfl (Or.inl rfl)) pgs_nil))))) (fun _ _ _ _ _ => pts_nil) (fun _ _ _ _ _ => (pe_c c_found_in hr (by decide) (by rfl) (pa_cons (pv 5) (pa_cons (pv 11) (pa_cons (pe_dget (hu_of hr) (pv 1) pe_str (fun _ _ => rfl)) pa_nil))))))
  (pss_cons (ps_if (pt_cmpR op_ne (pe_callB (call_reprX K sysB hr.units g) (by rfl) T.b_repr (by decide +kernel) (pa_cons (pv 10) pa_nil)) (pe_callB (call_reprX K sysB hr.units g) (by rfl) T.b_repr (by decide +kernel) (pa_cons (pe_lc (own := [("_law_slot", 14)]) (tt := tYes) rfl sc__law_right.nd (kPI K (pi_list (pe_dget (hu_of hr) (pv 1) pe_str (fun _ _ => rfl)))) (blkOk_by (N := ["_law_pot_here", "_law_world_here", "_law_drawn_here", "_law_plan", "_law_person_here", "_law_life", "_law_shown", "_law_act_here", "_law_due_here", "_law_turn", "_law_found", "_law_title", "_law_latch", "_law_value", "_law_slot"]) (sc := defScope s__law_right) (by decide +kernel)) (fun _ _ _ _ _ => pg_name (i := 14) sc__law_right.nd rfl (Or.inl rfl)) (fun _ _ _ _ _ => pts_nil) (fun _ _ _ _ _ => (pe_dget2 (hu_of hr) (pe_dget (hu_of hr) (pv 4) pe_str (fun _ _ => rfl)) (pe_ix (ix_tupK K) (pv 14) pe_int (fun _ _ => rfl)) (pe_dget (hu_of hr) (pe_dget (hu_of hr) (pv 1) pe_str (fun _ _ => rfl)) (pe_ix (ix_tupK K) (pv 14) pe_int (fun _ _ => rfl)) (fun _ _ => rfl)) ⟨rfl, rfl, rfl, rfl⟩))) pa_nil)) (nomark _))
    (pss_one (ps_ret pe_bl))
    pss_nil)
  (pss_one (ps_ret (pe_cmpR op_eq (pe_callB (call_reprX K sysB hr.units g) (by rfl) T.b_repr (by decide +kernel) (pa_cons (pe_lst (pa_cons (pe_mt0 m_Life_key hr (by decide) (pv 5)) (pa_cons (pe_dget (hu_of hr) (pv 1) pe_str (fun _ _ => rfl)) pa_nil))) pa_nil)) (pv 6) (nomark _))))))))))
, run4 ?go h⟩)
  case go =>
    refine ⟨_, (by walk_at "l4s"), ?_⟩
    rintro xs μ Q4 X4 ⟨p, vs, w, o, a', f, rfl, ok, vok, vb, hw, q⟩
    have c8 := ok.c8
    walk_at "p4s"
    refine ⟨p, vs, w, o, a', f, rfl, ok, hw, fun b μ1 t palm notes cl k1 nb hb sb => ?_⟩
    have hw1 := k1.at hw
    have lo := sb.ok
    have lb := some_b sb
    have nl : notes.length ≤ 8 := by have := lo.drl ok; rwa [show (absL t palm notes cl).dr.length = notes.length from (sortSI_pm notes).length_eq] at this
    have cl7 : cl.length ≤ 7 := lo.cll ok
    have slk := shw_lk ok lo (by have := sb.t12; show t ≤ 1000; omega) (lb.mono (by omega))
    walk_at "p4s"
    refine ⟨b, t, palm, notes, cl, rfl, hb, by omega, by omega, ?_⟩
    walk_at "p4s"
    refine ⟨_, rfl, lf_ins, ?_⟩
    walk_at "p4s"
    refine ⟨_, rfl, ?_⟩
    walk_at "p4s"
    refine ⟨_, _, _, dicOf_loc hw1, rfl, wk_values, ?_⟩
    walk_at "p4s"
    have s0 : Shw 4 50000 (.lst [lkD (absL t palm notes cl), valsD vs]) := (Shw.lst (n := 3) (B := 20000) (m := 2) (Nat.le_refl _) fun d hd => by
      rcases List.mem_cons.mp hd with rfl | hd
      · exact slk
      · rw [List.mem_singleton.mp hd]
        exact (shw_vals ok vok vb).mono (by decide) (by decide)).mono (by decide) (by decide)
    refine w_reprS s0 (by decide) (by decide) ?_
    walk_at "p4s"
    refine ⟨p, vs, w, o, a', f, b, t, palm, notes, cl, rfl, ok, hw1, hb, sb.pb, fun ds hds lds => ?_⟩
    refine ⟨_, rfl, ?_⟩
    show For4 ⟨(ds.map ddD).map Vl.d, fun _ => True⟩ _ _ _ _ _
    refine v_for3 ⟨fun i ρ' μ' => ∃ (p7 p8 p9 : Option Vl), Kept μ1 μ' ∧ ρ' = [some (.d potD), some (.loc w), some (.d (drawnD p)), some (.d (planD CP p)), some (.loc b), some (.d (lfD K C (absL t palm notes cl))), some (.d (.str (shoD (.lst [lkD (absL t palm notes cl), valsD vs])))), p7, p8, p9, none, none, none, none, none], ⟨_, _, _, Kept.refl μ1, rfl⟩, ?_⟩
    rintro i _ μ2 ⟨p7, p8, p9, k2, rfl⟩
    have hw2 := k2.at hw1
    have hb2 := k2.at hb
    have ndk : (keysSI (absL t palm notes cl).dr).Nodup := lo.nd
    have ldr : (absL t palm notes cl).dr.length ≤ 1000 := by rw [show (absL t palm notes cl).dr.length = notes.length from (sortSI_pm notes).length_eq]; omega
    refine ⟨fun e => ?_, fun d e => ?_⟩
    case refine_2 =>
      rw [List.getElem?_map] at e
      obtain ⟨d, ed, rfl⟩ := Option.map_eq_some_iff.mp e
      have hd := hds d (List.mem_of_getElem? ed)
      have sd := shw_due ok vb lo lb sb.t12 hd
      walk_at "p4s"
      refine ⟨p, vs, w, o, a', f, b, d, t, palm, notes, cl, rfl, ok, vok, hw2, hb2, hd, lo, sb.nd, fun μ3 k3 => ?_⟩
      walk_at "p4s"
      refine w_reprS sd (by decide) (by decide) ?_
      walk_at "p4s"
      refine ⟨2, rfl, by decide, by decide, ?_⟩
      refine v_for3 ⟨fun j ρ' μ' => ∃ (p9 : Option Vl), μ' = μ3 ∧ ρ' = [some (.d potD), some (.loc w), some (.d (drawnD p)), some (.d (planD CP p)), some (.loc b), some (.d (lfD K C (absL t palm notes cl))), some (.d (.str (shoD (.lst [lkD (absL t palm notes cl), valsD vs])))), some (.d (ddD d)), some (.d (.str (shoD (dueD (stepL p vs (absL t palm notes cl) d))))), p9, none, none, none, none, none], ⟨_, rfl, rfl⟩, ?_⟩
      rintro j _ μ4 ⟨p9, e4, rfl⟩
      subst e4
      refine ⟨fun e => ?_, fun d2 e2 => ?_⟩
      · walk_at "p4s"
        exact ⟨_, _, _, k2.trans k3, rfl⟩
      · walk_at "p4s"
        refine ⟨_, _, _, dicOf_loc (k3.at hw2), rfl, wk_values, ?_⟩
        walk_at "p4s"
        refine ⟨p, (absL t palm notes cl), d, vs, rfl, ok, hd, ldr, ndk, by show cl.length ≤ 1000; omega, vok, ?_⟩
        walk_at "p4s"
        refine w_reprS sd (by decide) (by decide) ?_
        walk_at "p4s"
        rw [decide_eq_true (rfl : shoD (dueD (stepL p vs (absL t palm notes cl) d)) = shoD (dueD (stepL p vs (absL t palm notes cl) d)))]
        walk_at "p4s"
        exact ⟨_, rfl, rfl⟩
    walk_at "p4s"
    refine ⟨_, _, _, dicOf_loc hw2, rfl, wk_slots, ?_⟩
    walk_at "p4s"
    refine ⟨_, rfl, ?_⟩
    show LcP4 ⟨(p.cells.map clD).map Vl.d, fun _ => True⟩ _ _ _ _ _ _ _
    refine v_lcMap (fun c : Cl => D.int (foundL (absL t palm notes cl) vs c.name)) (by omega) ?_ ?_
    · intro c hc Y N hY
      have hcn : c.name ∈ p.cellNames := List.mem_map_of_mem hc
      refine v_gtup (xs := [.d (.str c.name), .d (.str c.lock), .d (.int c.val)]) rfl rfl ?_
      walk_at "p4s"
      refine ⟨_, _, _, dicOf_loc hw2, rfl, wk_values, ?_⟩
      walk_at "p4s"
      refine ⟨(absL t palm notes cl), c.name, vs, rfl, ldr, vok.some hcn, ?_⟩
      walk_at "p4s"
      exact hY
    refine ⟨_, allD_map _, ?_⟩
    walk_at "p4s"
    have sF : Shw 1 1000 (.lst (p.cells.map fun c : Cl => D.int (foundL (absL t palm notes cl) vs c.name))) := (Shw.lstMap (n := 0) (B := 21) (m := 8) c8 fun c hc => Shw.int (k := 20) (by decide) (by decide) (by have := found_b (c := c.name) lb vb; have : uN = 10 ^ 18 := rfl; omega)).mono (by decide) (by decide)
    refine w_reprS sF (by decide) (by decide) ?_
    walk_at "p4s"
    refine ⟨_, _, _, dicOf_loc hw2, rfl, wk_slots, ?_⟩
    walk_at "p4s"
    refine ⟨_, rfl, ?_⟩
    show LcP4 ⟨(p.cells.map clD).map Vl.d, fun _ => True⟩ _ _ _ _ _ _ _
    refine v_lcMap (fun c : Cl => D.int (foundL (absL t palm notes cl) vs c.name)) (by omega) ?_ ?_
    · intro c hc Y N hY
      have hcn : c.name ∈ p.cellNames := List.mem_map_of_mem hc
      obtain ⟨v, hvc⟩ := vok.some hcn
      walk_at "p4s"
      refine ⟨_, _, _, dicOf_loc hb2, rfl, pk_notes, ?_⟩
      refine ⟨⟨_, dicOf_dicD _⟩, ?_⟩
      walk_at "p4s"
      refine v_ixT at0 ?_
      walk_at "p4s"
      refine ⟨_, _, _, dicOf_loc hw2, rfl, wk_values, ?_⟩
      walk_at "p4s"
      refine v_ixT at0 ?_
      walk_at "p4s"
      refine ⟨kvSI vs, .inr c.name, .d (.int v), dicOf_dicD _, rfl, by rw [val_kvSI, hvc]; rfl, ?_⟩
      walk_at "p4s"
      refine ⟨kvSI notes, .inr c.name, dicOf_dicD _, rfl, ?_⟩
      rw [val_kvSI, show ((valSI notes c.name).map fun v => Vl.d (.int v)).getD (.d (.int v)) = .d (.int ((valSI notes c.name).getD v)) by cases valSI notes c.name <;> rfl]
      rw [found_eq sb.nd hvc] at hY
      walk_at "p4s"
      exact hY
    refine ⟨_, allD_map _, ?_⟩
    walk_at "p4s"
    refine w_reprS sF (by decide) (by decide) ?_
    walk_at "p4s"
    rw [decide_eq_true (rfl : shoD (.lst (p.cells.map fun c : Cl => D.int (foundL (absL t palm notes cl) vs c.name))) = shoD (.lst (p.cells.map fun c : Cl => D.int (foundL (absL t palm notes cl) vs c.name))))]
    walk_at "p4s"
    refine ⟨_, rfl, lf_ins, ?_⟩
    walk_at "p4s"
    refine ⟨_, rfl, ?_⟩
    walk_at "p4s"
    refine ⟨_, _, _, dicOf_loc hw2, rfl, wk_values, ?_⟩
    walk_at "p4s"
    refine w_reprS s0 (by decide) (by decide) ?_
    walk_at "p4s"
    rw [decide_eq_true (rfl : shoD (.lst [lkD (absL t palm notes cl), valsD vs]) = shoD (.lst [lkD (absL t palm notes cl), valsD vs]))]
    exact q μ2 (k1.trans k2)
end
end K22
namespace K22
open PySem PySem.Spec PyProof.Rows L2 TB LamX NdefX L3 L4 OwnE
open C8 (Cal pe_c Mak pe_mk Met pe_mt pe_mt0 pss_cut tCut pe_gc)
theorem sc_law : FnScope ["_law_script", "_law_k", "_law_pot_here", "_law_drawn_here", "_law_world_here", "_law_plan", "_law_turn"] ["_law_script"] (defScope s_law) := ⟨rfl, rfl, rfl, by decide +kernel, rfl, by decide +kernel, by decide +kernel⟩
section
variable {P : Program} {w : World} {K : PySem.W.Frag} {mg : Str → Option Value} {base : Heap} {f CP : Addr} {fd : FuncData}
theorem ok_law (F : FnP K "law" s_law f fd) (T : BltA mg) (c__law_pot : Cal P w K mg base 1 "_law_pot" (lsp ⟨K, []⟩ none (pPot K)) []) (c__law_draw : Cal P w K mg base 1 "_law_draw" (lsp ⟨K, []⟩ none pDraw) []) (c__law_drawn : Cal P w K mg base 5 "_law_drawn" (lsp ⟨K, []⟩ none pDrawn) []) (c__law_world : Cal P w K mg base 3 "_law_world" (lsp4 ⟨K, []⟩ pWorld) []) (c__law_worths : Cal P w K mg base 3 "_law_worths" (lsp4 ⟨K, []⟩ pWorthsB) []) (c__law_plan_of : Cal P w K mg base 7 "_law_plan_of" (lsp ⟨K, []⟩ none (pBuilt CP)) []) (e_Plan : EqOwn P w K mg base 2 CP (lsp ⟨K, []⟩ none (pPlEq CP))) (c__law_right : CalG P w K mg base 7 "_law_right" (lsp4 ⟨K, []⟩ (pRight22 CP))) : FnG P w K mg base CX0 8 f fd ["_law_script"] (lsp ⟨K, []⟩ none (pLaw K)) := by
  refine fng_imp ?_ (lsp4_of (P4 := fun xs μ Q4 _ => ∃ ds Q3, xs = ds.map Vl.d ∧ pLaw K ds Q3 ∧ ∀ d μ', Q3 (.val d) none → Q4 (.d d) μ') fun ds Q3 h => ⟨ds, Q3, rfl, h, fun d μ' q => Or.inl ⟨d, rfl, q⟩⟩)
  refine fng_of F sc_law (lsp4_len (by rintro xs μ Q4 X4 ⟨ds, Q3, rfl, ⟨ns, rfl, _⟩, _⟩; rfl)) (fun cdv A outer s H vs Q E g hr h => ⟨_, PSs.nox
(pss_cons (ps_for PassesOwn.never rfl (pi_range1 (by rfl) T.b_range (pa_cons (pe_callB (call_max2 rfl) (by rfl) T.b_max (by decide +kernel) (pa_cons pe_int (pa_cons (pe_callB (call_min2 rfl) (by rfl) T.b_min (by decide +kernel) (pa_cons (toScr (pe_callB (call_lenK K) (by rfl) T.b_len PySem.boot_len (pa_cons (pv 0) pa_nil))) (pa_cons pe_int pa_nil))) pa_nil))) pa_nil)) (pg_name (i := 1) sc_law.nd rfl (.inl rfl))
    (pss_cons (ps_set (i := 2) sc_law.nd rfl (.inl rfl) (pe_c c__law_pot hr (by decide) (by rfl) (pa_cons (pv 0) (pa_cons (pv 1) pa_nil))))
      (pss_cons (ps_set (i := 3) sc_law.nd rfl (.inl rfl) (pe_c c__law_drawn hr (by decide) (by rfl) (pa_cons (pv 2) (pa_cons (pe_c c__law_draw hr (by decide) (by rfl) (pa_cons (pv 2) (pa_cons pe_int pa_nil))) (pa_cons pe_int pa_nil)))))
      (pss_cons (ps_par (i := 4) (j := 5) rfl sc_law.nd rfl rfl (by decide) rfl rfl (pa_cons (pe_c c__law_world hr (by decide) (by rfl) (pa_cons (pv 3) pa_nil)) (pa_cons (pe_c c__law_plan_of hr (by decide) (by rfl) (pa_cons (pv 3) pa_nil)) pa_nil)) rfl)
      (pss_cons (ps_dput (hu_of hr) (pv 4) pe_str (pe_c c__law_worths hr (by decide) (by rfl) (pa_cons (pv 2) (pa_cons (pv 4) pa_nil))) rfl)
      (pss_cons (ps_for PassesOwn.never rfl (pi_range1 (by rfl) T.b_range (pa_cons (pe_op op_add pe_int (pe_c c__law_draw hr (by decide) (by rfl) (pa_cons (pv 2) (pa_cons pe_int pa_nil)))) pa_nil)) (pg_name (i := 6) sc_law.nd rfl (.inl rfl))
        (pss_one (ps_if (pt_not (pt_val (pe_cG c__law_right g hr (by decide) (by rfl) (pa_cons (pv 2) (pa_cons (pv 4) (pa_cons (pv 3) (pa_cons (pv 5) pa_nil)))))))
            (pss_one (ps_ret pe_bl))
            pss_nil)))
      (pss_one (ps_if (pt_cmpR (kNeOwn K e_Plan hr (by decide)) (pv 5) (pe_c c__law_plan_of hr (by decide) (by rfl) (pa_cons (pv 3) pa_nil)) (nomark _))
        (pss_one (ps_ret pe_bl))
        pss_nil))))))))
  (pss_one (ps_ret pe_bl)))
, run4 ?go h⟩)
  case go =>
    refine ⟨_, (by walk_at "l4s"), ?_⟩
    rintro xs μ Q4 X4 ⟨ds, Q3, rfl, ⟨ns, rfl, hl, q⟩, k⟩
    walk_at "p4s"
    obtain ⟨m, em, hm⟩ := cells_at (n := ns.length) (m := 5) (by decide) (by decide)
    rw [em]
    refine ⟨(m : Int), rfl, by omega, by omega, ?_⟩
    rw [Int.toNat_natCast]
    refine v_for3 ⟨fun i ρ' _ => ∃ p1 p2 p3 p4 p5 p6 : Option Vl, ρ' = [some (.d (scrD K ns)), p1, p2, p3, p4, p5, p6], ⟨_, _, _, _, _, _, rfl⟩, ?_⟩
    rintro i _ μ1 ⟨p1, p2, p3, p4, p5, p6, rfl⟩
    refine ⟨fun e => ?_, fun d e => ?_⟩
    · walk_at "p4s"
      exact k _ _ q
    · obtain ⟨hi, rfl⟩ := range_at e
      walk_at "p4s"
      refine ⟨ns, _, rfl, by omega, by omega, ?_⟩
      walk_at "p4s"
      refine ⟨4, rfl, by decide, by decide, fun f0 f1 f2 => ?_⟩
      walk_at "p4s"
      refine ⟨f0, 12, rfl, f1, by omega, by decide, by decide, fun p ok l1 l12 => ?_⟩
      walk_at "p4s"
      refine ⟨p, rfl, ok, fun w0 o a b μ2 k2 nw hw => ?_⟩
      walk_at "p4s"
      refine ⟨p, rfl, ok, ?_⟩
      walk_at "p4s"
      refine ⟨_, _, rfl, ?_⟩
      walk_at "p4s"
      refine ⟨p, _, w0, o, a, b, rfl, ok, hw, fun ws vok vb => ?_⟩
      walk_at "p4s"
      refine ⟨w0, _, _, rfl, hw, rfl, wk_len, ?_⟩
      rw [wp_values]
      have hw2 : (updM μ2 w0 (.dic (worldK p ws o a b))) w0 = some (.dic (worldK p ws o a b)) := updM_same
      revert hw2
      generalize updM μ2 w0 (.dic (worldK p ws o a b)) = μ3
      intro hw2
      walk_at "p4s"
      refine ⟨4, rfl, by decide, by decide, fun g g0 g1 => ?_⟩
      walk_at "p4s"
      refine ⟨1 + g, rfl, by omega, by omega, ?_⟩
      refine v_for3 ⟨fun j ρ' μ' => ∃ p6 : Option Vl, μ' w0 = some (.dic (worldK p ws o a b)) ∧ ρ' = [some (.d (scrD K ns)), some (.d (.int (i : Int))), some (.d potD), some (.d (drawnD p)), some (.loc w0), some (.d (planD CP p)), p6], ⟨_, hw2, rfl⟩, ?_⟩
      rintro j _ μ4 ⟨p6, hw4, rfl⟩
      refine ⟨fun e => ?_, fun d e => ?_⟩
      · walk_at "p4s"
        refine ⟨p, rfl, ok, ?_⟩
        walk_at "p4s"
        refine ownp_a (due := true) ok (Or.inl ⟨p, rfl, ok, by simp⟩) ?_
        walk_at "p4s"
        exact ⟨_, _, _, _, _, _, rfl⟩
      · walk_at "p4s"
        refine ⟨p, ws, w0, o, a, b, rfl, ok, vok, vb, hw4, fun μ5 k5 => ?_⟩
        walk_at "p4s"
        exact ⟨_, k5.at hw4, rfl⟩
end
end K22
namespace K22
open PySem PySem.Spec PyProof.Rows L2 TB LamX NdefX
open C8 (Cal pe_c Mak pe_mk Met pe_mt pe_mt0 pss_cut tCut pe_gc)
theorem run0 (b : Bool) (w : World) : HandSHeadRun.RunEq R (PySem.W.view R.prog [75]) hk ob 6000 loose (w.withFollow "special-get-raises" b) := by
  cases b
  · exact run0_false w
  · exact run0_true w
theorem run (w : World) : HandSHeadRun.RunEq R (PySem.W.view R.prog [75]) hk ob 6000 loose w := by
  have h := run0 (w.params.followText "special-get-raises") w
  rw [World.withFollow_self] at h
  exact h
theorem facts {P : Program} {w : World} {K : PySem.W.Frag} {h : Heap} {mg : Str → Option Value} {f : Addr} (X : K.In h) (G : h.Ns mainGlobals mg) (hfa : mg ("law" : Str) = some (.ref f)) (c : He.SaysX fa fn ts tf exB w h K) :
    ∃ fd : FuncData, (∀ (s : Shared) (v : Value), BindsTo s fd ⟨[v], []⟩ [("_law_script", v)]) ∧ ∀ base : Heap, K.In base → base.Ns mainGlobals mg → FnG P w K mg base CX0 8 f fd ["_law_script"] (L3.spLaw0 K) := by
  obtain ⟨fd_is_name, F_is_name⟩ := c.t.d.def_ 0 (d := d_is_name) rfl
  obtain ⟨fd_is_number, F_is_number⟩ := c.t.d.def_ 1 (d := d_is_number) rfl
  obtain ⟨fd_is_part, F_is_part⟩ := c.t.d.def_ 2 (d := d_is_part) rfl
  obtain ⟨fd_is_deed, F_is_deed⟩ := c.t.d.def_ 3 (d := d_is_deed) rfl
  obtain ⟨fd_is_body, F_is_body⟩ := c.t.d.def_ 4 (d := d_is_body) rfl
  obtain ⟨fd_want_many, F_want_many⟩ := c.t.d.def_ 5 (d := d_want_many) rfl
  obtain ⟨fd_want_new, F_want_new⟩ := c.t.d.def_ 6 (d := d_want_new) rfl
  obtain ⟨fd_want_locks, F_want_locks⟩ := c.t.d.def_ 7 (d := d_want_locks) rfl
  obtain ⟨fd_want_cells, F_want_cells⟩ := c.t.d.def_ 8 (d := d_want_cells) rfl
  obtain ⟨fd_want_tasks, F_want_tasks⟩ := c.t.d.def_ 9 (d := d_want_tasks) rfl
  obtain ⟨fd_Plan___init__, F_Plan___init__⟩ := c.t.d.def_ 10 (d := d_Plan___init__) rfl
  obtain ⟨fd_Plan_cell_of, F_Plan_cell_of⟩ := c.t.d.def_ 11 (d := d_Plan_cell_of) rfl
  obtain ⟨fd_Plan_lock_of, F_Plan_lock_of⟩ := c.t.d.def_ 12 (d := d_Plan_lock_of) rfl
  obtain ⟨fd_Plan___eq__, F_Plan___eq__⟩ := c.t.d.def_ 13 (d := d_Plan___eq__) rfl
  obtain ⟨fd_Life___init__, F_Life___init__⟩ := c.t.d.def_ 14 (d := d_Life___init__) rfl
  obtain ⟨fd_Life_key, F_Life_key⟩ := c.t.d.def_ 15 (d := d_Life_key) rfl
  obtain ⟨fd_found_in, F_found_in⟩ := c.t.d.def_ 16 (d := d_found_in) rfl
  obtain ⟨fd_with_hand, F_with_hand⟩ := c.t.d.def_ 17 (d := d_with_hand) rfl
  obtain ⟨fd_do_set, F_do_set⟩ := c.t.d.def_ 18 (d := d_do_set) rfl
  obtain ⟨fd_do_add, F_do_add⟩ := c.t.d.def_ 19 (d := d_do_add) rfl
  obtain ⟨fd_do_take, F_do_take⟩ := c.t.d.def_ 20 (d := d_do_take) rfl
  obtain ⟨fd_do_read, F_do_read⟩ := c.t.d.def_ 21 (d := d_do_read) rfl
  obtain ⟨fd_do_write, F_do_write⟩ := c.t.d.def_ 22 (d := d_do_write) rfl
  obtain ⟨fd_do_skip, F_do_skip⟩ := c.t.d.def_ 23 (d := d_do_skip) rfl
  obtain ⟨fd_does_fail, F_does_fail⟩ := c.t.d.def_ 24 (d := d_does_fail) rfl
  obtain ⟨fd_done_by, F_done_by⟩ := c.t.d.def_ 25 (d := d_done_by) rfl
  obtain ⟨fd__law_pot, F__law_pot⟩ := c.t.d.def_ 26 (d := d__law_pot) rfl
  obtain ⟨fd__law_draw, F__law_draw⟩ := c.t.d.def_ 27 (d := d__law_draw) rfl
  obtain ⟨fd__law_name, F__law_name⟩ := c.t.d.def_ 28 (d := d__law_name) rfl
  obtain ⟨fd__law_number, F__law_number⟩ := c.t.d.def_ 29 (d := d__law_number) rfl
  obtain ⟨fd__law_act, F__law_act⟩ := c.t.d.def_ 30 (d := d__law_act) rfl
  obtain ⟨fd__law_acts, F__law_acts⟩ := c.t.d.def_ 31 (d := d__law_acts) rfl
  obtain ⟨fd__law_drawn, F__law_drawn⟩ := c.t.d.def_ 32 (d := d__law_drawn) rfl
  obtain ⟨fd__law_person, F__law_person⟩ := c.t.d.def_ 33 (d := d__law_person) rfl
  obtain ⟨fd__law_joins, F__law_joins⟩ := c.t.d.def_ 34 (d := d__law_joins) rfl
  obtain ⟨fd__law_world, F__law_world⟩ := c.t.d.def_ 35 (d := d__law_world) rfl
  obtain ⟨fd__law_claims, F__law_claims⟩ := c.t.d.def_ 36 (d := d__law_claims) rfl
  obtain ⟨fd__law_moves, F__law_moves⟩ := c.t.d.def_ 37 (d := d__law_moves) rfl
  obtain ⟨fd__law_plan_of, F__law_plan_of⟩ := c.t.d.def_ 38 (d := d__law_plan_of) rfl
  obtain ⟨fd__law_worths, F__law_worths⟩ := c.t.d.def_ 39 (d := d__law_worths) rfl
  obtain ⟨fd__law_own_life, F__law_own_life⟩ := c.t.d.def_ 40 (d := d__law_own_life) rfl
  obtain ⟨fd__law_life_of, F__law_life_of⟩ := c.t.d.def_ 41 (d := d__law_life_of) rfl
  obtain ⟨fd__law_acts_of, F__law_acts_of⟩ := c.t.d.def_ 42 (d := d__law_acts_of) rfl
  obtain ⟨fd__law_numbers_in, F__law_numbers_in⟩ := c.t.d.def_ 43 (d := d__law_numbers_in) rfl
  obtain ⟨fd__law_somebody, F__law_somebody⟩ := c.t.d.def_ 44 (d := d__law_somebody) rfl
  obtain ⟨fd__law_life_made, F__law_life_made⟩ := c.t.d.def_ 45 (d := d__law_life_made) rfl
  obtain ⟨fd__law_deeds_for, F__law_deeds_for⟩ := c.t.d.def_ 46 (d := d__law_deeds_for) rfl
  obtain ⟨fd__law_due, F__law_due⟩ := c.t.d.def_ 47 (d := d__law_due) rfl
  obtain ⟨fd__law_told, F__law_told⟩ := c.t.d.def_ 48 (d := d__law_told) rfl
  obtain ⟨fd__law_right, F__law_right⟩ := c.t.d.def_ 49 (d := d__law_right) rfl
  obtain ⟨fd_law, F_law⟩ := c.t.d.def_ 50 (d := d_law) rfl
  have e := hfa.symm.trans (He.glo_ok X G (c.t.d.fact 44 (f := .glo "law") rfl))
  cases e
  have T : BltA mg := { b_len := He.free_ok X G (c.t.d.fact 45 (f := .free "len") rfl), b_max := He.free_ok X G (c.t.d.fact 46 (f := .free "max") rfl), b_min := He.free_ok X G (c.t.d.fact 47 (f := .free "min") rfl), b_abs := He.free_ok X G (c.t.d.fact 48 (f := .free "abs") rfl), b_divmod := He.free_ok X G (c.t.d.fact 49 (f := .free "divmod") rfl), b_range := He.free_ok X G (c.t.d.fact 50 (f := .free "range") rfl), b_enumerate := He.free_ok X G (c.t.d.fact 51 (f := .free "enumerate") rfl), b_int := He.free_ok X G (c.t.d.fact 52 (f := .free "int") rfl), b_list := He.free_ok X G (c.t.d.fact 53 (f := .free "list") rfl), b_repr := He.free_ok X G (c.t.d.fact 54 (f := .free "repr") rfl), b_isinstance := He.free_ok X G (c.t.d.fact 55 (f := .free "isinstance") rfl), b_str := He.free_ok X G (c.t.d.fact 56 (f := .free "str") rfl), b_tuple := He.free_ok X G (c.t.d.fact 57 (f := .free "tuple") rfl), b_sorted := He.free_ok X G (c.t.d.fact 58 (f := .free "sorted") rfl), b_all := He.free_ok X G (c.t.d.fact 59 (f := .free "all") rfl), b_any := He.free_ok X G (c.t.d.fact 60 (f := .free "any") rfl), b_zip := He.free_ok X G (c.t.d.fact 61 (f := .free "zip") rfl), b_dict := He.free_ok X G (c.t.d.fact 62 (f := .free "dict") rfl), b_sum := He.free_ok X G (c.t.d.fact 63 (f := .free "sum") rfl), b_bool := He.free_ok X G (c.t.d.fact 64 (f := .free "bool") rfl) }
  have b_is_name : Binds K fd_is_name ["thing"] [] := F_is_name.bindsN fun _ _ _ _ _ _ us hl => match us, hl with | [_], _ => rfl
  have b_is_number : Binds K fd_is_number ["thing", "least", "most"] [] := F_is_number.bindsN fun _ _ _ _ _ _ us hl => match us, hl with | [_, _, _], _ => rfl
  have b_is_part : Binds K fd_is_part ["thing", "kind", "locks", "names"] [] := F_is_part.bindsN fun _ _ _ _ _ _ us hl => match us, hl with | [_, _, _, _], _ => rfl
  have b_is_deed : Binds K fd_is_deed ["thing", "locks", "names"] [] := F_is_deed.bindsN fun _ _ _ _ _ _ us hl => match us, hl with | [_, _, _], _ => rfl
  have b_is_body : Binds K fd_is_body ["body", "locks", "names"] [] := F_is_body.bindsN fun _ _ _ _ _ _ us hl => match us, hl with | [_, _, _], _ => rfl
  have b_want_many : Binds K fd_want_many ["things", "what", "least", "most"] [] := F_want_many.bindsN fun _ _ _ _ _ _ us hl => match us, hl with | [_, _, _, _], _ => rfl
  have b_want_new : Binds K fd_want_new ["name", "number", "taken"] [] := F_want_new.bindsN fun _ _ _ _ _ _ us hl => match us, hl with | [_, _, _], _ => rfl
  have b_want_locks : Binds K fd_want_locks ["locks", "taken"] [] := F_want_locks.bindsN fun _ _ _ _ _ _ us hl => match us, hl with | [_, _], _ => rfl
  have b_want_cells : Binds K fd_want_cells ["cells", "locks", "taken"] [] := F_want_cells.bindsN fun _ _ _ _ _ _ us hl => match us, hl with | [_, _, _], _ => rfl
  have b_want_tasks : Binds K fd_want_tasks ["tasks", "taken"] [] := F_want_tasks.bindsN fun _ _ _ _ _ _ us hl => match us, hl with | [_, _], _ => rfl
  have b_Plan_cell_of : Binds K fd_Plan_cell_of ["self", "name"] [] := F_Plan_cell_of.bindsN fun _ _ _ _ _ _ us hl => match us, hl with | [_, _], _ => rfl
  have b_Plan_lock_of : Binds K fd_Plan_lock_of ["self", "cell"] [] := F_Plan_lock_of.bindsN fun _ _ _ _ _ _ us hl => match us, hl with | [_, _], _ => rfl
  have b_Plan___eq__ : Binds K fd_Plan___eq__ ["self", "other"] [] := F_Plan___eq__.bindsN fun _ _ _ _ _ _ us hl => match us, hl with | [_, _], _ => rfl
  have b_Life_key : Binds K fd_Life_key ["self"] [] := F_Life_key.bindsN fun _ _ _ _ _ _ us hl => match us, hl with | [_], _ => rfl
  have b_found_in : Binds K fd_found_in ["life", "cell", "cells"] [] := F_found_in.bindsN fun _ _ _ _ _ _ us hl => match us, hl with | [_, _, _], _ => rfl
  have b_do_set : Binds K fd_do_set ["life", "deed", "cells"] [] := F_do_set.bindsN fun _ _ _ _ _ _ us hl => match us, hl with | [_, _, _], _ => rfl
  have b_do_add : Binds K fd_do_add ["life", "deed", "cells"] [] := F_do_add.bindsN fun _ _ _ _ _ _ us hl => match us, hl with | [_, _, _], _ => rfl
  have b_do_take : Binds K fd_do_take ["life", "deed", "cells"] [] := F_do_take.bindsN fun _ _ _ _ _ _ us hl => match us, hl with | [_, _, _], _ => rfl
  have b_do_read : Binds K fd_do_read ["life", "deed", "cells"] [] := F_do_read.bindsN fun _ _ _ _ _ _ us hl => match us, hl with | [_, _, _], _ => rfl
  have b_do_write : Binds K fd_do_write ["life", "deed", "cells"] [] := F_do_write.bindsN fun _ _ _ _ _ _ us hl => match us, hl with | [_, _, _], _ => rfl
  have b_do_skip : Binds K fd_do_skip ["life", "deed", "cells"] [] := F_do_skip.bindsN fun _ _ _ _ _ _ us hl => match us, hl with | [_, _, _], _ => rfl
  have b_does_fail : Binds K fd_does_fail ["life", "deed", "plan"] [] := F_does_fail.bindsN fun _ _ _ _ _ _ us hl => match us, hl with | [_, _, _], _ => rfl
  have b_done_by : Binds K fd_done_by ["life", "deed", "plan", "cells"] [] := F_done_by.bindsN fun _ _ _ _ _ _ us hl => match us, hl with | [_, _, _, _], _ => rfl
  have b__law_pot : Binds K fd__law_pot ["_law_script", "_law_k"] [] := F__law_pot.bindsN fun _ _ _ _ _ _ us hl => match us, hl with | [_, _], _ => rfl
  have b__law_draw : Binds K fd__law_draw ["_law_pot_here", "_law_many"] [] := F__law_draw.bindsN fun _ _ _ _ _ _ us hl => match us, hl with | [_, _], _ => rfl
  have b__law_name : Binds K fd__law_name ["_law_pot_here", "_law_taken"] [] := F__law_name.bindsN fun _ _ _ _ _ _ us hl => match us, hl with | [_, _], _ => rfl
  have b__law_number : Binds K fd__law_number ["_law_pot_here"] [] := F__law_number.bindsN fun _ _ _ _ _ _ us hl => match us, hl with | [_], _ => rfl
  have b__law_act : Binds K fd__law_act ["_law_pot_here", "_law_latches", "_law_slots", "_law_claimed", "_law_behind"] [] := F__law_act.bindsN fun _ _ _ _ _ _ us hl => match us, hl with | [_, _, _, _, _], _ => rfl
  have b__law_acts : Binds K fd__law_acts ["_law_pot_here", "_law_latches", "_law_slots", "_law_high"] [] := F__law_acts.bindsN fun _ _ _ _ _ _ us hl => match us, hl with | [_, _, _, _], _ => rfl
  have b__law_drawn : Binds K fd__law_drawn ["_law_pot_here", "_law_folk", "_law_high"] [] := F__law_drawn.bindsN fun _ _ _ _ _ _ us hl => match us, hl with | [_, _, _], _ => rfl
  have b__law_person : Binds K fd__law_person [] [] := F__law_person.bindsN fun _ _ _ _ _ _ us hl => match us, hl with | [], _ => rfl
  have b__law_joins : Binds K fd__law_joins ["_law_world_here", "_law_name_here", "_law_acts_here"] [] := F__law_joins.bindsN fun _ _ _ _ _ _ us hl => match us, hl with | [_, _, _], _ => rfl
  have b__law_world : Binds K fd__law_world ["_law_drawn_here"] [] := F__law_world.bindsN fun _ _ _ _ _ _ us hl => match us, hl with | [_], _ => rfl
  have b__law_claims : Binds K fd__law_claims ["_law_person_here", "_law_latch"] [] := F__law_claims.bindsN fun _ _ _ _ _ _ us hl => match us, hl with | [_, _], _ => rfl
  have b__law_moves : Binds K fd__law_moves ["_law_world_here", "_law_person_here", "_law_act_here"] [] := F__law_moves.bindsN fun _ _ _ _ _ _ us hl => match us, hl with | [_, _, _], _ => rfl
  have b__law_plan_of : Binds K fd__law_plan_of ["_law_drawn_here"] [] := F__law_plan_of.bindsN fun _ _ _ _ _ _ us hl => match us, hl with | [_], _ => rfl
  have b__law_worths : Binds K fd__law_worths ["_law_pot_here", "_law_world_here"] [] := F__law_worths.bindsN fun _ _ _ _ _ _ us hl => match us, hl with | [_, _], _ => rfl
  have b__law_own_life : Binds K fd__law_own_life ["_law_person_here"] [] := F__law_own_life.bindsN fun _ _ _ _ _ _ us hl => match us, hl with | [_], _ => rfl
  have b__law_life_of : Binds K fd__law_life_of ["_law_life"] [] := F__law_life_of.bindsN fun _ _ _ _ _ _ us hl => match us, hl with | [_], _ => rfl
  have b__law_acts_of : Binds K fd__law_acts_of ["_law_drawn_here"] [] := F__law_acts_of.bindsN fun _ _ _ _ _ _ us hl => match us, hl with | [_], _ => rfl
  have b__law_numbers_in : Binds K fd__law_numbers_in ["_law_drawn_here"] [] := F__law_numbers_in.bindsN fun _ _ _ _ _ _ us hl => match us, hl with | [_], _ => rfl
  have b__law_somebody : Binds K fd__law_somebody ["_law_pot_here", "_law_world_here", "_law_drawn_here"] [] := F__law_somebody.bindsN fun _ _ _ _ _ _ us hl => match us, hl with | [_, _, _], _ => rfl
  have b__law_life_made : Binds K fd__law_life_made ["_law_person_here"] [] := F__law_life_made.bindsN fun _ _ _ _ _ _ us hl => match us, hl with | [_], _ => rfl
  have b__law_deeds_for : Binds K fd__law_deeds_for ["_law_pot_here", "_law_world_here", "_law_drawn_here", "_law_person_here"] [] := F__law_deeds_for.bindsN fun _ _ _ _ _ _ us hl => match us, hl with | [_, _, _, _], _ => rfl
  have b__law_due : Binds K fd__law_due ["_law_world_here", "_law_person_here", "_law_act_here"] [] := F__law_due.bindsN fun _ _ _ _ _ _ us hl => match us, hl with | [_, _, _], _ => rfl
  have b__law_told : Binds K fd__law_told ["_law_life", "_law_act_here", "_law_plan", "_law_worths_here"] [] := F__law_told.bindsN fun _ _ _ _ _ _ us hl => match us, hl with | [_, _, _, _], _ => rfl
  have b__law_right : Binds K fd__law_right ["_law_pot_here", "_law_world_here", "_law_drawn_here", "_law_plan"] [] := F__law_right.bindsN fun _ _ _ _ _ _ us hl => match us, hl with | [_, _, _, _], _ => rfl
  have b_law := FunD.bindsA (ps := ["_law_script"]) F_law fun _ _ _ _ _ _ us hl => match us, hl with | [_], _ => rfl
  obtain ⟨ds_p, vs_p, b_p⟩ := F_Plan___init__.binds1 (ps := ["self", "locks", "cells", "tasks"]) 4 1 (List.cons_ne_nil _ _) rfl (fun _ _ _ _ _ _ _ us its h1 h2 => match us, its, h1, h2 with | [_, _, _, _], [_], _, _ => ⟨_, rfl, rfl⟩)
  obtain ⟨ds_l, vs_l, b_l0⟩ := F_Life___init__.binds0 (ps := ["self", "place", "hand", "drafts", "called"]) 1 (List.cons_ne_nil _ _) rfl (fun _ _ _ _ _ _ us mv h1 h2 => match us, mv, h1, h2 with | [_], [_, _, _, _], _, _ => ⟨_, _, _, _, _, _, rfl, rfl, _, _, _, _, _, _, rfl, rfl, _, _, _, _, _, _, rfl, rfl, _, _, _, _, _, _, rfl, rfl, rfl⟩)
  obtain ⟨mv_phdc, b_phdc⟩ := F_Life___init__.kbinds0 (ps := ["self", "place", "hand", "drafts", "called"]) 1 ["place", "hand", "drafts", "called"] [] (L3.gS [(true, 0), (true, 1), (true, 2), (true, 3)]) (List.cons_ne_nil _ _) (fun q hq => nomatch hq) L3.gS_rel (fun _ _ _ _ _ _ us mv ws h1 h2 h3 => match us, mv, ws, h1, h2, h3 with | [_], [], [_, _, _, _], _, _, _ => rfl)
  obtain ⟨ds_w, vs_w, b_w⟩ := F_with_hand.binds0 (ps := ["life", "hand", "by"]) 2 (List.cons_ne_nil _ _) rfl (fun _ _ _ _ _ _ us mv h1 h2 => match us, mv, h1, h2 with | [_, _], [_], _, _ => ⟨_, _, _, _, _, _, rfl, rfl, rfl⟩)
  obtain ⟨mv_w, b_wb⟩ := F_with_hand.kbinds0 (ps := ["life", "hand", "by"]) 2 ["by"] [] (L3.gS [(true, 0)]) (List.cons_ne_nil _ _) (fun q hq => nomatch hq) L3.gS_rel (fun _ _ _ _ _ _ us mv ws h1 h2 h3 => match us, mv, ws, h1, h2, h3 with | [_, _], [], [_], _, _, _ => rfl)
  refine ⟨fd_law, fun s v => b_law s [v] rfl, fun base _ _ => ?_⟩
  have c__law_draw : Cal P w K mg base 1 "_law_draw" spDraw [] := ⟨_, _, _, _, ok_draw F__law_draw T, (He.glo_ok X G (c.t.d.fact 21 (f := .glo "_law_draw") rfl)), F__law_draw.kp, b__law_draw, .nil⟩
  have c__law_pot : Cal P w K mg base 1 "_law_pot" (spPot K) [] := ⟨_, _, _, _, ok_pot F__law_pot T, (He.glo_ok X G (c.t.d.fact 20 (f := .glo "_law_pot") rfl)), F__law_pot.kp, b__law_pot, .nil⟩
  have c__law_name : Cal P w K mg base 2 "_law_name" spName [] := ⟨_, _, _, _, ok_name F__law_name T c__law_draw, (He.glo_ok X G (c.t.d.fact 22 (f := .glo "_law_name") rfl)), F__law_name.kp, b__law_name, .nil⟩
  have x_draw := L3.cal_imp (sp' := L3.lsp ⟨K, []⟩ none L3.pDraw) c__law_draw (L3.i_draw (fun p m H Q E h1 h2 h3 h4 h5 => ⟨p, m, rfl, h1, h2, h3, h4, h5⟩))
  have x_name := L3.cal_imp (sp' := L3.lsp ⟨K, []⟩ (some 1) L3.pName) c__law_name (L3.i_name (fun p l ws H Q E h1 h2 h3 h4 h5 => ⟨p, l, ws, rfl, h1, h2, h3, h4, h5⟩))
  have x_pot := L3.cal_imp (sp' := L3.lsp ⟨K, []⟩ none (L3.pPot K)) c__law_pot (L3.i_pot (X := ⟨K, []⟩) (fun l ns k H Q E h1 h2 h3 h4 h5 => ⟨l, ns, k, rfl, h1, h2, h3, h4, h5⟩))
  have z_MOST_LETTERS : ∃ u, mg "MOST_LETTERS" = some u ∧ RelV (.int 8) u := by
    obtain ⟨t, e⟩ := He.int_ok X G (c.t.d.fact 66 (f := .int "MOST_LETTERS" 8) rfl)
    exact ⟨_, e, ⟨t, rfl⟩⟩
  have z_FARTHEST : ∃ u, mg "FARTHEST" = some u ∧ RelV (.int 1000000000000000000) u := by
    obtain ⟨t, e⟩ := He.int_ok X G (c.t.d.fact 67 (f := .int "FARTHEST" 1000000000000000000) rfl)
    exact ⟨_, e, ⟨t, rfl⟩⟩
  have z_MOST_DEEDS : ∃ u, mg "MOST_DEEDS" = some u ∧ RelV (.int 12) u := by
    obtain ⟨t, e⟩ := He.int_ok X G (c.t.d.fact 68 (f := .int "MOST_DEEDS" 12) rfl)
    exact ⟨_, e, ⟨t, rfl⟩⟩
  have z_LETTERS : ∃ u, mg "LETTERS" = some u ∧ RelV (.str "abcdefghijklmnopqrstuvwxyz") u := by
    obtain ⟨t, e⟩ := He.str_ok X G (c.t.d.fact 69 (f := .str "LETTERS" "abcdefghijklmnopqrstuvwxyz") rfl)
    exact ⟨_, e, ⟨t, rfl⟩⟩
  have z_NUMBER : ∃ u, mg "NUMBER" = some u ∧ RelV (.str "number") u := by
    obtain ⟨t, e⟩ := He.str_ok X G (c.t.d.fact 70 (f := .str "NUMBER" "number") rfl)
    exact ⟨_, e, ⟨t, rfl⟩⟩
  have z_MANY : ∃ u, mg "MANY" = some u ∧ RelV (.str "many") u := by
    obtain ⟨t, e⟩ := He.str_ok X G (c.t.d.fact 71 (f := .str "MANY" "many") rfl)
    exact ⟨_, e, ⟨t, rfl⟩⟩
  have z_LOCK : ∃ u, mg "LOCK" = some u ∧ RelV (.str "lock") u := by
    obtain ⟨t, e⟩ := He.str_ok X G (c.t.d.fact 72 (f := .str "LOCK" "lock") rfl)
    exact ⟨_, e, ⟨t, rfl⟩⟩
  have Z : L3.PlC mg := { v_MOST_LETTERS := z_MOST_LETTERS, v_FARTHEST := z_FARTHEST, v_MOST_DEEDS := z_MOST_DEEDS, v_LETTERS := z_LETTERS, v_NUMBER := z_NUMBER, v_MANY := z_MANY, v_LOCK := z_LOCK }
  have z_MOST_LOCKS : ∃ u, mg "MOST_LOCKS" = some u ∧ RelV (.int 7) u := by
    obtain ⟨t, e⟩ := He.int_ok X G (c.t.d.fact 74 (f := .int "MOST_LOCKS" 7) rfl)
    exact ⟨_, e, ⟨t, rfl⟩⟩
  have z_MOST_CELLS : ∃ u, mg "MOST_CELLS" = some u ∧ RelV (.int 8) u := by
    obtain ⟨t, e⟩ := He.int_ok X G (c.t.d.fact 75 (f := .int "MOST_CELLS" 8) rfl)
    exact ⟨_, e, ⟨t, rfl⟩⟩
  have z_MOST_TASKS : ∃ u, mg "MOST_TASKS" = some u ∧ RelV (.int 6) u := by
    obtain ⟨t, e⟩ := He.int_ok X G (c.t.d.fact 76 (f := .int "MOST_TASKS" 6) rfl)
    exact ⟨_, e, ⟨t, rfl⟩⟩
  have z_READ : ∃ u, mg "READ" = some u ∧ RelV (.str "read") u := by
    obtain ⟨t, e⟩ := He.str_ok X G (c.t.d.fact 77 (f := .str "READ" "read") rfl)
    exact ⟨_, e, ⟨t, rfl⟩⟩
  have z_WRITE : ∃ u, mg "WRITE" = some u ∧ RelV (.str "write") u := by
    obtain ⟨t, e⟩ := He.str_ok X G (c.t.d.fact 78 (f := .str "WRITE" "write") rfl)
    exact ⟨_, e, ⟨t, rfl⟩⟩
  have z_QUIT : ∃ u, mg "QUIT" = some u ∧ RelV (.str "quit") u := by
    obtain ⟨t, e⟩ := He.str_ok X G (c.t.d.fact 79 (f := .str "QUIT" "quit") rfl)
    exact ⟨_, e, ⟨t, rfl⟩⟩
  have ZM : L3.PlM mg := { v_MOST_LOCKS := z_MOST_LOCKS, v_MOST_CELLS := z_MOST_CELLS, v_MOST_TASKS := z_MOST_TASKS }
  have ZL : L4.LvC mg := { v_READ := z_READ, v_WRITE := z_WRITE, v_QUIT := z_QUIT }
  have ex4 := c.more
  unfold exB at ex4
  simp only [Bool.and_eq_true] at ex4
  obtain ⟨sysB, shq, n1, n2, n3, n4, q1, q2, q3⟩ := ex4
  obtain ⟨esS, nS, kdS⟩ := c.t.tab 0
  have kdS : KDict K w (He.ga K "SHAPES") esS nS := kdS
  have v_SHAPES : ∃ u, mg "SHAPES" = some u ∧ RelV (.ref (He.ga K "SHAPES")) u := ⟨_, He.glo_ok X G (c.t.d.fact 65 (f := .glo "SHAPES") rfl), rfl⟩
  have sh := L3.shB_ok shq
  have c_is_name : Cal P w K mg base 1 "is_name" (L3.lsp ⟨K, []⟩ none L3.pIsName) [] := ⟨_, _, _, _, ok_is_name F_is_name T Z, (He.glo_ok X G (c.t.d.fact 0 (f := .glo "is_name") rfl)), F_is_name.kp, b_is_name, .nil⟩
  have c_is_number : Cal P w K mg base 1 "is_number" (L3.lsp ⟨K, []⟩ none L3.pIsNum) [] := ⟨_, _, _, _, ok_is_number F_is_number T, (He.glo_ok X G (c.t.d.fact 1 (f := .glo "is_number") rfl)), F_is_number.kp, b_is_number, .nil⟩
  have c_is_part : Cal P w K mg base 2 "is_part" (L3.lsp ⟨K, []⟩ none L3.pIsPart) [] := ⟨_, _, _, _, ok_is_part F_is_part T Z c_is_number, (He.glo_ok X G (c.t.d.fact 2 (f := .glo "is_part") rfl)), F_is_part.kp, b_is_part, .nil⟩
  have c_is_deed : Cal P w K mg base 3 "is_deed" (L3.lsp ⟨K, []⟩ none L3.pIsDeed) [] := ⟨_, _, _, _, ok_is_deed F_is_deed T kdS v_SHAPES sh c_is_part, (He.glo_ok X G (c.t.d.fact 3 (f := .glo "is_deed") rfl)), F_is_deed.kp, b_is_deed, .nil⟩
  have c__law_number : Cal P w K mg base 2 "_law_number" (L3.lsp ⟨K, []⟩ none L3.pNumber) [] := ⟨_, _, _, _, ok__law_number F__law_number T x_draw, (He.glo_ok X G (c.t.d.fact 23 (f := .glo "_law_number") rfl)), F__law_number.kp, b__law_number, .nil⟩
  have c__law_act : Cal P w K mg base 3 "_law_act" (L3.lsp ⟨K, []⟩ (some 3) L3.pAct) [] := ⟨_, _, _, _, ok__law_act F__law_act T x_draw c__law_number, (He.glo_ok X G (c.t.d.fact 24 (f := .glo "_law_act") rfl)), F__law_act.kp, b__law_act, .nil⟩
  have c__law_acts : Cal P w K mg base 4 "_law_acts" (L3.lsp ⟨K, []⟩ none L3.pActs) [] := ⟨_, _, _, _, ok__law_acts F__law_acts T x_draw c__law_act, (He.glo_ok X G (c.t.d.fact 25 (f := .glo "_law_acts") rfl)), F__law_acts.kp, b__law_acts, .nil⟩
  have c__law_drawn : Cal P w K mg base 5 "_law_drawn" (L3.lsp ⟨K, []⟩ none L3.pDrawn) [] := ⟨_, _, _, _, ok__law_drawn F__law_drawn T x_draw x_name c__law_number c__law_acts, (He.glo_ok X G (c.t.d.fact 26 (f := .glo "_law_drawn") rfl)), F__law_drawn.kp, b__law_drawn, .nil⟩
  have c_is_body : Cal P w K mg base 4 "is_body" (L3.lsp ⟨K, []⟩ none L3.pIsBody) [] := ⟨_, _, _, _, ok_is_body F_is_body T Z c_is_deed, (He.glo_ok X G (c.t.d.fact 4 (f := .glo "is_body") rfl)), F_is_body.kp, b_is_body, .nil⟩
  have c_want_many : Cal P w K mg base 1 "want_many" (L3.lsp ⟨K, []⟩ none L3.pWantMany) [] := ⟨_, _, _, _, ok_want_many F_want_many T, (He.glo_ok X G (c.t.d.fact 5 (f := .glo "want_many") rfl)), F_want_many.kp, b_want_many, .nil⟩
  have c_want_new : Cal P w K mg base 2 "want_new" (L3.lsp ⟨K, []⟩ (some 2) L3.pWantNew) [] := ⟨_, _, _, _, ok_want_new F_want_new T c_is_name, (He.glo_ok X G (c.t.d.fact 6 (f := .glo "want_new") rfl)), F_want_new.kp, b_want_new, .nil⟩
  have c_want_locks : Cal P w K mg base 3 "want_locks" (L3.lsp ⟨K, []⟩ (some 1) L3.pWantLocks) [] := ⟨_, _, _, _, ok_want_locks F_want_locks T Z ZM c_want_many c_want_new, (He.glo_ok X G (c.t.d.fact 7 (f := .glo "want_locks") rfl)), F_want_locks.kp, b_want_locks, .nil⟩
  have c_want_cells : Cal P w K mg base 3 "want_cells" (L3.lsp ⟨K, []⟩ (some 2) L3.pWantCells) [] := ⟨_, _, _, _, ok_want_cells F_want_cells T Z ZM c_want_many c_want_new c_is_number, (He.glo_ok X G (c.t.d.fact 8 (f := .glo "want_cells") rfl)), F_want_cells.kp, b_want_cells, .nil⟩
  have c_want_tasks : Cal P w K mg base 3 "want_tasks" (L3.lsp ⟨K, []⟩ (some 1) L3.pWantTasks) [] := ⟨_, _, _, _, ok_want_tasks F_want_tasks T Z ZM c_want_many c_want_new, (He.glo_ok X G (c.t.d.fact 9 (f := .glo "want_tasks") rfl)), F_want_tasks.kp, b_want_tasks, .nil⟩
  have cl : Cls K (He.ga K "Plan") := He.cls_ok (c.t.d.fact 81 (f := .cls "Plan") rfl)
  have m1 : NoAttr K (He.ga K "Plan") "own_locks" := He.noat_ok (c.t.d.fact 82 (f := .noat "Plan" "own_locks") rfl)
  have m2 : NoAttr K (He.ga K "Plan") "own_cells" := He.noat_ok (c.t.d.fact 83 (f := .noat "Plan" "own_cells") rfl)
  have m3 : NoAttr K (He.ga K "Plan") "own_tasks" := He.noat_ok (c.t.d.fact 84 (f := .noat "Plan" "own_tasks") rfl)
  have m4 : NoAttr K (He.ga K "Plan") "own_names" := He.noat_ok (c.t.d.fact 85 (f := .noat "Plan" "own_names") rfl)
  have ic := L3.isiC_of q2 cl
  have v_Plan : ∃ u, mg "Plan" = some u ∧ RelV (V.ref (He.ga K "Plan")) u := ⟨_, He.glo_ok X G (c.t.d.fact 80 (f := .glo "Plan") rfl), rfl⟩
  have e_Plan : OwnE.EqOwn P w K mg base 2 (He.ga K "Plan") (L3.lsp ⟨K, []⟩ none (L4.pPlEq (He.ga K "Plan"))) := ⟨_, _, _, L3.eqCls_of q1 (He.meth_ok (c.t.d.fact 96 (f := .meth "Plan" "__eq__") rfl)).1 (He.meth_ok (c.t.d.fact 96 (f := .meth "Plan" "__eq__") rfl)).2, ok_Plan___eq__ F_Plan___eq__ T cl m1 m2 m3 m4 ic v_Plan, b_Plan___eq__⟩
  have m_Plan : Mak P w K mg base 5 "Plan" (He.ga K "Plan") (L4.lsp4 ⟨K, []⟩ (L4.pPlanInit (He.ga K "Plan"))) [] := ⟨_, _, _, _, He.mkr_ok (c.t.d.fact 86 (f := .mkr "Plan") rfl), ok_Plan___init__ F_Plan___init__ T cl m1 m2 m3 m4 c_want_locks c_want_cells c_want_tasks c_is_body, (He.glo_ok X G (c.t.d.fact 80 (f := .glo "Plan") rfl)), b_p, vs_p⟩
  have m_Plan_cell_of : Met P w K mg base 1 (He.ga K "Plan") "cell_of" (L3.lsp ⟨K, []⟩ none (L4.pCellOf (He.ga K "Plan"))) [] := ⟨_, _, _, _, He.cls_ok (c.t.d.fact 81 (f := .cls "Plan") rfl), He.meth_ok (c.t.d.fact 87 (f := .meth "Plan" "cell_of") rfl), ok_Plan_cell_of F_Plan_cell_of T cl m2, b_Plan_cell_of, .nil⟩
  have m_Plan_lock_of : Met P w K mg base 2 (He.ga K "Plan") "lock_of" (L3.lsp ⟨K, []⟩ none (L4.pLockOf (He.ga K "Plan"))) [] := ⟨_, _, _, _, He.cls_ok (c.t.d.fact 81 (f := .cls "Plan") rfl), He.meth_ok (c.t.d.fact 88 (f := .meth "Plan" "lock_of") rfl), ok_Plan_lock_of F_Plan_lock_of T cl m2 m_Plan_cell_of, b_Plan_lock_of, .nil⟩
  have hd := nilB_ok n1
  have hc := nilB_ok n2
  have hk := L4.nilKB_ok n3
  have lc : LifC K (He.ga K "Life") := ⟨He.cls_ok (c.t.d.fact 90 (f := .cls "Life") rfl), He.noat_ok (c.t.d.fact 91 (f := .noat "Life" "place") rfl), He.noat_ok (c.t.d.fact 92 (f := .noat "Life" "hand") rfl), He.noat_ok (c.t.d.fact 93 (f := .noat "Life" "drafts") rfl), He.noat_ok (c.t.d.fact 94 (f := .noat "Life" "called") rfl)⟩
  have l0 : Cls K (He.ga K "Life") := He.cls_ok (c.t.d.fact 90 (f := .cls "Life") rfl)
  have l1 : NoAttr K (He.ga K "Life") "place" := He.noat_ok (c.t.d.fact 91 (f := .noat "Life" "place") rfl)
  have l2 : NoAttr K (He.ga K "Life") "hand" := He.noat_ok (c.t.d.fact 92 (f := .noat "Life" "hand") rfl)
  have l3 : NoAttr K (He.ga K "Life") "drafts" := He.noat_ok (c.t.d.fact 93 (f := .noat "Life" "drafts") rfl)
  have l4 : NoAttr K (He.ga K "Life") "called" := He.noat_ok (c.t.d.fact 94 (f := .noat "Life" "called") rfl)
  have icL := L3.isiC_of q3 l0
  have v_Life : ∃ u, mg "Life" = some u ∧ RelV (V.ref (He.ga K "Life")) u := ⟨_, He.glo_ok X G (c.t.d.fact 89 (f := .glo "Life") rfl), rfl⟩
  have m_Life_key : Met P w K mg base 1 (He.ga K "Life") "key" (L3.lsp ⟨K, []⟩ none (L4.pKeyL K (He.ga K "Life"))) [] := ⟨_, _, _, _, He.cls_ok (c.t.d.fact 90 (f := .cls "Life") rfl), He.meth_ok (c.t.d.fact 97 (f := .meth "Life" "key") rfl), ok_Life_key F_Life_key T l0 l1 l2 l3 l4, b_Life_key, .nil⟩
  have m_Life : Mak P w K mg base 1 "Life" (He.ga K "Life") (spLifeI (He.ga K "Life")) [.int 0, .int 0, .ref (kwAt ("Life", some "__init__") "drafts" K), .ref (kwAt ("Life", some "__init__") "called" K)] := ⟨_, _, _, _, He.mkr_ok (c.t.d.fact 95 (f := .mkr "Life") rfl), ok_Life___init__ F_Life___init__ lc, (He.glo_ok X G (c.t.d.fact 89 (f := .glo "Life") rfl)), b_l0, vs_l⟩
  have m_Life_phdc : MakK P w K mg base 1 "Life" (He.ga K "Life") (spLifeI (He.ga K "Life")) ["place", "hand", "drafts", "called"] (fun vs zs => L3.gS [(true, 0), (true, 1), (true, 2), (true, 3)] vs [] zs) := ⟨_, _, _, _, He.mkr_ok (c.t.d.fact 95 (f := .mkr "Life") rfl), ok_Life___init__ F_Life___init__ lc, (He.glo_ok X G (c.t.d.fact 89 (f := .glo "Life") rfl)), b_phdc⟩
  have c_found_in : Cal P w K mg base 1 "found_in" (L3.lsp ⟨K, []⟩ none (L4.pFound K (He.ga K "Life"))) [] := ⟨_, _, _, _, ok_found_in F_found_in T l0 l3, (He.glo_ok X G (c.t.d.fact 10 (f := .glo "found_in") rfl)), F_found_in.kp, b_found_in, .nil⟩
  have ok_wh := ok_with_hand (P := P) (w := w) (mg := mg) (base := base) (tb := []) L3.glif_phdc F_with_hand T l0 l1 l3 l4 m_Life_phdc
  have c_with_hand : Cal P w K mg base 3 "with_hand" (L3.lsp ⟨K, []⟩ none (L4.pWith K (He.ga K "Life"))) [.int 1] := ⟨_, _, _, _, ok_wh, (He.glo_ok X G (c.t.d.fact 11 (f := .glo "with_hand") rfl)), F_with_hand.kp, b_w, vs_w⟩
  have c_with_hand_b : L3.CalN P w K mg base 3 "with_hand" (L3.lsp ⟨K, []⟩ none (L4.pWith K (He.ga K "Life"))) 2 1 ["by"] (fun vs zs => L3.gS [(true, 0)] vs [] zs) := ⟨rfl, _, _, _, _, ok_wh, (He.glo_ok X G (c.t.d.fact 11 (f := .glo "with_hand") rfl)), F_with_hand.kp, b_wb⟩
  have d1 : ∀ F : Hp, L3.Rp K F (.int 1) (V.int 1) := fun _ => rfl
  have ok1 := ok_do_set (P := P) (w := w) (mg := mg) (base := base) (tb := []) F_do_set T d1 c_with_hand
  have ok2 := ok_do_add (P := P) (w := w) (mg := mg) (base := base) (tb := []) F_do_add T d1 l0 l2 c_with_hand
  have ok3 := ok_do_take (P := P) (w := w) (mg := mg) (base := base) (tb := []) L3.glif_phdc F_do_take T l0 l1 l2 l3 l4 m_Life_phdc
  have ok4 := ok_do_read (P := P) (w := w) (mg := mg) (base := base) (tb := []) F_do_read T d1 c_found_in c_with_hand
  have ok5 := ok_do_write (P := P) (w := w) (mg := mg) (base := base) (tb := []) L3.glif_phdc F_do_write T l0 l1 l2 l3 l4 m_Life_phdc
  have ok6 := ok_do_skip (P := P) (w := w) (mg := mg) (base := base) (tb := []) L3.gS_row21 F_do_skip T l0 l2 c_with_hand_b
  have a1 : Held P w K mg base 4 (He.ga K "do_set") (L3.lsp ⟨K, []⟩ none (L4.pDo K (He.ga K "Life") fun d => ∃ n, d = .set n)) := ⟨_, _, ok1, F_do_set.kp, b_do_set⟩
  have a2 : Held P w K mg base 4 (He.ga K "do_add") (L3.lsp ⟨K, []⟩ none (L4.pDo K (He.ga K "Life") fun d => ∃ n, d = .add n)) := ⟨_, _, ok2, F_do_add.kp, b_do_add⟩
  have a3 : Held P w K mg base 4 (He.ga K "do_take") (L3.lsp ⟨K, []⟩ none (L4.pDo K (He.ga K "Life") fun d => ∃ n, d = .take n)) := ⟨_, _, ok3, F_do_take.kp, b_do_take⟩
  have a4 : Held P w K mg base 4 (He.ga K "do_read") (L3.lsp ⟨K, []⟩ none (L4.pDo K (He.ga K "Life") fun d => ∃ n, d = .read n)) := ⟨_, _, ok4, F_do_read.kp, b_do_read⟩
  have a5 : Held P w K mg base 4 (He.ga K "do_write") (L3.lsp ⟨K, []⟩ none (L4.pDo K (He.ga K "Life") fun d => ∃ n, d = .write n)) := ⟨_, _, ok5, F_do_write.kp, b_do_write⟩
  have a6 : Held P w K mg base 4 (He.ga K "do_skip") (L3.lsp ⟨K, []⟩ none (L4.pDo K (He.ga K "Life") fun d => ∃ n m, d = .skip n m)) := ⟨_, _, ok6, F_do_skip.kp, b_do_skip⟩
  have hA := L4.deeds_held a1 a2 a3 a4 a5 a6
  have dsA := L4.deedsB_ok (C := (He.ga K "Life")) n4
  obtain ⟨esD, nD, kdD⟩ := c.t.tab 1
  have kdD : KDict K w (He.ga K "DEEDS") esD nD := kdD
  have v_DEEDS : ∃ u, mg "DEEDS" = some u ∧ RelV (.ref (He.ga K "DEEDS")) u := ⟨_, He.glo_ok X G (c.t.d.fact 73 (f := .glo "DEEDS") rfl), rfl⟩
  have c_does_fail : Cal P w K mg base 3 "does_fail" (L3.lsp ⟨K, []⟩ none (L4.pFail K (He.ga K "Life") (He.ga K "Plan"))) [] := ⟨_, _, _, _, ok_does_fail F_does_fail T ZL l0 l4 m_Plan_lock_of, (He.glo_ok X G (c.t.d.fact 18 (f := .glo "does_fail") rfl)), F_does_fail.kp, b_does_fail, .nil⟩
  have c_done_by : Cal P w K mg base 5 "done_by" (L3.lsp ⟨K, []⟩ none (L4.pDoneBy K (He.ga K "Life") (He.ga K "Plan"))) [] := ⟨_, _, _, _, ok_done_by F_done_by T kdD v_DEEDS hA dsA c_does_fail, (He.glo_ok X G (c.t.d.fact 19 (f := .glo "done_by") rfl)), F_done_by.kp, b_done_by, .nil⟩
  have c__law_person : Cal P w K mg base 1 "_law_person" (L4.lsp4 ⟨K, []⟩ L4.pPerson) [] := ⟨_, _, _, _, ok__law_person F__law_person T, (He.glo_ok X G (c.t.d.fact 27 (f := .glo "_law_person") rfl)), F__law_person.kp, b__law_person, .nil⟩
  have c2__law_person : Cal P w K mg base 1 "_law_person" (L4.lsp4 ⟨K, []⟩ L4.pPersonL) [] := ⟨_, _, _, _, ok2__law_person F__law_person T, (He.glo_ok X G (c.t.d.fact 27 (f := .glo "_law_person") rfl)), F__law_person.kp, b__law_person, .nil⟩
  have c__law_joins : Cal P w K mg base 2 "_law_joins" (L4.lsp4 ⟨K, []⟩ L4.pJoins) [] := ⟨_, _, _, _, ok__law_joins F__law_joins T c__law_person, (He.glo_ok X G (c.t.d.fact 28 (f := .glo "_law_joins") rfl)), F__law_joins.kp, b__law_joins, .nil⟩
  have c__law_world : Cal P w K mg base 3 "_law_world" (L4.lsp4 ⟨K, []⟩ L4.pWorld) [] := ⟨_, _, _, _, ok__law_world F__law_world T c__law_joins, (He.glo_ok X G (c.t.d.fact 29 (f := .glo "_law_world") rfl)), F__law_world.kp, b__law_world, .nil⟩
  have c__law_claims : Cal P w K mg base 1 "_law_claims" (L4.lsp4 ⟨K, []⟩ L4.pClaims) [] := ⟨_, _, _, _, ok__law_claims F__law_claims T, (He.glo_ok X G (c.t.d.fact 30 (f := .glo "_law_claims") rfl)), F__law_claims.kp, b__law_claims, .nil⟩
  have c__law_moves : Cal P w K mg base 1 "_law_moves" (L4.lsp4 ⟨K, []⟩ L4.pMoves) [] := ⟨_, _, _, _, ok__law_moves F__law_moves T, (He.glo_ok X G (c.t.d.fact 31 (f := .glo "_law_moves") rfl)), F__law_moves.kp, b__law_moves, .nil⟩
  have c__law_worths : Cal P w K mg base 3 "_law_worths" (L4.lsp4 ⟨K, []⟩ L4.pWorthsB) [] := ⟨_, _, _, _, ok__law_worths F__law_worths T c__law_number x_draw, (He.glo_ok X G (c.t.d.fact 33 (f := .glo "_law_worths") rfl)), F__law_worths.kp, b__law_worths, .nil⟩
  have c__law_plan_of : Cal P w K mg base 7 "_law_plan_of" (L3.lsp ⟨K, []⟩ none (L3.pBuilt (He.ga K "Plan"))) [] := ⟨_, _, _, _, ok__law_plan_of F__law_plan_of T m_Plan, (He.glo_ok X G (c.t.d.fact 32 (f := .glo "_law_plan_of") rfl)), F__law_plan_of.kp, b__law_plan_of, .nil⟩
  have c__law_own_life : Cal P w K mg base 1 "_law_own_life" (L4.lsp4 ⟨K, []⟩ L4.pOwnLife) [] := ⟨_, _, _, _, ok__law_own_life F__law_own_life T, (He.glo_ok X G (c.t.d.fact 34 (f := .glo "_law_own_life") rfl)), F__law_own_life.kp, b__law_own_life, .nil⟩
  have c__law_life_of : Cal P w K mg base 1 "_law_life_of" (L4.lsp4 ⟨K, []⟩ L4.pLifeOf) [] := ⟨_, _, _, _, ok__law_life_of F__law_life_of T, (He.glo_ok X G (c.t.d.fact 35 (f := .glo "_law_life_of") rfl)), F__law_life_of.kp, b__law_life_of, .nil⟩
  have c__law_acts_of : Cal P w K mg base 1 "_law_acts_of" (L3.lsp ⟨K, []⟩ none L4.pActsOf) [] := ⟨_, _, _, _, ok__law_acts_of F__law_acts_of T, (He.glo_ok X G (c.t.d.fact 36 (f := .glo "_law_acts_of") rfl)), F__law_acts_of.kp, b__law_acts_of, .nil⟩
  have c__law_numbers_in : Cal P w K mg base 2 "_law_numbers_in" (L3.lsp ⟨K, []⟩ none L4.pNumbersIn) [] := ⟨_, _, _, _, ok__law_numbers_in F__law_numbers_in T c__law_acts_of, (He.glo_ok X G (c.t.d.fact 37 (f := .glo "_law_numbers_in") rfl)), F__law_numbers_in.kp, b__law_numbers_in, .nil⟩
  have c__law_somebody : Cal P w K mg base 3 "_law_somebody" (L4.lsp4 ⟨K, []⟩ L4.pSomebody) [] := ⟨_, _, _, _, ok__law_somebody F__law_somebody T c2__law_person c__law_numbers_in x_draw c__law_number, (He.glo_ok X G (c.t.d.fact 38 (f := .glo "_law_somebody") rfl)), F__law_somebody.kp, b__law_somebody, .nil⟩
  have c__law_life_made : Cal P w K mg base 3 "_law_life_made" (L4.lsp4 ⟨K, []⟩ (L4.pLifeMade K (He.ga K "Life"))) [] := ⟨_, _, _, _, ok__law_life_made L3.glif_phdc F__law_life_made T m_Life_phdc, (He.glo_ok X G (c.t.d.fact 39 (f := .glo "_law_life_made") rfl)), F__law_life_made.kp, b__law_life_made, .nil⟩
  have c__law_deeds_for : Cal P w K mg base 3 "_law_deeds_for" (L4.lsp4 ⟨K, []⟩ L4.pDeedsFor) [] := ⟨_, _, _, _, ok__law_deeds_for F__law_deeds_for T c__law_acts_of x_draw c__law_number, (He.glo_ok X G (c.t.d.fact 40 (f := .glo "_law_deeds_for") rfl)), F__law_deeds_for.kp, b__law_deeds_for, .nil⟩
  have c__law_due : Cal P w K mg base 2 "_law_due" (L4.lsp4 ⟨K, []⟩ L4.pDue22) [] := ⟨_, _, _, _, ok__law_due F__law_due T c__law_claims c__law_moves c__law_own_life c__law_life_of, (He.glo_ok X G (c.t.d.fact 41 (f := .glo "_law_due") rfl)), F__law_due.kp, b__law_due, .nil⟩
  have c__law_told : Cal P w K mg base 6 "_law_told" (L3.lsp ⟨K, []⟩ none (L4.pTold22 K (He.ga K "Life") (He.ga K "Plan"))) [] := ⟨_, _, _, _, ok__law_told F__law_told T icL v_Life m_Life_key c_done_by, (He.glo_ok X G (c.t.d.fact 42 (f := .glo "_law_told") rfl)), F__law_told.kp, b__law_told, .nil⟩
  have c__law_right : CalG P w K mg base 7 "_law_right" (L4.lsp4 ⟨K, []⟩ (L4.pRight22 (He.ga K "Plan"))) := ⟨_, _, _, ok__law_right F__law_right T sysB c__law_somebody c__law_life_made c__law_deeds_for c__law_due c__law_told c_found_in m_Life_key, (He.glo_ok X G (c.t.d.fact 43 (f := .glo "_law_right") rfl)), F__law_right.kp, b__law_right⟩
  exact L3.fng_imp (ok_law F_law T x_pot x_draw c__law_drawn c__law_world c__law_worths c__law_plan_of e_Plan c__law_right) L3.law_imp0
end K22
open PySem PySem.W PySem.Calls PyProof.Rows
set_option maxRecDepth 100000 in
set_option maxHeartbeats 0 in
theorem PySem.Challenge.cw_turnedback_k22_what_deeds_do_holds : PySem.Challenge.rw_turnedback_k22_what_deeds_do.Holds := by
  w_on; o_law
  refine HandSHeadRun.head_any (r := OpenLaw.row PySem.Challenge.rw_turnedback_k22_what_deeds_do) (q := view (OpenLaw.row PySem.Challenge.rw_turnedback_k22_what_deeds_do).prog [75]) (H := K22.hk) (ob := K22.ob) (M := 6000) (loose := K22.loose) (d := HandSHeadRun.topDef (OpenLaw.row PySem.Challenge.rw_turnedback_k22_what_deeds_do).prog 75) (kwd := []) K22.ob_eq
    (by kernel_rfl) (fun s => by kernel_rfl) K22.run (by kernel_rfl) (by kernel_rfl) (by kernel_rfl) (by rfl) (by first | assumption | decide +kernel) (by decide +kernel) ⟨rfl, rfl, rfl, rfl, rfl, by decide +kernel⟩ ?hw ?hc
  case hw => w_witness2
  case hc =>
    refine TB.walk_ofG (l := PySem.Challenge.rw_turnedback_k22_what_deeds_do) (n := 63) (k := 8) (x := "_law_script") (CX := L2.CX0) rfl (by decide) (by kernel_rfl) ⟨rfl, by decide, by decide⟩ ?F (fun _ _ _ _ z => z)
    intro w mg fa h Y G hmg0
    obtain ⟨K, KX, c⟩ := Y
    have hmg : mg ("law" : PySem.Str) = some (.ref fa) := by
      have e : (HandSHeadRun.topDef (OpenLaw.row PySem.Challenge.rw_turnedback_k22_what_deeds_do).prog 75).name = ("law" : PySem.Str) := by kernel_rfl
      rw [← e]
      exact hmg0
    obtain ⟨fd, hb, hF⟩ := K22.facts (P := (PySem.Challenge.rw_turnedback_k22_what_deeds_do).prog) (w := w) KX G hmg c
    exact ⟨K, fd, L3.spLaw0 K, KX, hb, fun H a ns hl hO hS => ⟨a, ns, rfl, hS, hl, TB.only_noT hO, fun _ => rfl⟩, hF⟩
