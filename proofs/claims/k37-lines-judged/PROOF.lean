import PyProof.Rows.All
import Wide.All
import OpenK.AllK
import Wide.FinOn
import KE.KStateDown
import HandS.ForMost
import HandS.Exc
import HandS.TryOnly
import HandS.ExcOwn
import HandS.WordsExc
import HandS.Codes
import HandS.Defaults
import HandS.MakeKwOnly
import HandS.Deep
import HandS.Flow
import HandS.Style
import HandS.IsInst
import HandS.FStr
import HandS.TupAny
import HandS.Wide
import HandS.WideBits
import HandS.Conv
import HandS.Head0
import HandS.Head1
import HandS.Head2
import HandS.HeadEnd
import HandS.HeadHook1
import HandS.HeadHook2
import HandS.Evl
import PyProof.Rows.StrRev
import HandS.SortKw
import HandS.Nested
import PyProof.TupleOfSeq
import HandS.EndTab
import HandS.HeadHook4
import HandS.Strs
import HandS.NoneIn
import HandS.SortInts
import KE.GoesMore
import PyProof.InstNe
import PyProof.NeKinds
import HandS.OwnEq
import PyProof.SetScanFacts
import HandS.Head4
import KE.DataMinMax
import KE.SortData
import HandS.Iter
import KE.KDictZip
import PyProof.ListNew
import HandS.ExcInit
import HandS.ExcField
import HandS.ExcIs
import KE.KExcInit
import HandS.RevRange
import KE.KExcIs
import HandS.Dict
import PyProof.P3In
import HandS.More
import HandS.HeadWalk
import HandS.Head4
import PySem.Challenge.RW_turnedback_k37_lines_judged
set_option Elab.async false
set_option linter.all false
set_option maxRecDepth 100000
set_option maxHeartbeats 4000000
/-! A layer of my own over the hand layer: what a call may forget, the pot of draws as a hidden thing. -/
namespace TB
open PySem PySem.Spec PyProof.Rows L2

/-! ### leaving things behind at a call's end -/
/-- no dict with tuple keys in u -/
def noT : HO → Prop
  | .dT _ => False
  | .frz _ u => noT u
  | _ => True
def NoT (H : Hp) : Prop := ∀ a o, H a = some o → noT o
theorem NoT.upd {H : Hp} {p : Addr} {o : HO} (h : NoT H) (ho : noT o) : NoT (upd H p o) := fun a u e => by
  by_cases q : a = p
  · subst q
    rw [upd_same] at e
    cases e
    exact ho
  · rw [upd_ne q] at e
    exact h a u e
/-- what u at a leans on stands in H -/
def leans (H : Hp) (a : Addr) : HO → Prop
  | .ins _ dx _ => H dx = some (.own a)
  | .frz _ u => leans H a u
  | _ => True
theorem leans_of {P : Program} {w : World} {H : Hp} {h : Heap} {a : Addr} : ∀ (o : HO), ObjOk P w H h a o → leans H a o
  | .lst _, _ => trivial
  | .tup _, _ => trivial
  | .dK _, _ => trivial
  | .dT _, _ => trivial
  | .set _ _, _ => trivial
  | .ins _ _ _, x => x.1
  | .own _, _ => trivial
  | .xd _, _ => trivial
  | .rng _ _, _ => trivial
  | .frz _ u, x => leans_of u x.2
  | .tbl _, _ => trivial
  | .met _ _, _ => trivial
  | .ext _, _ => trivial
theorem ok_leans {P : Program} {w : World} {H H' : Hp} {h : Heap} {a : Addr} : ∀ (o : HO), ObjOk P w H h a o → noT o → leans H' a o → ObjOk P w H' h a o
  | .lst _, x, _, _ => x
  | .tup _, x, _, _ => x
  | .dK _, x, _, _ => x
  | .dT _, _, n, _ => n.elim
  | .set _ _, x, _, _ => x
  | .ins _ _ _, x, _, l => ⟨l, x.2⟩
  | .own _, x, _, _ => x
  | .xd _, x, _, _ => x
  | .rng _ _, x, _, _ => x
  | .frz _ u, x, n, l => ⟨x.1, ok_leans u x.2 n l⟩
  | .tbl _, x, _, _ => x
  | .met _ _, x, _, _ => x
  | .ext _, x, _, _ => x
/-- H'' is what is still told of H' behind a call that began with H: no more than H' tells, all that H told of, and what those lean on -/
structure Fg (H H' H'' : Hp) : Prop where
  sub : ∀ b o, H'' b = some o → H' b = some o
  old : ∀ b o o', H b = some o → H' b = some o' → H'' b = some o'
  lean : ∀ a o, H'' a = some o → H a = none → leans H'' a o
  same : ∀ a o, H a = some o → leans H a o → ∀ o', H'' a = some o' → leans H'' a o'
  nt : NoT H''
theorem hok_fg {P : Program} {w : World} {H H' H'' : Hp} {h h' : Heap} (k0 : HOk P w H h) (k : HOk P w H' h') (f : Fg H H' H'') : HOk P w H'' h' := by
  intro a o e
  refine ok_leans o (k a o (f.sub a o e)) (f.nt a o e) ?_
  cases q : H a with
  | none => exact f.lean a o e q
  | some u => exact f.same a u q (leans_of u (k0 a u q)) o e
theorem un_fg {fs ex : List Addr} {H H' H'' : Hp} {h h' : Heap} (u : Un fs ex H H' h h') (f : Fg H H' H'') : Un fs ex H H'' h h' where
  keep := u.keep
  slot := u.slot
  free := fun b o e n hx => by
    have z := u.free b o e n hx
    cases q : H'' b with
    | none => rfl
    | some v =>
      rw [f.sub b v q] at z
      cases z
  there := u.there
  tups := fun b xs e => f.old b _ _ e (u.tups b xs e)
  frzs := fun b o v e => f.old b _ _ e (u.frzs b o v e)
  tbls := fun b ps e => by
    obtain ⟨m, e2⟩ := u.tbls b ps e
    exact ⟨m, f.old b _ _ e e2⟩
/-- nothing new is told -/
theorem Fg.back {H H' : Hp} (s : Same H H') (n : NoT H) : Fg H H' H := by
  refine ⟨s, fun b o o' e e' => ?_, fun a o e z => ?_, fun a o e l o' e' => ?_, n⟩
  · rw [s b o e] at e'
    cases e'
    exact e
  · rw [e] at z
    cases z
  · rw [e] at e'
    cases e'
    exact l
/-- one new thing that leans on nothing -/
theorem Fg.one {H H' : Hp} {p : Addr} {o : HO} (s : Same H H') (n : NoT H) (hp : H p = none) (e : H' p = some o) (no : noT o) (lo : ∀ H, leans H p o) : Fg H H' (upd H p o) := by
  have lk : ∀ (a : Addr) (u : HO), leans H a u → leans (upd H p o) a u := by
    intro a u
    induction u with
    | ins C dx fs =>
      intro l
      have l2 : H dx = some (.own a) := l
      show upd H p o dx = some (.own a)
      rw [upd_ne (ne_of_none l2 hp)]
      exact l2
    | frz ob v ih => exact fun l => ih l
    | _ => exact fun _ => trivial
  refine ⟨fun b u q => ?_, fun b u u' q q' => ?_, fun a u q z => ?_, fun a u q l u' q' => ?_, n.upd no⟩
  · by_cases hb : b = p
    · subst hb
      rw [upd_same] at q
      cases q
      exact e
    · rw [upd_ne hb] at q
      exact s b u q
  · have hb : b ≠ p := ne_of_none q hp
    rw [upd_ne hb, ← q', s b u q]
    exact q
  · by_cases hb : a = p
    · subst hb
      rw [upd_same] at q
      cases q
      exact lo _
    · rw [upd_ne hb, z] at q
      cases q
  · have hb : a ≠ p := ne_of_none q hp
    rw [upd_ne hb, q] at q'
    cases q'
    exact lk a u l
section
variable {P : Program} {w : World} {K : PySem.W.Frag} {mg : Str → Option Value} {base : Heap} {CX : CXT} {k : Nat} {f : Addr} {fd : FuncData} {ps : List Str} {sp sp' : Sp}
/-- a promise whose end forgets -/
theorem fn_fg (F : FnOk P w K mg base CX k f fd ps sp) (h : ∀ vs H Q E, sp' vs H Q E → sp vs H (fun v H' => ∃ H'', Fg H H' H'' ∧ Q v H'') E) : FnOk P w K mg base CX k f fd ps sp' := by
  refine ⟨fun vs H Q E q => F.len _ _ _ _ (h vs H Q E q), fun A outer s H args us vs Q E hr he hb hv hs => ?_⟩
  refine codeAny_mono (F.run A outer s H args us vs _ E hr he hb hv (h vs H Q E hs)) fun r s' c => ?_
  match r, c with
  | .ok (.ret u), ⟨v, H', os, bare, un, hok, rv, H'', fg, q⟩ => exact ⟨v, H'', os, bare, un_fg un fg, hok_fg he.hok hok fg, rv, q⟩
  | .error e, c => exact c
end

/-! ### the pot: two numbers that nobody tells -/
def potP (p : Addr) (h : Heap) : Prop := ∃ (a b : Int) (t u : Tok) (n : Nat), h.get? p = some { cls := .type "list", data := .seq #[.int a t, .int b u] n } ∧ 0 ≤ a ∧ 0 ≤ b ∧ b < 2147483647
/-- a pot stands at p -/
def PotO (p : Addr) : HO := .ext (potP p)
theorem pot_stay (p : Addr) : ∀ h1 h2 : Heap, potP p h1 → (∀ o, h1.get? p = some o → h2.get? p = some o) → potP p h2 := by
  rintro h1 h2 ⟨a, b, t, u, n, e, r⟩ k
  exact ⟨a, b, t, u, n, k _ e, r⟩
theorem pot_ok {P : Program} {w : World} {H H' : Hp} {h : Heap} {p : Addr} {a b : Int} (x : ObjOk P w H h p (.lst [.int a, .int b])) (ha : 0 ≤ a) (hb : 0 ≤ b) (hb2 : b < 2147483647) : ObjOk P w H' h p (PotO p) := by
  obtain ⟨_, its, n, r, e⟩ := x
  cases r with
  | cons r1 r2 => cases r2 with
    | cons r2 r3 => cases r3 with
      | nil =>
        obtain ⟨t, rfl⟩ := r1
        obtain ⟨u, rfl⟩ := r2
        exact ⟨⟨a, b, t, u, n, e, ha, hb, hb2⟩, ⟨_, e⟩, pot_stay p⟩
theorem pot_open {P : Program} {w : World} {H : Hp} {h : Heap} {p : Addr} (x : ObjOk P w H h p (PotO p)) : ∃ a b : Int, 0 ≤ a ∧ 0 ≤ b ∧ b < 2147483647 ∧ ∀ H' : Hp, ObjOk P w H' h p (.lst [.int a, .int b]) := by
  obtain ⟨⟨a, b, t, u, n, e, ha, hb, hb2⟩, _, _⟩ := x
  exact ⟨a, b, ha, hb, hb2, fun _ => ⟨(by show 2 ≤ sizeLine; decide), _, n, .cons ⟨t, rfl⟩ (.cons ⟨u, rfl⟩ .nil), e⟩⟩
theorem pot_hok {P : Program} {w : World} {H : Hp} {h : Heap} {p : Addr} {o o' : HO} (k : HOk P w H h) (e : H p = some o) (m : Mut (some o)) (x : ObjOk P w (upd H p o') h p o') : HOk P w (upd H p o') h := by
  intro b u q
  by_cases hb : b = p
  · subst hb
    rw [upd_same] at q
    cases q
    exact x
  · rw [upd_ne hb] at q
    refine (k b u q).stay (fun _ _ _ z => z) (fun c z => ?_) (fun c xs z => ?_)
    · rw [upd_ne (ne_of z e (fun y => by rw [← y] at m; exact m))]
      exact z
    · rw [upd_ne (ne_of z e (fun y => by rw [← y] at m; exact m))]
      exact z
section
variable {P : Program} {w : World} {K : PySem.W.Frag} {mg : Str → Option Value} {base : Heap} {k : Nat} {f : Addr} {fd : FuncData} {ps : List Str} {sp sp' : Sp}
/-- a def that turns a pot, told of a pot that nobody looks into -/
theorem fn_pot (F : FnOk P w K mg base CX0 k f fd ps sp)
    (h : ∀ vs H Q E, sp' vs H Q E → ∃ p, H p = some (PotO p) ∧ ∀ a b : Int, 0 ≤ a → 0 ≤ b → b < 2147483647 →
      sp vs (upd H p (.lst [.int a, .int b])) (fun v H' => ∃ a' b' : Int, 0 ≤ a' ∧ 0 ≤ b' ∧ b' < 2147483647 ∧ H' p = some (.lst [.int a', .int b']) ∧ ∃ H'', Fg H (upd H' p (PotO p)) H'' ∧ Q v H'') E) : FnOk P w K mg base CX0 k f fd ps sp' := by
  refine ⟨fun vs H Q E q => ?_, fun A outer s H args us vs Q E hr he hb hv hs => ?_⟩
  · obtain ⟨p, _, z⟩ := h vs H Q E q
    exact F.len _ _ _ _ (z 0 0 (by decide) (by decide) (by decide))
  · obtain ⟨p, hp, z⟩ := h vs H Q E hs
    obtain ⟨a, b, ha, hb0, hb1, ok⟩ := pot_open (he.hok p _ hp)
    have ok1 : HOk P w (upd H p (.lst [.int a, .int b])) s.heap := pot_hok he.hok hp trivial (ok _)
    have ne : ∀ c, H c = none → c ≠ p := fun c q z => by
      rw [z, hp] at q
      cases q
    have e1 : Env0 P w K mg base A outer s (upd H p (.lst [.int a, .int b])) := ⟨he.frames, he.mod, fun c o q => ⟨(he.bs c o q).1, by rw [upd_ne (ne c (he.bs c o q).2)]; exact (he.bs c o q).2⟩, he.bsz, he.funs, fun c q => by rw [upd_ne (ne c (he.frf c q))]; exact he.frf c q, ok1, he.bare⟩
    refine codeAny_mono (F.run A outer s _ args us vs _ E hr e1 hb hv (z a b ha hb0 hb1)) fun r s' c => ?_
    match r, c with
    | .ok (.ret u), ⟨v, H', os, bare, un, hok, rv, a', b', ha', hb', hb2', ep, H'', fg, q⟩ =>
      have hok2 : HOk P w (upd H' p (PotO p)) s'.heap := pot_hok hok ep trivial (pot_ok (hok p _ ep) ha' hb' hb2')
      have np : ∀ c o, H c = some o → o ≠ PotO p → c ≠ p := fun c o q n z => by
        rw [z, hp] at q
        cases q
        exact n rfl
      have un2 : Un (frs outer) [] H (upd H' p (PotO p)) s.heap s'.heap := by
        refine ⟨fun c o q n h1 h2 => un.keep c o q (by rw [upd_ne (ne c n)]; exact n) h1 h2, fun c o q n h1 h2 => un.slot c o q (by rw [upd_ne (ne c n)]; exact n) h1 h2, fun c o q n h2 => ?_, un.there, fun c xs q => ?_, fun c o v q => ?_, fun c qs q => ?_⟩
        · rw [upd_ne (ne c n)]
          exact un.free c o q (by rw [upd_ne (ne c n)]; exact n) h2
        · have nc := np c _ q (by intro z; cases z)
          rw [upd_ne nc]
          exact un.tups c xs (by rw [upd_ne nc]; exact q)
        · have nc := np c _ q (by intro z; cases z)
          rw [upd_ne nc]
          exact un.frzs c o v (by rw [upd_ne nc]; exact q)
        · have nc := np c _ q (by intro z; cases z)
          rw [upd_ne nc]
          exact un.tbls c qs (by rw [upd_ne nc]; exact q)
      exact ⟨v, H'', os, bare, un_fg un2 fg, hok_fg he.hok hok2 fg, rv, q⟩
/-- a def that makes a pot -/
theorem fn_mkpot (F : FnOk P w K mg base CX0 k f fd ps sp)
    (h : ∀ vs H Q E, sp' vs H Q E → sp vs H (fun v H' => ∃ (p : Addr) (a b : Int), 0 ≤ a ∧ 0 ≤ b ∧ b < 2147483647 ∧ H p = none ∧ H' p = some (.lst [.int a, .int b]) ∧ ∃ H'', Fg H (upd H' p (PotO p)) H'' ∧ Q v H'') E) : FnOk P w K mg base CX0 k f fd ps sp' := by
  refine ⟨fun vs H Q E q => F.len _ _ _ _ (h vs H Q E q), fun A outer s H args us vs Q E hr he hb hv hs => ?_⟩
  refine codeAny_mono (F.run A outer s _ args us vs _ E hr he hb hv (h vs H Q E hs)) fun r s' c => ?_
  match r, c with
  | .ok (.ret u), ⟨v, H', os, bare, un, hok, rv, p, a', b', ha', hb', hb2', np, ep, H'', fg, q⟩ =>
    have hok2 : HOk P w (upd H' p (PotO p)) s'.heap := pot_hok hok ep trivial (pot_ok (hok p _ ep) ha' hb' hb2')
    have un2 : Un (frs outer) [] H (upd H' p (PotO p)) s.heap s'.heap := by
      refine ⟨un.keep, un.slot, fun c o q n h2 => ?_, un.there, fun c xs q => ?_, fun c o v q => ?_, fun c qs q => ?_⟩
      · have z := un.free c o q n h2
        have nc : c ≠ p := fun y => by
          rw [y, ep] at z
          cases z
        rw [upd_ne nc]
        exact z
      · rw [upd_ne (ne_of_none q np)]
        exact un.tups c xs q
      · rw [upd_ne (ne_of_none q np)]
        exact un.frzs c o v q
      · rw [upd_ne (ne_of_none q np)]
        exact un.tbls c qs q
    exact ⟨v, H'', os, bare, un_fg un2 fg, hok_fg he.hok hok2 fg, rv, q⟩
end
end TB
/-! Promises that hold where nothing on the stack is being shown (repr needs that). -/
namespace TB
open PySem PySem.Spec PyProof.Rows L2
/-- as FnOk, of calls where no guard lies below -/
structure FnG (P : Program) (w : World) (K : PySem.W.Frag) (mg : Str → Option Value) (base : Heap) (CX : CXT) (k : Nat) (f : Addr) (fd : FuncData) (ps : List Str) (sp : Sp) : Prop where
  lenG : ∀ vs H Q E, sp vs H Q E → vs.length = ps.length
  runG : ∀ (A : Around) (outer : List Env) (s : Shared) (H : Hp) (args : Args) (us : List Value) (vs : List V) (Q : VK) (E : XK), A.guards = some [] → Room k A → Env0 P w K mg base A outer s H → BindsTo s fd args (ps.zip us) → Vals vs us →
    sp vs H Q E → codeAny (model P w) A (.call (.ref f) args) (CR CX outer P w H s Q E) s
section
variable {P : Program} {w : World} {K : PySem.W.Frag} {mg : Str → Option Value} {base : Heap} {CX : CXT} {k : Nat} {f : Addr} {fd : FuncData} {ps : List Str} {sp sp' : Sp}
theorem FnG.of (F : FnOk P w K mg base CX k f fd ps sp) : FnG P w K mg base CX k f fd ps sp :=
  ⟨F.len, fun A outer s H args us vs Q E _ hr he hb hv hs => F.run A outer s H args us vs Q E hr he hb hv hs⟩
theorem fg_fg (F : FnG P w K mg base CX k f fd ps sp) (h : ∀ vs H Q E, sp' vs H Q E → sp vs H (fun v H' => ∃ H'', Fg H H' H'' ∧ Q v H'') E) : FnG P w K mg base CX k f fd ps sp' := by
  refine ⟨fun vs H Q E q => F.lenG _ _ _ _ (h vs H Q E q), fun A outer s H args us vs Q E g hr he hb hv hs => ?_⟩
  refine codeAny_mono (F.runG A outer s H args us vs _ E g hr he hb hv (h vs H Q E hs)) fun r s' c => ?_
  match r, c with
  | .ok (.ret u), ⟨v, H', os, bare, un, hok, rv, H'', fg, q⟩ => exact ⟨v, H'', os, bare, un_fg un fg, hok_fg he.hok hok fg, rv, q⟩
  | .error e, c => exact c
/-- a def of the text, by its body, where no guard lies below -/
theorem fng_of {x qual : Str} {params : Arguments} {body : List Stmt} {scope : Scope} {dvs : List V} {kws : List (Str × V)} {N : List Str}
    (F : FunD K x qual params body scope dvs kws f fd) (S : FnScope N ps scope) (len : ∀ vs H Q E, sp vs H Q E → vs.length = ps.length)
    (hbody : ∀ (cdv : Value) (A : Around) (outer : List Env) (s : Shared) (H : Hp) (vs : List V) (Q : VK) (E : XK), A.guards = some [] →
      Room k (A.deeper (envOfC qual scope s.heap.objs.size f cdv)) → sp vs H Q E →
      ∃ t, PSs (cxOf CX P w K mg base N qual scope f cdv A outer s H E) body t ∧ t { nx := fun _ H' => Q .non H', rt := Q } (start N vs) H) :
    FnG P w K mg base CX (k + 1) f fd ps sp := by
  obtain ⟨oc, od, dV, kV, doc, pm, an, cdv, ct, osl, rfl, lk, hcd, _, _⟩ := F.ex
  refine ⟨len, ?_⟩
  intro A outer s H args us vs Q E g hr e0 hb rv hsp
  have hl := len _ _ _ _ hsp
  have kx : K.In s.heap := e0.mod.kin.keeps (fun b o e => And.left (e0.bs b o e))
  have nl : s.heap.NoLimit := e0.mod.nolimit.keeps (fun b o e => And.left (e0.bs b o e))
  obtain ⟨t, ht, hq⟩ := hbody cdv A outer s H vs Q E g (hr.deeper _) hsp
  refine codeAny_call_function hr.depth (kx _ _ lk) rfl S.co S.gen rfl (PySem.W.codeRec_of kx hcd) (hb _ _ _ _ (wpAny_newFunctionEnv_cells S.kind ?_ ?_))
  · rintro ⟨n, v⟩ hy
    rcases S.par n (List.of_mem_zip hy).1 with z | z
    · exact Or.inl z
    · exact Or.inr ⟨z, PySem.W.cellsFrom_some _ _ _ (Or.inl z)⟩
  · rintro env rfl s1 x
    refine ⟨nl.keeps x.toInCall.keep, codeAny_func ?_⟩
    refine wpAny_mono (ht.run [] s1 (start N vs) H _ (inv_start S hr.hd e0 hl rv x) hq) ?_ (fun _ _ z => z)
    rintro (_ | _ | _ | u) s' hs
    · obtain ⟨σ', H', J, q⟩ := hs
      exact ⟨V.non, H', J.os, J.bare, J.base, J.hok, rfl, q⟩
    · exact (hs.elim fun _ z => z.elim fun _ z => z.2.elim)
    · exact (hs.elim fun _ z => z.elim fun _ z => z.2.elim)
    · obtain ⟨v, σ', H', J, r2, q⟩ := hs
      exact ⟨v, H', J.os, J.bare, J.base, J.hok, r2, q⟩
/-- a def by its name, with FnG's promise -/
structure CalG (P : Program) (w : World) (K : PySem.W.Frag) (mg : Str → Option Value) (base : Heap) (k : Nat) (x : Str) (sp : Sp) : Prop where
  gex : ∃ (f : Addr) (fd : FuncData) (ps : List Str), FnG P w K mg base CX0 k f fd ps sp ∧ mg x = some (.ref f) ∧ PySem.W.keepIn K (.ref f) = true ∧ Binds K fd ps []
theorem deeper_guards (A : Around) (env : Env) : (A.deeper env).guards = A.guards := rfl
end
section
variable {X : Cx} {k j : Nat} {x : Str} {sp : Sp} {p pos : Pos} {e : Expr} {es : List Expr} {t : TA}
theorem run_fng {f : Addr} {fd : FuncData} {ps : List Str} {CX : CXT} {E : XK} {pins : List (Addr × Obj)} {σ : L2.St} {H : Hp} {s : Shared} {Q : VK} {us : List Value} {vs : List V}
    (F : FnG X.prog X.w X.K X.mg X.base CX k f fd ps sp) (g : X.A.guards = some []) (hr : Room k X.A) (hb : Binds X.K fd ps []) (hx : Passes CX X E) (I : Inv X pins σ H s) (rv : Vals vs us) (h : sp vs H Q E) :
    wpAny (model X.prog X.w) X.A (call (.ref f) us) (EP X pins σ Q) X.xe s := by
  have hl : (us ++ []).length = ps.length := by
    rw [List.append_nil, ← rv.length]
    exact F.lenG _ _ _ _ h
  have hb2 := hb s us I.kIn hl
  rw [List.append_nil] at hb2
  refine wpAny_call (codeAny_mono (F.runG X.A X.stack s H ⟨us, []⟩ us vs Q E g hr I.env0 hb2 rv h) ?_)
  rintro (er | (_ | _ | _ | u)) s' hq
  · exact hx pins σ H s er s' I hq
  · exact hq.elim
  · exact hq.elim
  · exact hq.elim
  · exact I.after hq
theorem pe_cG (c : CalG X.prog X.w X.K X.mg X.base k x sp) (g : X.A.guards = some []) (hr : Room j X.A) (hk : k ≤ j) (hg : Gl X x) (ha : PA X (e :: es) t)
    (hdb : (x == ("__debug__" : Str)) = false := by decide) (he : starEach (e :: es) X.env = (false, eval e X.env) :: starEach es X.env := by rfl)
    (hpl : (backTo pos (starEach es X.env)).any (·.1) = false := by rfl) : PE X (.Call (.Name x p) (e :: es) [] pos) (tCall sp [] E0 t) := by
  obtain ⟨f, fd, ps, F, hm, kp, b⟩ := c.gex
  constructor
  intro pins s σ H Q I h
  refine wpAny_Call_Name_kw (ld_glob I hg hm ?_ hdb)
  refine PySem.W.callWith_K (h₀ := X.base) I.ok.mod.kin kp ?_ he hpl
  refine thn (ha.run pos pins s σ H _ I h) ?_
  rintro us s1 ⟨vs, H1, I1, r, q⟩
  refine ⟨I1.kIn, run_fng F g (hr.mono hk) b pass0 I1 r ?_⟩
  have q2 : sp (vs ++ []) H1 Q E0 := q
  rw [List.append_nil] at q2
  exact q2
end
/-! ### the end -/
theorem law_callG {P : Program} {w : World} {K : PySem.W.Frag} {mg mb : Str → Option Value} {CX : CXT} {k : Nat} {fa a : Addr} {fd : FuncData} {x : Str} {sp : Sp} {s₁ : Shared} {vs : List Value} {ns : List Int}
    (KX : K.In s₁.heap) (hns : s₁.heap.Ns mainGlobals mg) (hb : s₁.heap.Ns builtinsNs mb) (hbb : ∀ y : Str, y ≠ "__name__" → mb y = bootBuiltins y) (hlim : s₁.heap.NoLimit) (hg : s₁.gens = #[])
    (ha : s₁.heap.get? a = some { cls := .type "list", data := .seq vs.toArray }) (hi : IntsAre vs ns) (hl : ns.length ≤ sizeLine) (hr : Room k callerA)
    (F : ∀ base : Heap, K.In base → base.Ns mainGlobals mg → FnG P w K mg base CX k fa fd [x] sp) (hbind : ∀ (s : Shared) (u : Value), BindsTo s fd ⟨[u], []⟩ [(x, u)])
    (hsp : ∀ H : Hp, Only H → SqL K H a (ns.map V.int) → sp [.ref a] H (fun v _ => v = .bl true) (fun _ _ _ => False)) (hCX : ∀ H e s', CX [] H s₁ (fun _ _ _ => False) e s' → False) :
    codeAny (model P w) callerA (.call (.ref fa) ⟨[.ref a], []⟩) (fun r s' => r = .ok (.ret (.bool true)) ∧ OldK s₁.heap s'.heap ∧ s'.os = s₁.os ∧ AllBare s'.gens) s₁ := by
  have lenV := hi.length
  suffices core : ∀ H : Hp, Only H → SqL K H a (ns.map V.int) → HOk P w H s₁.heap → (∀ b, H b ≠ none → b = a) → (H a ≠ none → K.lookup a = none) →
      codeAny (model P w) callerA (.call (.ref fa) ⟨[.ref a], []⟩) (fun r s' => r = .ok (.ret (.bool true)) ∧ OldK s₁.heap s'.heap ∧ s'.os = s₁.os ∧ AllBare s'.gens) s₁ by
    cases hk : K.lookup a with
    | some o =>
      have e := (KX a o hk).symm.trans ha
      cases e
      refine core (fun _ => none) (fun _ => Or.inl rfl) (Or.inr ⟨_, vs.toArray, _, hk, rfl, rfl, rfl, ?_, ?_⟩) (fun b u z => ?_) (fun b z => absurd rfl z) (fun z => absurd rfl z)
      · rw [List.size_toArray, lenV]
        exact hl
      · rw [List.toList_toArray]
        exact vals_ints hi
      · exact nomatch (show (none : Option HO) = some u from z)
    | none =>
      let H0 : Hp := upd (fun _ => none) a (.frz { cls := .type "list", data := .seq vs.toArray } (.lst (ns.map V.int)))
      have at_ : ∀ b u, H0 b = some u → b = a ∧ u = .frz { cls := .type "list", data := .seq vs.toArray } (.lst (ns.map V.int)) := by
        intro b u z
        by_cases q : b = a
        · subst q
          have z2 : upd (fun _ => none) b (.frz { cls := .type "list", data := .seq vs.toArray } (.lst (ns.map V.int))) b = some u := z
          rw [upd_same] at z2
          exact ⟨rfl, (Option.some.inj z2).symm⟩
        · have z2 : upd (fun _ => none) a (.frz { cls := .type "list", data := .seq vs.toArray } (.lst (ns.map V.int))) b = some u := z
          rw [upd_ne q] at z2
          exact nomatch z2
      refine core H0 (fun b => ?_) (Or.inl (Or.inr ⟨_, upd_same⟩)) (fun b u z => ?_) (fun b z => ?_) (fun _ => hk)
      · cases q : H0 b with
        | none => exact Or.inl rfl
        | some u => exact Or.inr ⟨_, _, congrArg some (at_ b u q).2⟩
      · obtain ⟨rfl, rfl⟩ := at_ b u z
        refine ⟨ha, ?_, vs, _, vals_ints hi, ha⟩
        rw [List.length_map]
        exact hl
      · cases q : H0 b with
        | none => exact absurd q z
        | some u => exact (at_ b u q).1
  intro H hO hS hok hA hK
  have seqd : ∀ {b : Addr} {o : Obj} {es : Array DictEntry} {ep : Nat}, s₁.heap.get? b = some o → o.data = .dict es ep → H b = none := by
    intro b o es ep e d
    cases q : H b with
    | none => rfl
    | some u =>
      have z : b = a := hA b (by rw [q]; exact Option.some_ne_none u)
      rw [z, ha] at e
      cases e
      exact nomatch d
  have nsK : ∀ {b : Addr} {m : Str → Option Value}, s₁.heap.Ns b m → (hidT s₁.heap H).Ns b m := by
    rintro b m ⟨o, es, ep, e, d, r⟩
    exact ⟨o, es, ep, hidT_get e (seqd e d), d, r⟩
  have hKb : K.In (hidT s₁.heap H) := by
    intro b o e
    refine hidT_get (KX b o e) ?_
    cases q : H b with
    | none => rfl
    | some u =>
      have z : b = a := hA b (by rw [q]; exact Option.some_ne_none u)
      subst z
      rw [hK (by rw [q]; exact Option.some_ne_none u)] at e
      exact nomatch e
  obtain ⟨mc, h1, h2⟩ := hlim
  have hM : Mod K mg (hidT s₁.heap H) := ⟨hKb, nsK hns, ⟨mb, nsK hb, hbb⟩, ⟨mc, nsK h1, h2⟩⟩
  have e0 : Env0 P w K mg (hidT s₁.heap H) callerA [] s₁ H :=
    ⟨rfl, hM, fun b o e => of_hidT e, Nat.le_of_eq (hidT_size _ _), trivial, fun b z => (nomatch (show b ∈ ([] : List Addr) from z)), hok, .of_eq hg⟩
  refine codeAny_mono ((F _ hKb (nsK hns)).runG callerA [] s₁ H ⟨[.ref a], []⟩ [.ref a] [.ref a] _ _ rfl hr e0 (hbind s₁ (.ref a)) (.cons rfl .nil) (hsp H hO hS)) ?_
  rintro (er | (_ | _ | _ | u)) s' h
  · exact (hCX H er s' h).elim
  · exact h.elim
  · exact h.elim
  · exact h.elim
  · obtain ⟨v, H', os, bare, un, hok', r', q⟩ := h
    obtain rfl : v = .bl true := q
    obtain rfl : u = Value.bool true := r'
    refine ⟨rfl, OldK.of_keep ?_, os, bare⟩
    intro b o e
    cases q : H b with
    | none => exact un.keep b o e q (fun z => nomatch (show b ∈ ([] : List Addr) from z)) (fun z => nomatch z)
    | some y =>
      rcases hO b with z | ⟨ob, xs, z⟩
      · exact nomatch (q.symm.trans z)
      · have e1 := (hok b _ z).1
        have e2 := (hok' b _ (un.frzs b ob _ z)).1
        rw [e] at e1
        cases e1
        exact e2
theorem walk_ofG {l : PySem.W.OpenLaw} {n k : Nat} {q : Program} {loose : List Str} {XP : (Str → Option Value) → Heap → Prop} {YP : World → Heap → Prop} {d : DefRec} {CX : CXT} {x : Str}
    (hn : l.most = some n) (hn2 : n ≤ sizeLine) (hdf : d.params.defaults = []) (hr : Room k callerA)
    (F : ∀ (w : World) (mg : Str → Option Value) (fa : Addr) (h : Heap), YP w h → h.Ns mainGlobals mg → mg d.name = some (.ref fa) →
      ∃ (K : PySem.W.Frag) (fd : FuncData) (sp : Sp), K.In h ∧ (∀ (s : Shared) (u : Value), BindsTo s fd ⟨[u], []⟩ [(x, u)]) ∧
        (∀ (H : Hp) (a : Addr) (ns : List Int), ns.length ≤ n → Only H → SqL K H a (ns.map V.int) → sp [.ref a] H (fun v _ => v = .bl true) (fun _ _ _ => False)) ∧
        ∀ base : Heap, K.In base → base.Ns mainGlobals mg → FnG l.prog w K mg base CX k fa fd [x] sp)
    (hCX : ∀ (H : Hp) (s : Shared) (e : Value) (s' : Shared), CX [] H s (fun _ _ _ => False) e s' → False) :
    PySem.W.WalkO q loose XP YP l.row.toRowW d [] (fun f vs => PySem.call f vs) := by
  refine Att.attach_call hn hdf ?_
  intro w s₀ s₁ mg mb fa o pm cd doc a vs ns G Y ho hd hcd hmg hobj hints hlen hg
  obtain ⟨K, fd, sp, kx, hb, hsp, hF⟩ := F w mg fa _ Y G.T.g hmg
  exact law_callG kx G.T.g G.T.b G.T.builtins G.T.nolimit hg hobj hints (Nat.le_trans hlen hn2) hr hF hb (fun H hO hS => hsp H a ns hlen hO hS) (fun H e s' => hCX H s₁ e s')
end TB
/-! Steps of readings, rules of my own (divmod of great numbers, repr of data, a text from its end), loops. -/
namespace TB
open PySem PySem.Spec PyProof.Rows L2
/-! ### one step of a reading -/
section
variable {σ : L2.St} {H : Hp} {D : Ends} {Q : VK} {QT : Bool → Hp → Prop} {QA : List V → Hp → Prop} {t u : TS} {te ta tb : TE} {tc td : TT} {tl : TA} {g : TG} {i : Nat} {v x y : V}
theorem st_par {j : Nat} (h : tl σ H fun vs H1 => ∃ v w, vs = [v, w] ∧ D.nx ((σ.set i (some v)).set j (some w)) H1) : tPar i j tl D σ H := h
theorem st_seq (h : t { D with nx := u D } σ H) : tSeq t u D σ H := h
theorem st_next (h : D.nx σ H) : tNext D σ H := h
theorem st_drop (h : te σ H fun _ H1 => D.nx σ H1) : tDrop te D σ H := h
theorem st_ret (h : te σ H D.rt) : tRet te D σ H := h
theorem st_asg (h : te σ H fun x H1 => g x σ H1 D.nx) : tAsg te g D σ H := h
theorem st_name {R : L2.St → Hp → Prop} (h : R (σ.set i (some v)) H) : gName i v σ H R := h
theorem st_var (e : σ[i]? = some (some v)) (h : Q v H) : tVar i σ H Q := ⟨v, e, h⟩
theorem st_c (h : Q v H) : tC v σ H Q := h
theorem st_op {r : R2} (h : ta σ H fun x H1 => tb σ H1 fun y H2 => r x y H2 Q) : tOp r ta tb σ H Q := h
theorem st_un {r : V → Hp → VK → Prop} (h : ta σ H fun x H1 => r x H1 Q) : tUn r ta σ H Q := h
theorem st_cons (h : ta σ H fun x H1 => tl σ H1 fun xs H2 => QA (x :: xs) H2) : tCons ta tl σ H QA := h
theorem st_nil (h : QA [] H) : tNil σ H QA := h
theorem st_cb {r : List V → Hp → VK → Prop} (h : tl σ H fun vs H1 => r vs H1 Q) : tCB r tl σ H Q := h
theorem st_call {sp : Sp} {dvs : List V} {E : XK} (h : tl σ H fun vs H1 => sp (vs ++ dvs) H1 Q E) : tCall sp dvs E tl σ H Q := h
theorem st_ifs (h : tc σ H fun b H1 => if b = true then t D σ H1 else u D σ H1) : tIfS tc t u D σ H := h
theorem st_if (h : tc σ H fun b H1 => if b = true then ta σ H1 Q else tb σ H1 Q) : tIf tc ta tb σ H Q := h
theorem st_test (h : te σ H fun x H1 => ∃ k, x = .bl k ∧ QT k H1) : tTest te σ H QT := h
theorem st_tb (h : te σ H fun x H1 => ∃ k, x = .bl k ∧ QT k H1) : tB te σ H QT := h
theorem st_not (h : tc σ H fun c H1 => QT (!c) H1) : tNot tc σ H QT := h
theorem st_and (h : tc σ H fun c H1 => if c = true then td σ H1 QT else QT false H1) : tAnd tc td σ H QT := h
theorem st_or (h : tc σ H fun c H1 => if c = true then QT true H1 else td σ H1 QT) : tOr tc td σ H QT := h
theorem st_yes (h : QT true H) : tYes σ H QT := h
theorem st_lst (h : tl σ H fun xs H1 => xs.length ≤ sizeLine ∧ ∀ p, H1 p = none → Q (.ref p) (upd H1 p (.lst xs))) : tLst tl σ H Q := h
theorem st_tup (h : tl σ H fun xs H1 => xs.length ≤ sizeLine ∧ ∀ p, H1 p = none → Q (.ref p) (upd H1 p (.tup xs))) : tTup tl σ H Q := h
theorem st_bm {K : PySem.W.Frag} {T : String} {r : V → List V → Hp → VK → Prop} (h : te σ H fun x H1 => tyV K T x H1 ∧ tl σ H1 fun xs H2 => r x xs H2 Q) : tBM K T r te tl σ H Q := h
theorem st_m1 {r : V → List V → Hp → VK → Prop} (h : ta σ H fun x H1 => (∃ a, x = .str a) ∧ tb σ H1 fun y H2 => r x [y] H2 Q) : tM1 r ta tb σ H Q := h
theorem st_I0 {g : Int → Int → V} {i j : Int} (h : Q (g i j) H) : rI0 g (.int i) (.int j) H Q := ⟨i, j, rfl, rfl, h⟩
theorem st_I {C : Int → Int → Prop} {g : Int → Int → V} {i j : Int} (c : C i j) (h : Q (g i j) H) : rI C g (.int i) (.int j) H Q := ⟨i, j, rfl, rfl, c, h⟩
theorem st_eq (c : scal x y = true) (h : Q (.bl (decide (x = y))) H) : rEq x y H Q := ⟨c, h⟩
theorem st_ne (c : scal x y = true) (h : Q (.bl (!decide (x = y))) H) : rNe x y H Q := ⟨c, h⟩
theorem st_bl {P : Bool → Prop} {b : Bool} (h : P b) : ∃ k, V.bl b = V.bl k ∧ P k := ⟨b, rfl, h⟩
theorem st_gtup {K : PySem.W.Frag} {n : Nat} {tg : TGs} {a : Addr} {xs : List V} {R : L2.St → Hp → Prop} (hs : SqT K H a xs) (hn : xs.length = n) (h : tg xs σ H R) : gTup K n tg (.ref a) σ H R := ⟨a, xs, rfl, hs, hn, h⟩
theorem st_gcons {g : TG} {tg : TGs} {vs : List V} {R : L2.St → Hp → Prop} (h : g v σ H fun σ' H' => tg vs σ' H' R) : gCons g tg (v :: vs) σ H R := ⟨v, vs, rfl, h⟩
theorem st_gnil {R : L2.St → Hp → Prop} (h : R σ H) : gNil [] σ H R := ⟨rfl, h⟩
theorem st_gsub {R : L2.St → Hp → Prop} {ts : V → V → V → Hp → (Hp → Prop) → Prop} (h : ta σ H fun o H1 => tb σ H1 fun i H2 => ts o i v H2 fun H3 => R σ H3) : gSub ta tb ts v σ H R := h
theorem st_ixL {K : PySem.W.Frag} {p : Addr} {xs : List V} {i : Int} (hs : SqL K H p xs) (e : atI xs i = some v) (h : Q v H) : rIxL K (.ref p) (.int i) H Q := ⟨p, xs, i, v, rfl, rfl, hs, e, h⟩
theorem st_ixT {K : PySem.W.Frag} {p : Addr} {xs : List V} {i : Int} (hs : SqT K H p xs) (e : atI xs i = some v) (h : Q v H) : rIxT K (.ref p) (.int i) H Q := ⟨p, xs, i, v, rfl, rfl, hs, e, h⟩
theorem st_ixS {z : Str} {i : Int} {c : Nat} (hl : z.length ≤ sizeLine) (e : atI z.cps.toList i = some c) (h : Q (.str ⟨#[c]⟩) H) : rIxS (.str z) (.int i) H Q := ⟨z, i, c, rfl, rfl, hl, e, h⟩
theorem st_setL {p : Addr} {xs : List V} {k : Int} {j : Nat} {R : Hp → Prop} (e : H p = some (.lst xs)) (n : ixN xs.length k = some j) (h : R (upd H p (.lst (xs.set j v)))) : rSetL (.ref p) (.int k) v H R := ⟨p, xs, k, j, rfl, rfl, e, n, h⟩
theorem st_sl {r : V → Option Int → Option Int → Hp → VK → Prop} {lo hi : TO} (h : te σ H fun x H1 => lo σ H1 fun l H2 => hi σ H2 fun u H3 => r x l u H3 Q) : L2.tSl r te lo hi σ H Q := h
theorem st_nopart {QO : Option Int → Hp → Prop} (h : QO none H) : tNoPart σ H QO := h
theorem st_part {QO : Option Int → Hp → Prop} (h : te σ H fun x H1 => ∃ i, x = .int i ∧ QO (some i) H1) : tPart te σ H QO := h
theorem st_in {K : PySem.W.Frag} {p : Addr} {xs : List V} (hs : SqL K H p xs) (f : flatV x = true) (a : xs.all flatV = true) (h : Q (.bl (inV x xs)) H) : rIn K false x (.ref p) H Q := ⟨p, xs, rfl, Or.inl hs, f, a, h⟩
theorem st_nin {K : PySem.W.Frag} {p : Addr} {xs : List V} (hs : SqL K H p xs) (f : flatV x = true) (a : xs.all flatV = true) (h : Q (.bl (!inV x xs)) H) : rIn K true x (.ref p) H Q := ⟨p, xs, rfl, Or.inl hs, f, a, h⟩
theorem st_cat {l b : Addr} {xs zs : List V} (h1 : H l = some (.lst xs)) (h2 : H b = some (.lst zs)) (n : xs.length + zs.length ≤ sizeLine) (h : ∀ p, H p = none → Q (.ref p) (upd H p (.lst (xs ++ zs)))) : rCat (.ref l) (.ref b) H Q := ⟨l, b, xs, zs, rfl, rfl, h1, h2, n, h⟩
theorem st_append {l : Addr} {xs : List V} (h1 : H l = some (.lst xs)) (n : xs.length < sizeLine) (h : Q .non (upd H l (.lst (xs ++ [y])))) : rAppend (.ref l) [y] H Q := ⟨l, xs, y, rfl, rfl, h1, n, h⟩
end
/-! ### rules that name the written part by K (a comprehension's block has the same) -/
section
variable {X : Cx} {pos : Pos}
theorem ix_listK (K : PySem.W.Frag) (hK : X.K = K := by rfl) : IxR X (rIxL K) := by subst hK; exact ix_list
theorem ix_tupK (K : PySem.W.Frag) (hK : X.K = K := by rfl) : IxR X (rIxT K) := by subst hK; exact ix_tup
theorem sl_listK (K : PySem.W.Frag) (hK : X.K = K := by rfl) : SlR X (rSlL K) := by subst hK; exact sl_list
theorem sl_tupK (K : PySem.W.Frag) (hK : X.K = K := by rfl) : SlR X (rSlA K) := by subst hK; exact sl_tupA
theorem op_inK (K : PySem.W.Frag) (hK : X.K = K := by rfl) : OpR X (compareOp .In) (rIn K false) := by subst hK; exact op_in_seq
theorem op_ninK (K : PySem.W.Frag) (hK : X.K = K := by rfl) : OpR X (compareOp .NotIn) (rIn K true) := by subst hK; exact op_notIn_seq
theorem op_eqDK (K : PySem.W.Frag) (hu : X.A.units + 64 < cLine) (hK : X.K = K := by rfl) : OpR X (compareOp .Eq) (rEqD K) := by subst hK; exact op_eqD hu
theorem op_neDK (K : PySem.W.Frag) (hu : X.A.units + 64 < cLine) (hK : X.K = K := by rfl) : OpR X (compareOp .NotEq) (rNeD K) := by subst hK; exact op_neD hu
theorem op_catK (K : PySem.W.Frag) (hK : X.K = K := by rfl) : OpR X (binaryOp .Add) (rCatA K) := by subst hK; exact op_catA
theorem kBM (K : PySem.W.Frag) {e : Expr} {T : String} {r : V → List V → Hp → VK → Prop} {to : TE} {t : TA} (h : PE X e (tBM X.K T r to t)) (hK : X.K = K := by rfl) : PE X e (tBM K T r to t) := by subst hK; exact h
theorem kBM0 (K : PySem.W.Frag) {e : Expr} {T : String} {r : V → List V → Hp → VK → Prop} {to : TE} (h : PE X e (tBM0 X.K T r to)) (hK : X.K = K := by rfl) : PE X e (tBM0 K T r to) := by subst hK; exact h
theorem kFld (K : PySem.W.Frag) {e : Expr} {f : Str} {to : TE} (h : PE X e (tFld X.K to f)) (hK : X.K = K := by rfl) : PE X e (tFld K to f) := by subst hK; exact h
theorem kRevL (K : PySem.W.Frag) {e : Expr} {to : TE} (h : PE X e (tRevL X.K to)) (hK : X.K = K := by rfl) : PE X e (tRevL K to) := by subst hK; exact h
theorem kPI (K : PySem.W.Frag) {tg l : Expr} {to : TE} (h : PI X tg l (iList X.K to)) (hK : X.K = K := by rfl) : PI X tg l (iList K to) := by subst hK; exact h
theorem kPT (K : PySem.W.Frag) {tg l : Expr} {to : TE} (h : PI X tg l (iTup X.K to)) (hK : X.K = K := by rfl) : PI X tg l (iTup K to) := by subst hK; exact h
theorem kPEn (K : PySem.W.Frag) {tg l : Expr} {to : TA} (h : PI X tg l (iEnum X.K to)) (hK : X.K = K := by rfl) : PI X tg l (iEnum K to) := by subst hK; exact h
theorem kPZ (K : PySem.W.Frag) {tg l : Expr} {to : TA} (h : PI X tg l (iZip X.K to)) (hK : X.K = K := by rfl) : PI X tg l (iZip K to) := by subst hK; exact h
theorem kTup (K : PySem.W.Frag) (n : Nat) {tg : Expr} {t : TGs} (h : PG X tg (gTup X.K n t)) (hK : X.K = K := by rfl) : PG X tg (gTup K n t) := by subst hK; exact h
def rLenL (K : PySem.W.Frag) : List V → Hp → VK → Prop := fun xs H Q => ∃ p ys, xs = [.ref p] ∧ (SqL K H p ys ∨ SqT K H p ys) ∧ Q (.int ys.length) H
theorem call_lenK (K : PySem.W.Frag) (hK : X.K = K := by rfl) : CallR X (.builtin "len") (rLenL K) := by subst hK; exact call_len_seq
def rListL (K : PySem.W.Frag) : List V → Hp → VK → Prop := fun xs H Q => ∃ p ys, xs = [.ref p] ∧ (SqL K H p ys ∨ SqT K H p ys) ∧ ∀ l, H l = none → Q (.ref l) (upd H l (.lst ys))
theorem call_listK (K : PySem.W.Frag) (hK : X.K = K := by rfl) : CallR X (.type "list") (rListL K) := by subst hK; exact call_list_of
def rTupL (K : PySem.W.Frag) : List V → Hp → VK → Prop := fun xs H Q => ∃ p ys, xs = [.ref p] ∧ ((SqL K H p ys ∧ ∀ l, H l = none → Q (.ref l) (upd H l (.tup ys))) ∨ (SqT K H p ys ∧ Q (.ref p) H))
theorem call_tupK (K : PySem.W.Frag) (hK : X.K = K := by rfl) : CallR X (.type "tuple") (rTupL K) := by subst hK; exact call_tuple_of
def rJoin (K : PySem.W.Frag) : V → List V → Hp → VK → Prop := fun x xs H Q => ∃ a p, ∃ ys : List Str, x = .str a ∧ xs = [.ref p] ∧ (SqL K H p (ys.map V.str) ∨ SqT K H p (ys.map V.str)) ∧ (ys.map (·.length)).sum + ys.length * a.length ≤ 16777216 ∧ Q (.str (Txt.join a ys)) H
theorem pe_joinK (K : PySem.W.Frag) {o e : Expr} {to te : TE} {apos : Pos} (ho : PE X o to) (he : PE X e te) (hs : starEach [e] X.env = [(false, eval e X.env)] := by rfl)
    (hbase : attributeBase o "join" X.env (eval o X.env) = eval o X.env := by rfl) (hline : (apos.endLine == pos.line) = true := by rfl) (hK : X.K = K := by rfl) :
    PE X (.Call (.Attribute o "join" apos) [e] [] pos) (tM1 (rJoin K) to te) := by
  subst hK
  exact pe_join ho he hs hbase hline
def rInt1 : List V → Hp → VK → Prop := fun xs H Q => (∃ i, xs = [.int i] ∧ Q (.int i) H) ∨ ∃ k, xs = [.bl k] ∧ Q (.int (if k then 1 else 0)) H
theorem call_intB : CallR X (.type "int") rInt1 := call_int1
end
section
variable {H : Hp} {Q : VK}
theorem st_intB {b : Bool} (h : Q (.int (if b then 1 else 0)) H) : rInt1 [.bl b] H Q := Or.inr ⟨b, rfl, h⟩
theorem st_len {K : PySem.W.Frag} {p : Addr} {ys : List V} (hs : SqL K H p ys) (h : Q (.int ys.length) H) : rLenL K [.ref p] H Q := ⟨p, ys, rfl, Or.inl hs, h⟩
theorem st_list {K : PySem.W.Frag} {p : Addr} {ys : List V} (hs : SqL K H p ys) (h : ∀ l, H l = none → Q (.ref l) (upd H l (.lst ys))) : rListL K [.ref p] H Q := ⟨p, ys, rfl, Or.inl hs, h⟩
theorem st_join {K : PySem.W.Frag} {a : Str} {p : Addr} {ys : List Str} (hs : SqL K H p (ys.map V.str)) (n : (ys.map (·.length)).sum + ys.length * a.length ≤ 16777216) (h : Q (.str (Txt.join a ys)) H) : rJoin K (.str a) [.ref p] H Q := ⟨a, p, ys, rfl, rfl, Or.inl hs, n, h⟩
end
/-! ### heaps -/
theorem old_upd {H : Hp} {p a : Addr} {o u : HO} (n : H p = none) (h : H a = some u) : upd H p o a = some u := by
  rw [upd_ne (ne_of_none h n)]
  exact h
theorem oth_upd {H : Hp} {p a : Addr} {o u : HO} (n : a ≠ p) (h : H a = some u) : upd H p o a = some u := by
  rw [upd_ne n]
  exact h
theorem nil_upd {H : Hp} {p a : Addr} {o : HO} (h : upd H p o a = none) : a ≠ p ∧ H a = none := by
  by_cases q : a = p
  · subst q
    rw [upd_same] at h
    exact nomatch h
  · rw [upd_ne q] at h
    exact ⟨q, h⟩
theorem sqL_of {K : PySem.W.Frag} {H : Hp} {a : Addr} {xs : List V} (h : H a = some (.lst xs)) : SqL K H a xs := Or.inl (Or.inl h)
theorem sqT_of {K : PySem.W.Frag} {H : Hp} {a : Addr} {xs : List V} (h : H a = some (.tup xs)) : SqT K H a xs := Or.inl (Or.inl h)
theorem NoT.lst {H : Hp} {p : Addr} {xs : List V} (h : NoT H) : NoT (L2.upd H p (.lst xs)) := h.upd trivial
theorem NoT.tup {H : Hp} {p : Addr} {xs : List V} (h : NoT H) : NoT (L2.upd H p (.tup xs)) := h.upd trivial
theorem NoT.pot {H : Hp} {p q : Addr} (h : NoT H) : NoT (L2.upd H p (PotO q)) := h.upd trivial
/-- all that H tells but what stands at ls is told by H' too -/
def Kp (ls : List Addr) (H H' : Hp) : Prop := ∀ b o, H b = some o → b ∉ ls → H' b = some o
theorem Kp.refl {ls : List Addr} (H : Hp) : Kp ls H H := fun _ _ h _ => h
theorem Kp.trans {ls : List Addr} {H H1 H2 : Hp} (a : Kp ls H H1) (b : Kp ls H1 H2) : Kp ls H H2 := fun c o h n => b c o (a c o h n) n
theorem Kp.new {ls : List Addr} {H H' : Hp} {p : Addr} {o : HO} (k : Kp ls H H') (n : H' p = none) : Kp ls H (upd H' p o) := fun b u h m => old_upd n (k b u h m)
theorem Kp.mut {ls : List Addr} {H H' : Hp} {p : Addr} {o : HO} (k : Kp ls H H') (n : p ∈ ls) : Kp ls H (upd H' p o) := fun b u h m => oth_upd (fun e => m (by rw [e]; exact n)) (k b u h m)
theorem Kp.own {ls : List Addr} {H H' : Hp} {p : Addr} {o : HO} (k : Kp ls H H') (n : H p = none) : Kp ls H (upd H' p o) := fun b u h m => oth_upd (ne_of_none h n) (k b u h m)
theorem Kp.same {H H' : Hp} (k : Kp [] H H') : Same H H' := fun b o h => k b o h (by simp)
theorem Kp.sqL {K : PySem.W.Frag} {ls : List Addr} {H H' : Hp} {a : Addr} {xs : List V} (k : Kp ls H H') (n : a ∉ ls) (h : SqL K H a xs) : SqL K H' a xs := by
  rcases h with (h | ⟨o, h⟩) | h
  · exact Or.inl (Or.inl (k _ _ h n))
  · exact Or.inl (Or.inr ⟨o, k _ _ h n⟩)
  · exact Or.inr h
theorem sqL_new {K : PySem.W.Frag} {H : Hp} {p a : Addr} {o : HO} {xs : List V} (n : H p = none) (h : SqL K H a xs) : SqL K (upd H p o) a xs := (Kp.new (ls := []) (Kp.refl H) n).sqL (by simp) h
/-! ### divmod of any number by one that is not too great -/
theorem cdivP {i j : Int} (h0 : 0 < j) (h1 : j < 2 ^ 64) : CDivP i j := by
  refine ⟨h0, PyProof.noPylong_of_log2 ?_⟩
  have hn : j.natAbs < 2 ^ 64 := by omega
  exact Nat.lt_trans (PySem.Flt.log2_lt_of (by decide) hn) (by decide)
/-! ### repr of data -/
section
variable {X : Cx}
def rReprD (K : PySem.W.Frag) : List V → Hp → VK → Prop := fun xs H Q => ∃ v d, xs = [v] ∧ Dp K H v d ∧ d.showable = true ∧ d.depth ≤ 50 ∧ d.shown.length ≤ sizeLine ∧ Q (.str d.shown) H
theorem dp_noDict {K : PySem.W.Frag} {H : Hp} : ∀ {v : V} {d : PyData}, Dp K H v d → d.hasDict = false := by
  intro v d h
  induction h using Dp.rec (motive_2 := fun _ ds _ => PyData.hasDictAll ds = false) with
  | non => simp only [PyData.hasDict]
  | bl => simp only [PyData.hasDict]
  | int => simp only [PyData.hasDict]
  | str => simp only [PyData.hasDict]
  | lst _ _ ih => simp only [PyData.hasDict, ih]
  | tup _ _ ih => simp only [PyData.hasDict, ih]
  | nil => simp only [PyData.hasDictAll]
  | cons _ _ h1 h2 => simp only [PyData.hasDictAll, h1, h2, Bool.or_self]
theorem call_reprDX (hu : X.A.units + 64 < cLine) (g : X.A.guards = some []) : CallR X (.builtin "repr") (rReprD X.K) := by
  intro pins s σ H xs us Q I r h
  obtain ⟨v, d, rfl, hd, hs, hdp, hz, q⟩ := h
  obtain ⟨u, rfl, rv⟩ : ∃ u, us = [u] ∧ RelV v u := by
    cases r with
    | cons r1 r2 => cases r2 with
      | nil => exact ⟨_, rfl, r1⟩
  obtain ⟨as, rd⟩ := Dp.reads I d v u hd rv
  cases hd with
  | non =>
    cases rv
    simp only [PyData.shown] at q
    exact PySem.P.repr_of_none ⟨.str _, H, I.tok _, ⟨_, rfl⟩, q⟩
  | bl b =>
    cases rv
    simp only [PyData.shown] at q
    refine PySem.P.repr_of_bool ⟨.str _, H, I.tok _, ⟨_, rfl⟩, ?_⟩
    cases b <;> exact q
  | int i =>
    obtain ⟨t, rfl⟩ := rv
    simp only [PyData.shown] at q
    exact PySem.P.repr_of_int (by simpa [PyData.showable] using hs) ⟨.str _, H, I.tok _, ⟨_, rfl⟩, q⟩
  | str x =>
    obtain ⟨t, rfl⟩ := rv
    simp only [PyData.shown] at q hz
    exact PySem.P.repr_of_str ⟨.str _, H, I.tok _, ⟨_, rfl⟩, q⟩ hz
  | lst hl ha =>
    cases rv
    refine repr_of_reads' rd hs (fun z => ?_) g (by omega) (fun _ _ e => e) (fun h' t tk hk => ⟨.str _, H, I.kept hk, ⟨_, rfl⟩, q⟩) hz
    rw [dp_noDict (.lst hl ha)] at z
    exact nomatch z
  | tup hl ha =>
    cases rv
    refine repr_of_reads' rd hs (fun z => ?_) g (by omega) (fun _ _ e => e) (fun h' t tk hk => ⟨.str _, H, I.kept hk, ⟨_, rfl⟩, q⟩) hz
    rw [dp_noDict (.tup hl ha)] at z
    exact nomatch z
theorem call_reprD (K : PySem.W.Frag) (hu : X.A.units + 64 < cLine) (g : X.A.guards = some []) (hK : X.K = K := by rfl) : CallR X (.builtin "repr") (rReprD K) := by
  subst hK
  exact call_reprDX hu g
end
end TB
/-! Loops and comprehensions over what has known items; names. -/
namespace TB
open PySem PySem.Spec PyProof.Rows L2
/-- the walk J yields xs, one behind another, as long as ok -/
structure Wk (J : It) (xs : List V) (ok : Hp → Prop) : Prop where
  go : ∀ i H, ok H → i < xs.length → J.go i H
  stop : ∀ i H, ok H → xs.length ≤ i → J.stop i H
  yld : ∀ i H x H', ok H → i < xs.length → J.yld i H x H' → H' = H ∧ xs[i]? = some x
theorem wk_list {K : PySem.W.Frag} {a : Addr} {xs : List V} : Wk (Itl K a) xs (fun H => SqL K H a xs) :=
  ⟨fun i H h l => ⟨xs, xs[i], h, List.getElem?_eq_getElem l⟩, fun i H h l => ⟨xs, h, l⟩, fun i H x H' h _ y => ⟨y.1, y.2 xs h⟩⟩
theorem wk_tup {K : PySem.W.Frag} {a : Addr} {xs : List V} : Wk (Itt K a) xs (fun H => SqT K H a xs) :=
  ⟨fun i H h l => ⟨xs, xs[i], h, List.getElem?_eq_getElem l⟩, fun i H h l => ⟨xs, h, l⟩, fun i H x H' h _ y => ⟨y.1, y.2 xs h⟩⟩
theorem wk_range {n : Nat} : Wk (Itr 0 n) ((List.range n).map fun i : Nat => V.int (i : Int)) (fun _ => True) := by
  refine ⟨fun i H _ l => ?_, fun i H _ l => ?_, fun i H x H' _ l y => ?_⟩
  · rw [List.length_map, List.length_range] at l
    exact l
  · rw [List.length_map, List.length_range] at l
    exact l
  · obtain ⟨e, z⟩ := y
    refine ⟨e, ?_⟩
    rw [List.length_map, List.length_range] at l
    rw [List.getElem?_map, List.getElem?_range l, z]
    show some (V.int (i : Int)) = some (V.int (0 + (i : Int)))
    rw [Int.zero_add]
def signV (c : Nat) : V := .str ⟨#[c]⟩
theorem wk_str {z : Str} : Wk (Its z) (z.cps.toList.map signV) (fun _ => True) := by
  refine ⟨fun i H _ l => ?_, fun i H _ l => ?_, fun i H x H' _ l y => ?_⟩
  · rw [List.length_map] at l
    exact l
  · rw [List.length_map] at l
    exact l
  · obtain ⟨e, c, hc, rfl⟩ := y
    refine ⟨e, ?_⟩
    rw [List.getElem?_map, Array.getElem?_toList, hc]
    rfl
/-- what a for loop over J asks -/
def ForG (J : It) (g : TG) (tb : TS) (D : Ends) (σ : L2.St) (H : Hp) : Prop := ∃ W : Nat → Nat → L2.St → Hp → Prop, (∃ m, W 0 m σ H) ∧ ∀ i m σ H, W i m σ H →
  (J.stop i H ∧ D.nx σ H) ∨ (J.go i H ∧ ∃ N : L2.St → Hp → Prop, (∀ σ' H', N σ' H' → ∃ m', m' < m ∧ W (i + 1) m' σ' H') ∧ ∀ x H', J.yld i H x H' → g x σ H' fun σ2 H2 => tb { D with nx := N, ct := N, bk := D.nx } σ2 H2)
/-- what a list comprehension over J asks -/
def LcG (J : It) (g : TG) (tt : TT) (te : TE) (vs : List Nat) (σ : L2.St) (Q : VK) (H1 : Hp) : Prop := ∀ D, H1 D = none → ∃ W : Nat → Nat → Hp → Prop, (∃ m, W 0 m (upd H1 D (.lst []))) ∧ ∀ i m H, W i m H →
  (J.stop i H ∧ Q (.ref D) H) ∨ (J.go i H ∧ ∃ Nx : Hp → Prop, (∀ H', Nx H' → ∃ m', m' < m ∧ W (i + 1) m' H') ∧ ∀ x H', J.yld i H x H' → g x (wipe σ vs) H' fun σ2 H2 => wipe σ2 vs = wipe σ vs ∧ tt σ2 H2 fun b H3 =>
    if b = true then te σ2 H3 fun y H4 => ∃ acc, H4 D = some (.lst acc) ∧ acc.length < sizeLine ∧ Nx (upd H4 D (.lst (acc ++ [y]))) else Nx H3)
section
variable {σ : L2.St} {H : Hp} {Q : VK} {wi : TI} {g : TG} {tt : TT} {te tl : TE} {ta : TA} {vs : List Nat} {tb : TS} {D : Ends} {R : It → Hp → Prop} {K : PySem.W.Frag}
theorem st_for (h : wi σ H fun J H1 => ForG J g tb D σ H1) : tFor wi g tb D σ H := h
theorem st_lc (h : wi σ H fun J H1 => LcG J g tt te vs σ Q H1) : tLc wi g tt te vs σ H Q := h
theorem st_rng1 (h : ta σ H fun vs H1 => ∃ j : Int, vs = [.int j] ∧ -(2 ^ 62) ≤ j ∧ j < 2 ^ 62 ∧ R (Itr 0 j.toNat) H1) : iRng1 ta σ H R := h
theorem st_il (h : tl σ H fun x H1 => ∃ a, x = .ref a ∧ (∃ xs, SqL K H1 a xs) ∧ R (Itl K a) H1) : iList K tl σ H R := h
theorem st_is (h : tl σ H fun v H1 => ∃ x, v = .str x ∧ R (Its x) H1) : iStr tl σ H R := h
theorem st_ie (h : ta σ H fun vs H1 => ∃ a xs, vs = [.ref a] ∧ SqL K H1 a xs ∧ R (Ite K a) H1) : iEnum K ta σ H R := h
end
section
variable {J : It} {xs : List V} {ok : Hp → Prop} {g : TG} {tb : TS} {D : Ends} {σ : L2.St} {H : Hp}
/-- a for loop, by what holds ahead of each turn -/
theorem for_walk (w : Wk J xs ok) (Pv : Nat → L2.St → Hp → Prop) (h0 : Pv 0 σ H) (hk : ∀ i σ H, Pv i σ H → ok H)
    (hs : ∀ i x σ H, xs[i]? = some x → Pv i σ H → g x σ H fun σ2 H2 => tb { D with nx := Pv (i + 1), ct := Pv (i + 1), bk := D.nx } σ2 H2) (hd : ∀ σ H, Pv xs.length σ H → D.nx σ H) : ForG J g tb D σ H := by
  refine ⟨fun i m σ H => m = xs.length - i ∧ i ≤ xs.length ∧ Pv i σ H, ⟨xs.length, by simp, Nat.zero_le _, h0⟩, ?_⟩
  rintro i m σ H ⟨rfl, hi, p⟩
  by_cases lt : i < xs.length
  · refine Or.inr ⟨w.go i H (hk i σ H p) lt, Pv (i + 1), fun σ' H' p' => ⟨xs.length - (i + 1), by omega, rfl, lt, p'⟩, fun x H' y => ?_⟩
    obtain ⟨rfl, e⟩ := w.yld i H x H' (hk i σ H p) lt y
    exact hs i x σ _ e p
  · obtain rfl : i = xs.length := by omega
    exact Or.inl ⟨w.stop _ H (hk _ σ H p) (Nat.le_refl _), hd σ H p⟩
end
section
variable {J : It} {xs : List V} {ok : Hp → Prop} {g : TG} {tt : TT} {te : TE} {vs : List Nat} {σ : L2.St} {H1 : Hp} {Q : VK}
/-- a list comprehension: acc is what stands in the new list at D -/
theorem lc_walk (w : Wk J xs ok) (Pv : Addr → Nat → List V → Hp → Prop) (h0 : ∀ D, H1 D = none → Pv D 0 [] (upd H1 D (.lst []))) (hk : ∀ D i acc H, Pv D i acc H → ok H)
    (hs : ∀ D i x acc H, H1 D = none → xs[i]? = some x → Pv D i acc H → g x (wipe σ vs) H fun σ2 H2 => wipe σ2 vs = wipe σ vs ∧ tt σ2 H2 fun b H3 =>
      if b = true then te σ2 H3 fun y H4 => ∃ acc', H4 D = some (.lst acc') ∧ acc'.length < sizeLine ∧ ∃ a2, Pv D (i + 1) a2 (upd H4 D (.lst (acc' ++ [y]))) else ∃ a2, Pv D (i + 1) a2 H3)
    (hd : ∀ D acc H, H1 D = none → Pv D xs.length acc H → Q (.ref D) H) : LcG J g tt te vs σ Q H1 := by
  intro D nD
  refine ⟨fun i m H => m = xs.length - i ∧ i ≤ xs.length ∧ ∃ acc, Pv D i acc H, ⟨xs.length, by simp, Nat.zero_le _, [], h0 D nD⟩, ?_⟩
  rintro i m H ⟨rfl, hi, acc, p⟩
  by_cases lt : i < xs.length
  · refine Or.inr ⟨w.go i H (hk D i acc H p) lt, fun H' => ∃ acc, Pv D (i + 1) acc H', fun H' p' => ⟨xs.length - (i + 1), by omega, rfl, lt, p'⟩, fun x H' y => ?_⟩
    obtain ⟨rfl, e⟩ := w.yld i H x H' (hk D i acc H p) lt y
    exact hs D i x acc _ nD e p
  · obtain rfl : i = xs.length := by omega
    exact Or.inl ⟨w.stop _ H (hk D _ acc H p) (Nat.le_refl _), hd D acc H nD p⟩
end
section
variable {K : PySem.W.Frag} {a : Addr} {xs : List V} {i1 i2 : Nat} {tb : TS} {D : Ends} {σ : L2.St} {H : Hp}
/-- for i, x in enumerate(xs) -/
theorem for_enum (Pv : Nat → L2.St → Hp → Prop) (h0 : Pv 0 σ H) (hk : ∀ i σ H, Pv i σ H → SqL K H a xs)
    (hs : ∀ (i : Nat) x σ H T, xs[i]? = some x → Pv i σ H → H T = none → tb { D with nx := Pv (i + 1), ct := Pv (i + 1), bk := D.nx } ((σ.set i1 (some (.int (i : Int)))).set i2 (some x)) (upd H T (.tup [.int (i : Int), x])))
    (hd : ∀ σ H, Pv xs.length σ H → D.nx σ H) : ForG (Ite K a) (gTup K 2 (gCons (gName i1) (gCons (gName i2) gNil))) tb D σ H := by
  refine ⟨fun i m σ H => m = xs.length - i ∧ i ≤ xs.length ∧ Pv i σ H, ⟨xs.length, by simp, Nat.zero_le _, h0⟩, ?_⟩
  rintro i m σ H ⟨rfl, hi, p⟩
  have sq := hk i σ H p
  by_cases lt : i < xs.length
  · refine Or.inr ⟨⟨xs, xs[i], sq, List.getElem?_eq_getElem lt⟩, Pv (i + 1), fun σ' H' p' => ⟨xs.length - (i + 1), by omega, rfl, lt, p'⟩, fun v H' y => ?_⟩
    obtain ⟨T, x, rfl, nT, rfl, e⟩ := y
    exact ⟨T, _, rfl, sqT_of upd_same, rfl, _, _, rfl, _, _, rfl, rfl, hs i x σ H T (e xs sq) p nT⟩
  · obtain rfl : i = xs.length := by omega
    exact Or.inl ⟨⟨xs, sq, Nat.le_refl _⟩, hd σ H p⟩
end
/-- a tracked thing changed, nothing new told -/
theorem Fg.mut1 {H H' : Hp} {p : Addr} {o u : HO} (k : Kp [p] H H') (n : NoT H) (e : H p = some u) (e' : H' p = some o) (no : noT o) (lo : ∀ H, leans H p o) (nu : ∀ y, u ≠ .own y) : Fg H H' (upd H p o) := by
  have lk : ∀ (a : Addr) (v : HO), leans H a v → leans (upd H p o) a v := by
    intro a v
    induction v with
    | ins C dx fs =>
      intro l
      have l2 : H dx = some (.own a) := l
      exact oth_upd (fun z => nu a (by rw [z, e] at l2; exact Option.some.inj l2)) l2
    | frz ob v ih => exact fun l => ih l
    | _ => exact fun _ => trivial
  refine ⟨fun b v q => ?_, fun b v v' q q' => ?_, fun a v q z => ?_, fun a v q l v' q' => ?_, n.upd no⟩
  · by_cases hb : b = p
    · subst hb
      rw [upd_same] at q
      cases q
      exact e'
    · rw [upd_ne hb] at q
      exact k b v q (by simpa using hb)
  · by_cases hb : b = p
    · subst hb
      rw [upd_same, ← q']
      exact e'.symm
    · rw [upd_ne hb, ← q', k b v q (by simpa using hb)]
      exact q
  · by_cases hb : a = p
    · rw [hb, e] at z
      exact nomatch z
    · rw [upd_ne hb, z] at q
      exact nomatch q
  · by_cases hb : a = p
    · subst hb
      rw [upd_same] at q'
      cases q'
      exact lo _
    · rw [upd_ne hb, q] at q'
      cases q'
      exact lk a v l
/-! ### names -/
abbrev tl (z : Str) : List Nat := z.cps.toList
theorem str_ext {a b : Str} (h : tl a = tl b) : a = b := by
  obtain ⟨⟨x⟩⟩ := a
  obtain ⟨⟨y⟩⟩ := b
  have e : x = y := h
  rw [e]
theorem erase_perm {α : Type} : ∀ {l : List α} {j : Nat} (h : j < l.length), ([l[j]] ++ l.eraseIdx j).Perm l
  | a :: r, 0, _ => List.Perm.refl _
  | a :: r, j + 1, h => by
    have ih := erase_perm (l := r) (j := j) (Nat.lt_of_succ_lt_succ h)
    have hj : j < r.length := Nat.lt_of_succ_lt_succ h
    show (r[j]'hj :: (a :: r.eraseIdx j)).Perm (a :: r)
    exact (List.Perm.swap a (r[j]'hj) _).trans (List.Perm.cons a ih)
theorem erase_map {α β : Type} (f : α → β) : ∀ (l : List α) (j : Nat), (l.map f).eraseIdx j = (l.eraseIdx j).map f
  | [], _ => rfl
  | _ :: _, 0 => rfl
  | a :: r, j + 1 => by
    show f a :: (r.map f).eraseIdx j = f a :: (r.eraseIdx j).map f
    rw [erase_map f r j]
/-- one to eight small letters -/
def Nm (z : Str) : Prop := 1 ≤ (tl z).length ∧ (tl z).length ≤ 8 ∧ ∀ c ∈ tl z, 97 ≤ c ∧ c ≤ 122
def nmB (z : Str) : Bool := decide (1 ≤ (tl z).length) && (decide ((tl z).length ≤ 8) && (tl z).all fun c => decide (97 ≤ c) && decide (c ≤ 122))
theorem nm_of {z : Str} (h : nmB z = true) : Nm z := by
  unfold nmB at h
  simp only [Bool.and_eq_true, decide_eq_true_eq, List.all_eq_true] at h
  exact ⟨h.1, h.2.1, h.2.2⟩
theorem beq_str (a b : Str) : (a == b) = decide (a = b) := by
  cases h : (a == b) with
  | true => exact (decide_eq_true (eq_of_beq h)).symm
  | false => exact (decide_eq_false (fun e => by rw [e] at h; exact Bool.false_ne_true (h.symm.trans (beq_self_eq_true b)))).symm
theorem inV_strs (z : Str) (ws : List Str) : inV (.str z) (ws.map V.str) = decide (z ∈ ws) := by
  unfold inV
  induction ws with
  | nil => simp
  | cons a r ih =>
    rw [List.map_cons, List.any_cons, ih]
    show ((a == z) || decide (z ∈ r)) = decide (z ∈ a :: r)
    rw [beq_str]
    by_cases e : a = z
    · subst e
      simp
    · have e2 : ¬ z = a := fun q => e q.symm
      simp [e, e2]
theorem flat_strs (ws : List Str) : (ws.map V.str).all flatV = true := by
  rw [List.all_eq_true]
  intro v hv
  obtain ⟨z, _, rfl⟩ := List.mem_map.mp hv
  rfl
/-- an item of a short list at a drawn place -/
theorem at_some {xs : List V} {d : Int} (h0 : 0 ≤ d) (h1 : d < (xs.length : Int)) : ∃ v, v ∈ xs ∧ atI xs d = some v := by
  obtain ⟨j, rfl⟩ : ∃ j : Nat, d = (j : Int) := ⟨d.toNat, by omega⟩
  have hj : j < xs.length := by omega
  exact ⟨xs[j], List.getElem_mem hj, atI_nat (List.getElem?_eq_getElem hj)⟩
theorem at_some' {α : Type} {xs : List α} {d : Int} (h0 : 0 ≤ d) (h1 : d < (xs.length : Int)) : ∃ (j : Nat) (hj : j < xs.length), d = (j : Int) ∧ atI xs d = some xs[j] := by
  obtain ⟨j, rfl⟩ : ∃ j : Nat, d = (j : Int) := ⟨d.toNat, by omega⟩
  have hj : j < xs.length := by omega
  exact ⟨j, hj, rfl, atI_nat (List.getElem?_eq_getElem hj)⟩
theorem joinL_signs : ∀ cs : List Nat, TL.joinL [] (cs.map fun c => [c]) = cs
  | [] => rfl
  | [c] => rfl
  | c :: d :: r => by
    have ih := joinL_signs (d :: r)
    show [c] ++ [] ++ TL.joinL [] ((d :: r).map fun c => [c]) = c :: d :: r
    rw [ih]
    rfl
theorem join_signs (cs : List Nat) : Txt.join "" (cs.map fun c => (⟨#[c]⟩ : Str)) = ⟨cs.toArray⟩ := by
  have e := SX.join_S [] (cs.map fun c => [c])
  rw [joinL_signs, List.map_map] at e
  exact e
theorem signs_fit {cs : List Nat} (h : cs.length ≤ 1000) : ((cs.map fun c => (⟨#[c]⟩ : Str)).map (·.length)).sum + (cs.map fun c => (⟨#[c]⟩ : Str)).length * ("" : Str).length ≤ 16777216 := by
  have e : ∀ l : List Nat, ((l.map fun c => (⟨#[c]⟩ : Str)).map (·.length)).sum = l.length := by
    intro l
    induction l with
    | nil => rfl
    | cons a r ih =>
      rw [List.map_cons, List.map_cons, List.sum_cons, ih, List.length_cons]
      show 1 + r.length = r.length + 1
      omega
  have z : ("" : Str).length = 0 := rfl
  rw [e, z]
  omega
theorem nodup_le {α : Type} [DecidableEq α] : ∀ {l m : List α}, l.Nodup → (∀ x ∈ l, x ∈ m) → l.length ≤ m.length
  | [], _, _, _ => Nat.zero_le _
  | x :: l, m, h, s => by
    obtain ⟨h1, h2⟩ := List.nodup_cons.mp h
    have hx : x ∈ m := s x (List.mem_cons_self ..)
    have ih := nodup_le (l := l) (m := m.erase x) h2 fun y hy => (List.mem_erase_of_ne (fun e => h1 (by rw [← e]; exact hy))).mpr (s y (List.mem_cons_of_mem _ hy))
    rw [List.length_erase_of_mem hx] at ih
    have : 0 < m.length := List.length_pos_of_mem hx
    rw [List.length_cons]
    omega
def abc : List Nat := tl "abcdefghijklmnopqrstuvwxyz"
/-- fewer than twenty-six names leave a letter -/
theorem free_letter {ws : List Str} (h : ws.length < 26) : ∃ c r, abc.filter (fun c => !decide ((⟨#[c]⟩ : Str) ∈ ws)) = c :: r ∧ c ∈ abc ∧ (⟨#[c]⟩ : Str) ∉ ws := by
  cases e : abc.filter (fun c => !decide ((⟨#[c]⟩ : Str) ∈ ws)) with
  | cons c r =>
    have hc : c ∈ abc.filter (fun c => !decide ((⟨#[c]⟩ : Str) ∈ ws)) := by
      rw [e]
      exact List.mem_cons_self ..
    obtain ⟨h1, h2⟩ := List.mem_filter.mp hc
    refine ⟨c, r, rfl, h1, ?_⟩
    simpa using h2
  | nil =>
    have all : ∀ x ∈ abc.map (fun c => (⟨#[c]⟩ : Str)), x ∈ ws := by
      intro x hx
      obtain ⟨c, hc, rfl⟩ := List.mem_map.mp hx
      have := List.filter_eq_nil_iff.mp e c hc
      simpa using this
    have nd : (abc.map (fun c => (⟨#[c]⟩ : Str))).Nodup := by decide +kernel
    have := nodup_le nd all
    have l26 : (abc.map (fun c => (⟨#[c]⟩ : Str))).length = 26 := by decide +kernel
    omega
theorem abc_nm {c : Nat} (h : c ∈ abc) : Nm ⟨#[c]⟩ := by
  have all : ∀ c ∈ abc, 97 ≤ c ∧ c ≤ 122 := by decide +kernel
  refine ⟨by show 1 ≤ 1; decide, by show 1 ≤ 8; decide, fun d hd => ?_⟩
  have e : d = c := by simpa [tl] using hd
  subst e
  exact all d h
end TB
/-! A text from its end. -/
namespace TB
open PySem PySem.Spec PyProof.Rows L2
def revS (z : Str) : Str := ⟨z.cps.toList.reverse.toArray⟩
theorem revS_eq (z : Str) (u : Tok) : Txt.sliceBy z none none (-1, u) = revS z := by
  refine str_ext ?_
  show (Txt.sliceBy z none none (-1, u)).cps.toList = z.cps.toList.reverse.toArray.toList
  rw [step_rev_list, List.toList_toArray]
  apply List.ext_getElem?
  intro i
  rw [List.getElem?_map]
  by_cases h : i < z.length
  · have h2 : i < z.cps.toList.length := by
      rw [Array.length_toList]
      exact h
    rw [List.getElem?_range h, List.getElem?_reverse h2, Array.getElem?_toList]
    have h3 : z.length - 1 - i < z.cps.size := by
      have : z.length = z.cps.size := rfl
      omega
    rw [Array.length_toList, show z.cps.size - 1 - i = z.length - 1 - i from rfl, Array.getElem?_eq_getElem h3]
    show some (z.cps.getD (z.length - 1 - i) 0) = _
    rw [Array.getD, dif_pos h3]
    rfl
  · have l1 : (List.range z.length).length ≤ i := by
      rw [List.length_range]
      omega
    have l2 : z.cps.toList.reverse.length ≤ i := by
      rw [List.length_reverse, Array.length_toList]
      have : z.length = z.cps.size := rfl
      omega
    rw [List.getElem?_eq_none l1, List.getElem?_eq_none l2]
    rfl
theorem cut_to (xs : List V) (i : Nat) : cutV xs none (some (i : Int)) = xs.take i := by
  unfold cutV
  rw [HT.sIx_none, HT.sIx_nat, List.drop_zero, Nat.sub_zero]
  rcases Nat.le_total i xs.length with h | h
  · rw [Nat.min_eq_left h]
  · rw [Nat.min_eq_right h, List.take_length, List.take_of_length_le h]
theorem cut_from (xs : List V) (i : Nat) : cutV xs (some (i : Int)) none = xs.drop i := by
  unfold cutV
  rw [HT.sIx_none, HT.sIx_nat]
  rcases Nat.le_total i xs.length with h | h
  · rw [Nat.min_eq_left h, List.take_of_length_le (by rw [List.length_drop]; exact Nat.le_refl _)]
  · rw [Nat.min_eq_right h, Nat.sub_self, List.take_zero, List.drop_of_length_le h]
section
variable {X : Cx}
def tRevS (te : TE) : TE := fun σ H Q => te σ H fun x H1 => ∃ z, x = .str z ∧ z.length ≤ sizeLine ∧ Q (.str (revS z)) H1
theorem pe_revS {e : Expr} {te : TE} {k : Nat} {p1 p2 p3 pos : Pos} (he : PE X e te) : PE X (.Subscript e (.Slice none none (some (.UnaryOp .USub (.Constant (.int 1) k p1) p2)) p3) pos) (tRevS te) := by
  constructor
  intro pins s σ H Q I h
  refine Subscript_ (thn (he.run pins s σ H _ I h) ?_)
  rintro v s1 ⟨x, H1, I1, r1, z, rfl, hz, q⟩
  obtain ⟨t, rfl⟩ := r1
  have hst : PO X (some (.UnaryOp .USub (.Constant (.int 1) k p1) p2)) (tPart (tUn (rU fun i => .int (-i)) (tC (.int 1)))) := po_some (pe_un un_neg pe_int)
  refine wpAny_Slice (thn (po_none.run pins s1 σ H1 (fun o H2 => o = none ∧ H2 = H1) I1 ⟨rfl, rfl⟩) ?_)
  rintro vl s2 ⟨l, H2, I2, pl, rfl, rfl⟩
  refine thn (po_none.run pins s2 σ H2 (fun o H3 => o = none ∧ H3 = H2) I2 ⟨rfl, rfl⟩) ?_
  rintro vu s3 ⟨u, H3, I3, pu, rfl, rfl⟩
  refine thn (hst.run pins s3 σ H3 (fun o H4 => o = some (-1) ∧ H4 = H3) I3 ⟨1, rfl, -1, rfl, rfl, rfl⟩) ?_
  rintro vs s4 ⟨o, H4, I4, ps, rfl, rfl⟩
  cases pl
  cases pu
  cases ps with
  | int _ tk =>
    refine tail_any (ops := [.str z t, .ref s4.heap.objs.size]) (typeIs_str _ z t) F.slot_str_getitem.lookup ?_ (by with_unfolding_all rfl)
    refine wpAny_getItem_str_slice (l := none) (u := none) (st := some (-1, tk)) ⟨_, Heap.get?_push_size _ rfl, rfl, rfl⟩ rfl ?_
    have I5 := I4.kept (t' := s4.toks) (h' := s4.heap.push { cls := .type "slice", data := .fields #[Value.none, Value.none, .int (-1) tk] }) (fun b ob q => Heap.get?_push_of_some _ q)
    have hn : ¬ (((((some (((-1 : Int), tk))).map (·.1)).getD 1 == 1 && (slicePicked z none none (some (-1, tk))).length == z.length)) = true) := by
      intro c
      have : ((-1 : Int) == 1) = true := (Bool.and_eq_true_iff.mp c).1
      exact nomatch this
    have ev : revS z = ⟨((slicePicked z none none (some (-1, tk))).filterMap (z.cps[·]?)).toArray⟩ := by
      rw [← revS_eq z tk]
      unfold Txt.sliceBy
      rw [if_neg hn]
    unfold sliceMade
    rw [if_neg hn]
    rw [ev] at q
    refine ⟨?_, .str _, H4, I5.tok _, ⟨_, rfl⟩, q⟩
    rw [← ev]
    show (z.cps.toList.reverse.toArray).size ≤ sizeLine
    rw [List.size_toArray, List.length_reverse, Array.length_toList]
    exact hz
end
theorem st_revS {σ : L2.St} {H : Hp} {Q : VK} {te : TE} (h : te σ H fun x H1 => ∃ z, x = .str z ∧ z.length ≤ sizeLine ∧ Q (.str (revS z)) H1) : tRevS te σ H Q := h
theorem st_revL {K : PySem.W.Frag} {σ : L2.St} {H : Hp} {Q : VK} {te : TE} (h : te σ H fun x H1 => ∃ a xs, x = .ref a ∧ SqL K H1 a xs ∧ ∀ p, H1 p = none → Q (.ref p) (upd H1 p (.lst xs.reverse))) : tRevL K te σ H Q := h
end TB
/-! Data that repr shows: lists of texts, of numbers, of such lists; how long their texts are. -/
namespace TB
open PySem PySem.Spec PyProof.Rows L2
def dStrs (ws : List Str) : PyData := .list (ws.map .str)
def dInts (ns : List Int) : PyData := .list (ns.map .int)
def dStrss (wss : List (List Str)) : PyData := .list (wss.map dStrs)
section
variable {K : PySem.W.Frag} {H H' : Hp}
theorem dpAll_strs : ∀ ws : List Str, DpAll K H (ws.map V.str) (ws.map .str)
  | [] => .nil
  | w :: r => .cons (.str w) (dpAll_strs r)
theorem dp_strs {a : Addr} {ws : List Str} (h : SqL K H a (ws.map V.str)) : Dp K H (.ref a) (dStrs ws) := .lst h (dpAll_strs ws)
theorem dpAll_ints : ∀ ns : List Int, DpAll K H (ns.map V.int) (ns.map .int)
  | [] => .nil
  | n :: r => .cons (.int n) (dpAll_ints r)
theorem dp_ints {a : Addr} {ns : List Int} (h : SqL K H a (ns.map V.int)) : Dp K H (.ref a) (dInts ns) := .lst h (dpAll_ints ns)
/-- a list of texts stands at v, to be changed -/
def LL (H : Hp) (v : V) (ws : List Str) : Prop := ∃ a, v = .ref a ∧ H a = some (.lst (ws.map V.str))
theorem LL.kp {v : V} {ws : List Str} (h : LL H v ws) (k : Kp [] H H') : LL H' v ws := by
  obtain ⟨a, e, h⟩ := h
  exact ⟨a, e, k.same _ _ h⟩
theorem LL.all (k : Kp [] H H') : ∀ {vs : List V} {wss : List (List Str)}, Paired (LL H) vs wss → Paired (LL H') vs wss
  | _, _, .nil => .nil
  | _, _, .cons h t => .cons (h.kp k) (LL.all k t)
/-- .. where another thing is changed -/
theorem LL.over {D : Addr} {o : HO} (k : Kp [] H H') : ∀ {vs : List V} {wss : List (List Str)}, Paired (LL H) vs wss → (∀ u ∈ vs, u ≠ .ref D) → Paired (LL (upd H' D o)) vs wss
  | _, _, .nil, _ => .nil
  | _, _, .cons h t, n => .cons (by
      obtain ⟨a, rfl, h⟩ := h
      exact ⟨a, rfl, oth_upd (fun e => n _ (List.mem_cons_self ..) (by rw [e])) (k.same _ _ h)⟩) (LL.over k t fun u hu => n u (List.mem_cons_of_mem _ hu))
theorem LL.ne {D : Addr} (nD : H D = none) : ∀ {vs : List V} {wss : List (List Str)}, Paired (LL H) vs wss → ∀ u ∈ vs, u ≠ .ref D
  | _, _, .nil, _, hu, _ => by simp at hu
  | _, _, .cons h t, u, hu, e => by
    rcases List.mem_cons.mp hu with q | q
    · obtain ⟨a, rfl, h⟩ := h
      rw [q] at e
      cases e
      rw [nD] at h
      exact nomatch h
    · exact LL.ne nD t u q e
theorem dpAll_strss : ∀ {vs : List V} {wss : List (List Str)}, Paired (LL H) vs wss → DpAll K H vs (wss.map dStrs)
  | _, _, .nil => .nil
  | _, _, .cons h t => .cons (by obtain ⟨a, rfl, h⟩ := h; exact dp_strs (sqL_of h)) (dpAll_strss t)
theorem dp_strss {a : Addr} {vs : List V} {wss : List (List Str)} (h : SqL K H a vs) (p : Paired (LL H) vs wss) : Dp K H (.ref a) (dStrss wss) := .lst h (dpAll_strss p)
end
theorem paired_len {α β : Type} {R : α → β → Prop} : ∀ {xs : List α} {ys : List β}, Paired R xs ys → xs.length = ys.length
  | _, _, .nil => rfl
  | _, _, .cons _ t => congrArg (· + 1) (paired_len t)
theorem paired_app {α β : Type} {R : α → β → Prop} : ∀ {xs xs' : List α} {ys ys' : List β}, Paired R xs ys → Paired R xs' ys' → Paired R (xs ++ xs') (ys ++ ys')
  | _, _, _, _, .nil, s => s
  | _, _, _, _, .cons r t, s => .cons r (paired_app t s)
/-! ### what repr asks -/
theorem showAll_map {α : Type} {f : α → PyData} : ∀ {l : List α}, (∀ x ∈ l, (f x).showable = true) → PyData.showableAll (l.map f) = true
  | [], _ => by simp only [List.map_nil, PyData.showableAll]
  | a :: r, h => by
    simp only [List.map_cons, PyData.showableAll]
    rw [h a (List.mem_cons_self ..), showAll_map fun x hx => h x (List.mem_cons_of_mem _ hx)]
    rfl
theorem depthAll_map {α : Type} {f : α → PyData} {n : Nat} : ∀ {l : List α}, (∀ x ∈ l, (f x).depth ≤ n) → PyData.depthAll (l.map f) ≤ n
  | [], _ => by simp only [List.map_nil, PyData.depthAll]; exact Nat.zero_le _
  | a :: r, h => by
    simp only [List.map_cons, PyData.depthAll]
    exact Nat.max_le.mpr ⟨h a (List.mem_cons_self ..), depthAll_map fun x hx => h x (List.mem_cons_of_mem _ hx)⟩
theorem shownAll_map {α : Type} {f : α → PyData} : ∀ l : List α, PyData.shownAll (l.map f) = l.map fun x => (f x).shown
  | [] => by simp only [List.map_nil, PyData.shownAll]
  | a :: r => by simp only [List.map_cons, PyData.shownAll, shownAll_map r]
theorem sum_le {α : Type} {g : α → Nat} {B : Nat} : ∀ {l : List α}, (∀ x ∈ l, g x ≤ B) → (l.map g).sum ≤ l.length * B
  | [], _ => by simp
  | a :: r, h => by
    rw [List.map_cons, List.sum_cons, List.length_cons, Nat.succ_mul]
    have h1 := h a (List.mem_cons_self ..)
    have h2 := sum_le (l := r) fun x hx => h x (List.mem_cons_of_mem _ hx)
    omega
theorem shown_list_le {α : Type} {f : α → PyData} {B : Nat} {l : List α} (h : ∀ x ∈ l, (f x).shown.length ≤ B) : (PyData.list (l.map f)).shown.length ≤ l.length * B + 2 * l.length + 3 := by
  have e : (PyData.list (l.map f)).shown = listText (l.map fun x => (f x).shown) := by
    simp only [PyData.shown]
    rw [shownAll_map]
  rw [e]
  have h1 := listText_len_le (l.map fun x => (f x).shown)
  rw [List.map_map, List.length_map] at h1
  have h2 : (l.map ((fun x : Str => x.length) ∘ fun x => (f x).shown)).sum ≤ l.length * B := sum_le fun x hx => h x hx
  omega
theorem shown_nm {z : Str} (h : Nm z) : (PyData.str z).shown.length ≤ 82 := by
  simp only [PyData.shown]
  have e := StrLaws.reprText_len z fun c hc => by
    have := (h.2.2 c hc).2
    exact Nat.lt_of_le_of_lt this (by decide)
  have h8 : z.length ≤ 8 := by
    have := h.2.1
    rw [Array.length_toList] at this
    exact this
  omega
theorem shown_int_le {i : Int} (h : i.natAbs < 10 ^ 12) : (PyData.int i).shown.length ≤ 13 := PyData.shown_int_le h
/-! lists of names -/
theorem strs_show (ws : List Str) : (dStrs ws).showable = true := by
  simp only [dStrs, PyData.showable]
  exact showAll_map fun x _ => by simp only [PyData.showable]
theorem strs_depth (ws : List Str) : (dStrs ws).depth ≤ 1 := by
  simp only [dStrs, PyData.depth]
  have := depthAll_map (f := PyData.str) (n := 0) (l := ws) fun x _ => by simp only [PyData.depth]; exact Nat.le_refl _
  omega
theorem strs_len {ws : List Str} (h : ∀ z ∈ ws, Nm z) : (dStrs ws).shown.length ≤ ws.length * 84 + 3 := by
  have := shown_list_le (f := PyData.str) (B := 82) (l := ws) fun x hx => shown_nm (h x hx)
  unfold dStrs
  omega
theorem strss_show (wss : List (List Str)) : (dStrss wss).showable = true := by
  simp only [dStrss, PyData.showable]
  exact showAll_map fun x _ => strs_show x
theorem strss_depth (wss : List (List Str)) : (dStrss wss).depth ≤ 2 := by
  simp only [dStrss, PyData.depth]
  have := depthAll_map (f := dStrs) (n := 1) (l := wss) fun x _ => strs_depth x
  omega
theorem strss_len {wss : List (List Str)} {n : Nat} (h : ∀ ws ∈ wss, ws.length ≤ n ∧ ∀ z ∈ ws, Nm z) : (dStrss wss).shown.length ≤ wss.length * (n * 84 + 5) + 3 := by
  have := shown_list_le (f := dStrs) (B := n * 84 + 3) (l := wss) fun x hx => by
    have h1 := strs_len (h x hx).2
    have h2 : x.length * 84 ≤ n * 84 := Nat.mul_le_mul_right _ (h x hx).1
    omega
  unfold dStrss
  have e : wss.length * (n * 84 + 5) = wss.length * (n * 84 + 3) + 2 * wss.length := by
    rw [show n * 84 + 5 = (n * 84 + 3) + 2 from rfl, Nat.mul_add]
    omega
  omega
theorem ints_show {ns : List Int} (h : ∀ n ∈ ns, n.natAbs < 10 ^ 12) : (dInts ns).showable = true := by
  simp only [dInts, PyData.showable]
  refine showAll_map fun x hx => ?_
  simp only [PyData.showable, decide_eq_true_eq]
  exact Nat.lt_trans (PySem.Flt.log2_lt_of (k := 40) (by decide) (Nat.lt_trans (h x hx) (by decide))) (by decide)
theorem ints_depth (ns : List Int) : (dInts ns).depth ≤ 1 := by
  simp only [dInts, PyData.depth]
  have := depthAll_map (f := PyData.int) (n := 0) (l := ns) fun x _ => by simp only [PyData.depth]; exact Nat.le_refl _
  omega
theorem ints_len {ns : List Int} (h : ∀ n ∈ ns, n.natAbs < 10 ^ 12) : (dInts ns).shown.length ≤ ns.length * 15 + 3 := by
  have := shown_list_le (f := PyData.int) (B := 13) (l := ns) fun x hx => shown_int_le (h x hx)
  unfold dInts
  omega
theorem st_repr {K : PySem.W.Frag} {H : Hp} {Q : VK} {v : V} {d : PyData} (hd : Dp K H v d) (hs : d.showable = true) (hp : d.depth ≤ 50) (hl : d.shown.length ≤ sizeLine) (h : Q (.str d.shown) H) : rReprD K [v] H Q := ⟨v, d, rfl, hd, hs, hp, hl, h⟩
end TB
/-! sorted(t, key=lambda x: (int, int)), t a tuple of references. -/
namespace TB
open PySem PySem.Spec PyProof.Rows L2 LamX NdefX
/-! ### a lambda with parameters is called -/
section
variable {P : Program} {w : World} {K : PySem.W.Frag} {mg : Str → Option Value} {base : Heap} {N ps fr : List Str} {F : NF} {f : Addr} {k : Nat}
theorem lam_call {A : Around} {outer : List Env} {s : Shared} {H : Hp} {us : List Value} {vs : List V} {ws : List (Option V)} {Q : VK} {pm ctv : Value} {body : Expr} {t : TE} (S : NScope N ps fr F.scope)
    (hb : bindArgs (PySem.W.kla_fn "<lambda>" F.qual F.params body F.scope F.cl pm (.ref F.c) ctv) ⟨us, []⟩ = pure (ps.zip us)) (hr : Room (k + 1) A) (e0 : Env0 P w K mg base A outer s H)
    (hf : s.heap.get? f = some (PySem.W.kla_obj "<lambda>" F.qual F.params body F.scope F.cl pm F.c ctv)) (hc : H F.c = some (CodeO F.c F.qual)) (C : CellsAt F.cl fr ws s.heap H) (r : Vals vs us) (hl : vs.length = ps.length)
    (hbody : PE (ncx CX0 P w K mg base N F f A outer s H E0) body t) (ht : t (startF N vs ws) H Q) : codeAny (model P w) A (.call (.ref f) ⟨us, []⟩) (CR CX0 outer P w H s Q E0) s := by
  have lim : s.heap.NoLimit := e0.mod.nolimit.keeps (fun b o e => And.left (e0.bs b o e))
  refine PySem.W.kla_callFunE hr.depth hf rfl S.co S.gen rfl (codeO_at e0.hok hc) ?_
  rw [hb]
  refine wpAny_pure (wpAny_newFunctionEnv S.nocell ?_ ?_ S.kind)
  · rintro ⟨n, v⟩ hy
    exact S.par n (List.of_mem_zip hy).1
  intro h₁ hns hsb
  refine ⟨lim.fresh _ hsb, ?_⟩
  have kp : ∀ b o, s.heap.get? b = some o → h₁.get? b = some o := by
    intro b o e
    exact hsb.extBut b o (Nat.ne_of_lt (Heap.lt_size e)) (Heap.get?_push_of_some _ e)
  have I := inv_startN (f := f) (CX := CX0) (E := E0) (tk := s.toks + (ps.zip us).length) S hr.hd e0 hl r C hns kp
  show codeAny _ _ (.expr body (envF F f s.heap.objs.size)) _ _
  refine PySem.W.kla_codeExpr (wpAny_mono (hbody.run [] _ _ H Q I ht) ?_ (fun _ _ z => z))
  rintro v s' ⟨u, H', J, rv, q⟩
  exact ⟨u, H', J.os, J.bare, J.base, J.hok, rv, q⟩
end
/-! ### the end of the sort -/
open SrtO Srt in
section
variable {prog : Program} {w : World} {A : Around} {E : Value → Shared → Prop} {s : Shared}
theorem pair_fun {h : Heap} {v : Value} {i j i' j' : Int} (a : IsPair h v i j) (b : IsPair h v i' j') : (i, j) = (i', j') := by
  obtain ⟨p, o, t, u, n, e, ho, hc, hd⟩ := a
  obtain ⟨p', o', t', u', n', e', ho', hc', hd'⟩ := b
  rw [e] at e'
  cases e'
  rw [ho] at ho'
  cases ho'
  rw [hd] at hd'
  cases hd'
  rfl
open Classical in
/-- the two numbers of a pair in h -/
noncomputable def kkOf (h : Heap) (v : Value) : Int × Int := if c : ∃ z : Int × Int, IsPair h v z.1 z.2 then c.choose else (0, 0)
theorem kk_eq {h : Heap} {v : Value} {i j : Int} (a : IsPair h v i j) : kkOf h v = (i, j) := by
  have c : ∃ z : Int × Int, IsPair h v z.1 z.2 := ⟨(i, j), a⟩
  unfold kkOf
  rw [dif_pos c]
  exact pair_fun c.choose_spec a
theorem endT {D kS e1 e : Nat} {vs : List Value} {keys : Array Value} {R : PySem.Fin → Shared → Prop} {kk : Value → Int × Int} (hD : s.heap.get? D = some (seqObj "list" #[] e1)) (hS : s.heap.get? kS = some (seqObj "list" keys e)) (hne : kS ≠ D)
    (hz : keys.size = vs.length) (hsz : vs.length ≤ sizeLine) (hp : ∀ v ∈ keys.toList, IsPair s.heap v (kk v).1 (kk v).2)
    (h : ∀ out : Array Keyed, Srtd (lt2 fun v u => lexB (kk v) (kk u)) out.toList → out.toList.Perm (keys.toList.zip vs) →
      R (.done (.ret .none)) { s with heap := (s.heap.update kS (Obj.mapSeq fun _ => #[])).update D (Obj.mapSeq fun _ => out.map (·.2)) }) :
    wpAny (model prog w) A (ksk_end D false vs.toArray e1 (.ref kS) keys) R E s := by
  have hzip : (keys.zip vs.toArray).toList = keys.toList.zip vs := ksk_zip keys vs
  have hD1 : (s.heap.update kS (Obj.mapSeq fun _ => (#[] : Array Value))).get? D = some (seqObj "list" #[] e1) := by
    rw [Heap.get?_update_ne _ _ _ _ (fun z => hne z.symm)]
    exact hD
  have tail : ∀ st : SortSt, Srtd (lt2 fun v u => lexB (kk v) (kk u)) (arrOf st).toList → (arrOf st).toList.Perm (keys.toList.zip vs) → failedOf st = none → wpAny (model prog w) A (ksk_tail D false e1 (.ref kS) st) R E s := by
    intro st h1 h2 h3
    have hl : ((arrOf st).map (·.2)).size ≤ sizeLine + 1 := by
      rw [Array.size_map]
      have q := h2.length_eq
      rw [Array.length_toList, List.length_zip, Array.length_toList, hz, Nat.min_self] at q
      omega
    unfold ksk_tail
    refine wpAny_bind (listUpdate_at hS rfl ?_ (by rw [hz]; exact hsz) (Nat.zero_le _))
    refine wpAny_bind (wpAny_letGo ?_)
    refine wpAny_bind (seqEpoch_at hD1 rfl ?_)
    refine wpAny_bind (listUpdate_at hD1 rfl ?_ (Nat.zero_le _) hl)
    rw [h3]
    simp only [bne_self_eq_false, Bool.false_eq_true, if_false]
    exact wpAny_pure (h (arrOf st) h1 h2)
  unfold ksk_end
  dsimp only
  rw [if_neg (by decide)]
  by_cases h2 : vs.toArray.size < 2
  · rw [if_pos h2, if_pos h2]
    refine wpAny_bind (wpAny_pure ?_)
    rw [StateT.run_pure]
    refine wpAny_bind (wpAny_pure ?_)
    have hl2 : (keys.toList.zip vs).length < 2 := by
      rw [List.length_zip, Array.length_toList, hz, Nat.min_self]
      rw [List.size_toArray] at h2
      exact h2
    refine tail (SortSt.mk' general' (keys.zip vs.toArray) #[] 7 none) ?_ ?_ rfl
    · show Srtd (lt2 fun v u => lexB (kk v) (kk u)) (keys.zip vs.toArray).toList
      rw [hzip]
      generalize keys.toList.zip vs = l at hl2
      match l, hl2 with
      | [], _ => exact List.Pairwise.nil
      | [x], _ => exact srtd_one x
      | _ :: _ :: r, q => exact absurd q (by rw [List.length_cons, List.length_cons]; omega)
    · show (keys.zip vs.toArray).toList.Perm _
      rw [hzip]
  · rw [if_neg h2, if_neg h2]
    rw [List.size_toArray] at h2
    have hO : Swo (fun v u => lexB (kk v) (kk u)) := swo_lex kk
    obtain ⟨κ, hk, hC⟩ := pairs_sortableO (prog := prog) (w := w) (A := A) (s := s) (a := D) (vs := keys.toList) (k := kk) (by rw [Array.length_toList]; omega) hp
      (fun o q z => by
        rw [hD] at q
        cases q
        injection z with z3
        exact absurd z3 (by decide)) s.heap (fun _ _ _ q => q)
    rw [Array.toArray_toList] at hk
    refine wpAny_bind (hk _ _ ?_)
    refine wpAny_bind (wpAny_mono (wpS_sortO (st0 := SortSt.mk' κ (keys.zip vs.toArray) #[] 7 none)
      (Q := fun _ st' => Srtd (lt2 fun v u => lexB (kk v) (kk u)) (arrOf st').toList ∧ (arrOf st').toList.Perm (keys.toList.zip vs) ∧ failedOf st' = none) (swo2 hO) hC rfl ?_ rfl rfl ?_) ?_ (fun _ _ z => z))
    · intro p hm
      have hm2 : p ∈ (keys.zip vs.toArray).toList := hm
      rw [hzip] at hm2
      exact (List.of_mem_zip (a := p.1) (b := p.2) hm2).1
    · intro st' a1 a2 a3
      have a4 : Stb (lt2 fun v u => lexB (kk v) (kk u)) (arrOf st').toList (keys.zip vs.toArray).toList := a2
      rw [hzip] at a4
      exact ⟨a1, a4.perm, a3⟩
    · rintro ⟨⟨⟩, st'⟩ s' ⟨rfl, h1, hp2, hf⟩
      exact tail st' h1 hp2 hf
end
end TB
/-! sorted(t, key=lambda ..) over the layer. -/
namespace TB
open PySem PySem.Spec PyProof.Rows L2 LamX NdefX SrtO Srt
/-- just this object lies at D -/
def AtO (D : Addr) (o : Obj) : HO := .ext fun h => h.get? D = some o
theorem atO_ok {P : Program} {w : World} {H : Hp} {h : Heap} {D : Addr} {o : Obj} (e : h.get? D = some o) : ObjOk P w H h D (AtO D o) := ⟨e, ⟨o, e⟩, fun _ _ p k => k _ p⟩
theorem srt_pairs {kk : Value → Int × Int} {kf : V → Int × Int} {out : List Keyed} (h : Srtd (lt2 fun v u => lexB (kk v) (kk u)) out) (he : ∀ p ∈ out, kk p.1 = kf (backV p.2)) : Srtd (ltP kf) ((out.map (·.2)).map backV) := by
  rw [List.map_map]
  refine List.pairwise_map.mpr (List.Pairwise.imp_of_mem ?_ h)
  intro p q hp hq z
  have z2 : lexB (kk q.1) (kk p.1) = false := z
  rw [he p hp, he q hq] at z2
  exact z2
section
variable {X : Cx} {pins : List (Addr × Obj)} {σ : L2.St} {H : Hp} {s : Shared} {N fr : List Str} {x0 : Str} {F : NF} {f a : Addr} {js : List Nat} {k : Nat} {xs : List V} {kf : V → Int × Int} {Q : VK} {pm ctv : Value} {body : Expr}
/-- what stands when j keys are made -/
def KeysAt (X : Cx) (pins : List (Addr × Obj)) (σ : L2.St) (H : Hp) (D kS f : Addr) (oD oF : Obj) (xs : List V) (kf : V → Int × Int) (j : Nat) (s : Shared) : Prop :=
  ∃ (Hi : Hp) (ks : List V), Inv X pins σ Hi s ∧ Same H Hi ∧ (NoT H → NoT Hi) ∧ Hi D = some (AtO D oD) ∧ Hi kS = some (.lst ks) ∧ Hi f = none ∧ s.heap.get? f = some oF ∧ ks.length = j ∧
    ∀ (i : Nat) (z : V), ks[i]? = some z → ∃ (t : Addr) (y : V), z = .ref t ∧ xs[i]? = some y ∧ Hi t = some (.tup [.int (kf y).1, .int (kf y).2])
theorem sortLam_run (I : Inv X pins σ H s) (ht : SqT X.K H a xs) (hx : ∀ x ∈ xs, ∃ t, x = V.ref t)
    (hf : s.heap.get? f = some (PySem.W.kla_obj "<lambda>" F.qual F.params body F.scope F.cl pm F.c ctv)) (hfn : H f = none) (hfr : f ∉ frs X.stack) (hc : H F.c = some (CodeO F.c F.qual)) (cp : Caps X F.cl fr js) (S : NScope N [x0] fr F.scope)
    (hb : ∀ u : Value, bindArgs (PySem.W.kla_fn "<lambda>" F.qual F.params body F.scope F.cl pm (.ref F.c) ctv) ⟨[u], []⟩ = pure ([x0].zip [u])) (hr : Room (k + 3) X.A)
    (hkey : ∀ x ∈ xs, ∀ (A : Around) (outer : List Env) (s' : Shared) (H' : Hp), Room k (A.deeper (envF F f s'.heap.objs.size)) → Same H H' →
      ∃ t, PE (ncx CX0 X.prog X.w X.K X.mg X.base N F f A outer s' H' E0) body t ∧ ∀ Q : VK, (∀ p, H' p = none → Q (.ref p) (upd H' p (.tup [.int (kf x).1, .int (kf x).2]))) → t (startF N [x] (js.map (slotAt σ))) H' Q)
    (q : ∀ (ys : List V) (D : Addr) (H' : Hp), ys.Perm xs → Srtd (ltP kf) ys → Same H H' → (NoT H → NoT H') → H D = none → H' D = some (.lst ys) → Q (.ref D) H') :
    wpAny (model X.prog X.w) X.A (call (.builtin "sorted") [.ref a] [(Str.ofString "key", .ref f)]) (EP X pins σ Q) X.xe s := by
  obtain ⟨its, rv, ⟨o, ho, hoc, n, hod⟩, hz⟩ := I.tuple ht
  have hzl : its.length ≤ sizeLine := by
    rw [← rv.length]
    exact hz
  refine call_function_entry_kw kind_sorted plain_sorted entry_sorted (ksk_s1 _ _) ?_
  unfold Builtin.«sorted»
  refine wpAny_bind (m := checkCount "sorted" 1 1 _) (wpAny_pure ?_)
  refine wpAny_bind (wpAny_collect_seq a (Or.inr rfl) ho hoc hod (fun h1 kp1 => ?_) (by rw [List.size_toArray]; exact hzl))
  rw [List.toList_toArray]
  refine wpAny_bind (wpAny_newList ?_ hzl)
  have hoL : (h1.push (seqObj "list" its.toArray 0)).get? h1.objs.size = some (seqObj "list" its.toArray 0) := Heap.get?_push_size _ rfl
  obtain ⟨e1, ho3⟩ : ∃ e1, ((h1.push (seqObj "list" its.toArray 0)).update h1.objs.size (Obj.mapSeq fun _ => (#[] : Array Value))).get? h1.objs.size = some (seqObj "list" #[] e1) := ⟨_, get?_update_seq hoL (fun _ => #[])⟩
  have hs3 : ((h1.push (seqObj "list" its.toArray 0)).update h1.objs.size (Obj.mapSeq fun _ => (#[] : Array Value))).objs.size = h1.objs.size + 1 := by
    rw [Heap.size_update, size_push']
  have kp3 : ∀ b u, h1.get? b = some u → ((h1.push (seqObj "list" its.toArray 0)).update h1.objs.size (Obj.mapSeq fun _ => (#[] : Array Value))).get? b = some u := by
    intro b u e
    rw [Heap.get?_update_ne _ _ _ _ (Nat.ne_of_lt (Heap.lt_size e))]
    exact Heap.get?_push_of_some _ e
  refine wpAny_bind (wpAny_holding (wpAny_call_entry_kw slot_list_sort ⟨_, hoL, rfl⟩ entry_list_sort ?body (ksk_l1 _ _)))
  show wpAny (model X.prog X.w) X.A.in1.in1 (Builtin.«list.sort» ⟨[.ref h1.objs.size], [(Str.ofString "key", .ref f)]⟩) _ _ { s with heap := h1.push (seqObj "list" its.toArray 0) }
  rw [ksk_t1]
  unfold ksk_tree
  refine wpAny_bind (listItems_at hoL rfl ?_)
  refine wpAny_bind (listUpdate_at hoL rfl ?_ (by rw [List.size_toArray]; exact hzl) (Nat.zero_le _))
  refine wpAny_bind (seqEpoch_at ho3 rfl ?_)
  refine wpAny_bind (wpAny_newTuple ?_ (by show its.toArray.toList.length ≤ _; rw [List.toList_toArray]; exact hzl))
  refine wpAny_bind (wpAny_newList ?_ (Nat.zero_le _))
  refine wpAny_holding ?_
  generalize hh3 : (h1.push (seqObj "list" its.toArray 0)).update h1.objs.size (Obj.mapSeq fun _ => (#[] : Array Value)) = h3 at ho3 hs3 kp3
  show wpAny (model X.prog X.w) X.A.in1.in1 (ksk_rest h1.objs.size (.ref f) false its.toArray e1 (.ref (h3.push { cls := .type "tuple", data := .seq its.toArray.toList.toArray }).objs.size)) _ _ { s with heap := (h3.push { cls := .type "tuple", data := .seq its.toArray.toList.toArray }).push { cls := .type "list", data := .seq ([] : List Value).toArray } }
  generalize hh4 : h3.push { cls := .type "tuple", data := .seq its.toArray.toList.toArray } = h4
  have hs4 : h4.objs.size = h1.objs.size + 2 := by
    rw [← hh4, size_push', hs3]
  have kp4 : ∀ b u, h3.get? b = some u → h4.get? b = some u := by
    intro b u e
    rw [← hh4]
    exact Heap.get?_push_of_some _ e
  have kp5 : ∀ b u, h4.get? b = some u → (h4.push { cls := .type "list", data := .seq ([] : List Value).toArray }).get? b = some u := fun b u e => Heap.get?_push_of_some _ e
  -- the state at the first key
  have I0 : Inv X pins σ H { s with heap := h1, toks := s.toks } := I.kept kp1
  have I1 : Inv X pins σ (upd H h1.objs.size (AtO h1.objs.size (seqObj "list" #[] e1))) { s with heap := h4, toks := s.toks } := I0.laid (a := h1.objs.size) (fun b u e => kp4 b u (kp3 b u e)) (Nat.le_refl _) (atO_ok (kp4 _ _ ho3))
  have nD : H h1.objs.size = none := I0.hok.fresh (Nat.le_refl _)
  have nS1 : upd H h1.objs.size (AtO h1.objs.size (seqObj "list" #[] e1)) h4.objs.size = none := I1.hok.fresh (Nat.le_refl _)
  have I2 : Inv X pins σ (upd (upd H h1.objs.size (AtO h1.objs.size (seqObj "list" #[] e1))) h4.objs.size (.lst [])) { s with heap := h4.push { cls := .type "list", data := .seq ([] : List Value).toArray }, toks := s.toks } :=
    I1.laid (a := h4.objs.size) kp5 (Nat.le_refl _) ⟨Nat.zero_le _, [], 0, .nil, Heap.get?_push_size _ rfl⟩
  have nS : H h4.objs.size = none := (nil_upd nS1).2
  have neSD : h4.objs.size ≠ h1.objs.size := by omega
  have hfl : f < h1.objs.size := Heap.lt_size (kp1 f _ hf)
  have start : KeysAt X pins σ H h1.objs.size h4.objs.size f (seqObj "list" #[] e1) (PySem.W.kla_obj "<lambda>" F.qual F.params body F.scope F.cl pm F.c ctv) xs kf 0 { s with heap := h4.push { cls := .type "list", data := .seq ([] : List Value).toArray } } := by
    refine ⟨_, [], I2, ?_, ?_, ?_, upd_same, ?_, ?_, rfl, ?_⟩
    · intro b u e
      exact old_upd nS1 (old_upd nD e)
    · intro nt
      exact NoT.upd (o := .lst []) (NoT.upd (o := AtO h1.objs.size (seqObj "list" #[] e1)) nt trivial) trivial
    · rw [upd_ne neSD.symm, upd_same]
    · rw [upd_ne (Nat.ne_of_lt (Nat.lt_of_lt_of_le hfl (by rw [hs4]; exact Nat.le_add_right _ _))), upd_ne (Nat.ne_of_lt hfl)]
      exact hfn
    · exact kp5 _ _ (kp4 _ _ (kp3 _ _ (kp1 _ _ hf)))
    · intro i z e
      exact nomatch (show (none : Option V) = some z from e)
  have hm : ∀ (s' : Shared), KeysAt X pins σ H h1.objs.size h4.objs.size f (seqObj "list" #[] e1) (PySem.W.kla_obj "<lambda>" F.qual F.params body F.scope F.cl pm F.c ctv) xs kf its.length s' → ∀ (kA : Array Value) (e : Nat), s'.heap.get? h4.objs.size = some (seqObj "list" kA e) →
      wpAny (model X.prog X.w) X.A.in1.in1 (ksk_end h1.objs.size false its.toArray e1 (.ref h4.objs.size) kA) (fun r s2 => ∃ v, r = .done (.ret v) ∧ EP X pins σ Q (.ref h1.objs.size) s2) X.xe s' := by
    rintro s' ⟨Hi, ks, J, sm, nt, hD, hS, hf0, hf1, hkl, hks⟩ kA e hk
    obtain ⟨zk, iks, n2, rk, ek⟩ := J.hok _ _ hS
    have eA : kA = iks.toArray := by
      rw [hk] at ek
      cases ek
      rfl
    have hDo : s'.heap.get? h1.objs.size = some (seqObj "list" #[] e1) := (J.hok _ _ hD).1
    have szk : kA.size = its.length := by
      rw [eA, List.size_toArray, ← rk.length, hkl]
    have isP : ∀ (i : Nat) (u : Value), kA.toList[i]? = some u → ∃ y, xs[i]? = some y ∧ IsPair s'.heap u (kf y).1 (kf y).2 := by
      intro i u hu
      rw [eA, List.toList_toArray] at hu
      have hi : i < ks.length := by
        rw [rk.length]
        exact (List.getElem?_eq_some_iff.mp hu).1
      obtain ⟨t, y, ez, hy, hty⟩ := hks i _ (List.getElem?_eq_getElem hi)
      obtain ⟨u2, hu2, ru⟩ := rk.get (List.getElem?_eq_getElem hi)
      rw [hu] at hu2
      cases hu2
      rw [ez] at ru
      obtain rfl : u = Value.ref t := ru
      obtain ⟨_, its2, r2, o2, g1, g2, n3, g3⟩ := J.hok _ _ hty
      obtain ⟨v1, v2, rfl, ri, rj⟩ := vals2 r2
      obtain ⟨t1, rfl⟩ := ri
      obtain ⟨t2, rfl⟩ := rj
      exact ⟨y, hy, t, o2, t1, t2, n3, rfl, g1, g2, g3⟩
    refine endT (kk := kkOf s'.heap) hDo hk neSD szk hzl ?_ ?_
    · intro v hv
      obtain ⟨i, hi⟩ := List.mem_iff_getElem?.mp hv
      obtain ⟨y, _, hp⟩ := isP i v hi
      rw [kk_eq hp]
      exact hp
    · intro out h2 h3p
      have h4p : ∀ p ∈ out.toList, kkOf s'.heap p.1 = kf (backV p.2) ∧ ∃ t, p.2 = Value.ref t := by
        intro p hp
        obtain ⟨i, hi⟩ := List.mem_iff_getElem?.mp (h3p.mem_iff.mp hp)
        rw [List.getElem?_zip_eq_some] at hi
        obtain ⟨y, hy, hpp⟩ := isP i _ hi.1
        obtain ⟨u, hu, ru⟩ := rv.get hy
        rw [hi.2] at hu
        cases hu
        obtain ⟨t, et⟩ := hx y (List.mem_of_getElem? hy)
        rw [et] at ru
        have ru2 : p.2 = Value.ref t := ru
        rw [kk_eq hpp, ru2, et]
        exact ⟨rfl, t, rfl⟩
      have hpm : (out.toList.map (·.2)).Perm its := by
        have z := h3p.map (fun p : Keyed => p.2)
        rw [List.map_snd_zip (Nat.le_of_eq (szk.symm.trans Array.length_toList.symm))] at z
        exact z
      have hrefs : ∀ u ∈ out.toList.map (·.2), ∃ t, u = Value.ref t := by
        intro u hu
        obtain ⟨p, hp, rfl⟩ := List.mem_map.mp hu
        exact (h4p p hp).2
      obtain ⟨e2, _⟩ := refs_back rv hx
      have hpx : ((out.toList.map (·.2)).map backV).Perm xs := by
        rw [e2]
        exact hpm.map backV
      have hsr := srt_pairs h2 (fun p hp => (h4p p hp).1)
      have hk1 : (s'.heap.update h4.objs.size (Obj.mapSeq fun _ => (#[] : Array Value))).get? h1.objs.size = some (seqObj "list" #[] e1) := by
        rw [Heap.get?_update_ne _ _ _ _ neSD.symm]
        exact hDo
      have J1 : Inv X pins σ (upd Hi h4.objs.size (.lst [])) { s' with heap := s'.heap.update h4.objs.size (Obj.mapSeq fun _ => (#[] : Array Value)), toks := s'.toks } := by
        refine J.write (e := h4.objs.size) (by rw [hS]; trivial) (Or.inl rfl) ?_ ⟨_, get?_update_seq hk fun _ => #[]⟩ ⟨Nat.zero_le _, [], _, .nil, get?_update_seq hk fun _ => #[]⟩
        intro b u hbn hu
        rw [Heap.get?_update_ne _ _ _ _ hbn]
        exact hu
      have hD1 : upd Hi h4.objs.size (.lst []) h1.objs.size = some (AtO h1.objs.size (seqObj "list" #[] e1)) := by
        rw [upd_ne neSD.symm]
        exact hD
      have eo : out.map (fun p : Keyed => p.2) = (out.toList.map (fun p : Keyed => p.2)).toArray := by
        apply Array.ext'
        rw [Array.toList_map]
      obtain ⟨c2, hc2⟩ : ∃ c2, ((s'.heap.update h4.objs.size (Obj.mapSeq fun _ => (#[] : Array Value))).update h1.objs.size (Obj.mapSeq fun _ => out.map (·.2))).get? h1.objs.size = some (seqObj "list" (out.map (·.2)) c2) := ⟨_, get?_update_seq hk1 fun _ => out.map (·.2)⟩
      have J2 : Inv X pins σ (upd (upd Hi h4.objs.size (.lst [])) h1.objs.size (.lst ((out.toList.map (·.2)).map backV))) { s' with heap := (s'.heap.update h4.objs.size (Obj.mapSeq fun _ => (#[] : Array Value))).update h1.objs.size (Obj.mapSeq fun _ => out.map (·.2)), toks := s'.toks } := by
        refine J1.write (e := h1.objs.size) (by rw [hD1]; trivial) (Or.inl rfl) ?_ ⟨_, hc2⟩ ⟨?_, out.toList.map (·.2), c2, vals_back hrefs, by rw [← eo]; exact hc2⟩
        · intro b u hbn hu
          rw [Heap.get?_update_ne _ _ _ _ hbn]
          exact hu
        · rw [hpx.length_eq]
          exact hz
      refine ⟨_, rfl, .ref h1.objs.size, _, J2, rfl, q _ _ _ hpx hsr ?_ ?_ nD upd_same⟩
      · intro b u e
        rw [upd_ne (ne_of_none e nD), upd_ne (ne_of_none e nS)]
        exact sm b u e
      · intro nt0
        exact NoT.upd (o := .lst ((out.toList.map (·.2)).map backV)) (NoT.upd (o := .lst []) (nt nt0) trivial) trivial
  refine wpAny_mono (Q := fun r s2 => ∃ v, r = .done (.ret v) ∧ EP X pins σ Q (.ref h1.objs.size) s2) ?_ ?_ (fun _ _ z => z)
  · unfold ksk_rest
    refine wpAny_bind (wpAny_rule ?_)
    rw [← Array.forIn_toList, List.toList_toArray]
    refine wpAny_bind (ksk_fold (KeysAt X pins σ H h1.objs.size h4.objs.size f (seqObj "list" #[] e1) (PySem.W.kla_obj "<lambda>" F.qual F.params body F.scope F.cl pm F.c ctv) xs kf) its 0 _ start ?_ ?_)
    · rintro j u s' hu ⟨Hi, ks, J, sm, nt, hD, hS, hf0, hf1, hkl, hks⟩
      rw [Nat.zero_add] at hkl
      have hj : j < xs.length := by
        rw [rv.length]
        exact (List.getElem?_eq_some_iff.mp hu).1
      obtain ⟨u2, hu2, ru⟩ := rv.get (List.getElem?_eq_getElem hj)
      rw [hu] at hu2
      cases hu2
      have hmx : xs[j] ∈ xs := List.getElem_mem hj
      have hrm : Room (k + 1) X.A.in1.in1 := Room.in1 (Room.in1 hr)
      obtain ⟨t, hpe, htq⟩ := hkey xs[j] hmx X.A.in1.in1 X.stack s' Hi (hrm.deeper _) sm
      have call1 := lam_call (P := X.prog) (w := X.w) (K := X.K) (mg := X.mg) (base := X.base) (A := X.A.in1.in1) (outer := X.stack) (vs := [xs[j]]) (us := [u]) (Q := fun v H'' => ∃ p, Hi p = none ∧ v = .ref p ∧ H'' = upd Hi p (.tup [.int (kf xs[j]).1, .int (kf xs[j]).2]))
        S (hb u) hrm (Env0.in1 (Env0.in1 J.env0)) hf1 (sm _ _ hc) (cells_of J cp) (.cons ru .nil) rfl hpe (htq _ (fun p np => ⟨p, np, rfl, rfl⟩))
      refine wpAny_bind (wpAny_attempt (wpAny_call (codeAny_mono call1 ?_)))
      rintro (er | (_ | _ | _ | v)) s2 hq
      · exact hq.elim
      · exact hq.elim
      · exact hq.elim
      · exact hq.elim
      have un : ∃ H2, Un (frs X.stack) [] Hi H2 s'.heap s2.heap := by
        obtain ⟨_, H2, _, _, un, _⟩ := hq
        exact ⟨H2, un⟩
      obtain ⟨H2', un⟩ := un
      have hf2 := un.keep f _ hf1 hf0 hfr (fun z => nomatch z)
      obtain ⟨vv, H2, J2, r2, p, np, rfl, rfl⟩ := J.after hq
      obtain rfl : v = Value.ref p := r2
      have neS : h4.objs.size ≠ p := ne_of_none hS np
      have neD : h1.objs.size ≠ p := ne_of_none hD np
      have hS2 : upd Hi p (.tup [.int (kf xs[j]).1, .int (kf xs[j]).2]) h4.objs.size = some (.lst ks) := by
        rw [upd_ne neS]
        exact hS
      have nef : f ≠ p := by
        intro z
        have z2 := un.free f _ hf1 hf0 (fun z => nomatch z)
        obtain ⟨oo, hoo⟩ : ∃ oo, s2.heap.get? p = some oo := by
          obtain ⟨_, _, _, o2, g1, _⟩ := J2.hok p _ upd_same
          exact ⟨o2, g1⟩
        obtain ⟨_, _, _, o2, g1, g2, _⟩ := J2.hok p _ upd_same
        rw [← z, hf2] at g1
        cases g1
        injection g2 with g3
        exact absurd g3 (by decide)
      obtain ⟨zk, iks, n2, rk, ek⟩ := J2.hok _ _ hS2
      have lk : iks.length = ks.length := rk.length.symm
      have hjl : j < sizeLine := Nat.lt_of_lt_of_le hj hz
      show wpAny _ _ (do Builtin.List.listUpdate (.ref h4.objs.size) (·.push (Value.ref p)); pure (ForInStep.yield PUnit.unit)) _ _ s2
      refine wpAny_bind (listUpdate_at ek rfl ?_ (by rw [List.size_toArray, lk]; omega) (by rw [Array.size_push, List.size_toArray, lk]; omega))
      refine wpAny_pure ⟨rfl, ?_⟩
      obtain ⟨e5, hnew⟩ : ∃ e5, (s2.heap.update h4.objs.size (Obj.mapSeq (·.push (Value.ref p)))).get? h4.objs.size = some (seqObj "list" (iks ++ [Value.ref p]).toArray e5) := by
        have z := get?_update_seq ek (·.push (Value.ref p))
        rw [List.push_toArray] at z
        exact ⟨_, z⟩
      refine ⟨upd (upd Hi p (.tup [.int (kf xs[j]).1, .int (kf xs[j]).2])) h4.objs.size (.lst (ks ++ [.ref p])), ks ++ [.ref p], ?_, ?_, ?_, ?_, upd_same, ?_, ?_, ?_, ?_⟩
      · refine J2.write (t' := s2.toks) (e := h4.objs.size) (by rw [hS2]; trivial) (Or.inl rfl) ?_ ⟨_, hnew⟩ ⟨?_, iks ++ [.ref p], e5, rk.append (show Vals [V.ref p] [Value.ref p] from .cons rfl .nil), hnew⟩
        · intro b w' hbn hw
          rw [Heap.get?_update_ne _ _ _ _ hbn]
          exact hw
        · rw [List.length_append]
          show ks.length + 1 ≤ _
          omega
      · intro b w' e
        rw [upd_ne (ne_of_none e nS)]
        exact old_upd np (sm b w' e)
      · intro nt0
        exact NoT.upd (o := .lst (ks ++ [.ref p])) (NoT.upd (o := .tup [.int (kf xs[j]).1, .int (kf xs[j]).2]) (nt nt0) trivial) trivial
      · rw [upd_ne neSD.symm, upd_ne neD]
        exact hD
      · rw [upd_ne (fun z => by rw [z, hS] at hf0; exact nomatch hf0), upd_ne nef]
        exact hf0
      · rw [Heap.get?_update_ne _ _ _ _ (fun z => by rw [z, hS] at hf0; exact nomatch hf0)]
        exact hf2
      · rw [List.length_append, hkl, Nat.zero_add]
        rfl
      · intro i z hz2
        by_cases hi : i < ks.length
        · rw [List.getElem?_append_left hi] at hz2
          obtain ⟨t2, y, ez, hy, hty⟩ := hks i z hz2
          refine ⟨t2, y, ez, hy, ?_⟩
          rw [upd_ne (ne_of hty hS (by simp)), upd_ne (ne_of_none hty np)]
          exact hty
        · rw [List.getElem?_append_right (by omega)] at hz2
          have hi2 : i - ks.length = 0 := by
            have z3 := (List.getElem?_eq_some_iff.mp hz2).1
            rw [List.length_singleton] at z3
            omega
          rw [hi2] at hz2
          have ez : z = .ref p := (Option.some.inj hz2).symm
          have hij : i = j := by omega
          subst hij
          refine ⟨p, xs[i], ez, List.getElem?_eq_getElem hj, ?_⟩
          rw [upd_ne (fun z3 => neS z3.symm), upd_same]
    · intro s' hA
      rw [Nat.zero_add] at hA
      obtain ⟨Hi, ks, J, sm, nt, hD, hS, hf0, hf1, hkl, hks⟩ := id hA
      obtain ⟨zk, iks, n2, rk, ek⟩ := J.hok _ _ hS
      refine wpAny_bind (listItems_at ek rfl ?_)
      exact hm s' hA _ _ ek
  · rintro r s2 ⟨v, rfl, ep⟩
    refine ⟨_, rfl, wpAny_pure ?_⟩
    exact ⟨_, rfl, ep⟩
end
end TB
/-! sorted(e, key=lambda ..) as an expression. -/
namespace TB
open PySem PySem.Spec PyProof.Rows L2 LamX NdefX SrtO Srt
/-- from H to H': but for the table at P all that was is there, the table is one still -/
structure Tg (P : Addr) (q : Str) (H H' : Hp) : Prop where
  kp : Kp [P] H H'
  tab : TabS H' P q
  nt : NoT H → NoT H'
def tSortLam (K : PySem.W.Frag) (P : Addr) (q : Str) (N : List Str) (js : List Nat) (tb : TE) (t : TA) : TE := fun σ H Q => t σ H fun vs H1 => ∃ (a : Addr) (xs : List V) (kf : V → Int × Int), vs = [.ref a] ∧ SqT K H1 a xs ∧ (∀ x ∈ xs, ∃ b, x = V.ref b) ∧ TabS H1 P q ∧
  (∀ x ∈ xs, ∀ H', ExtN H1 H' → ∀ Q' : VK, (∀ p, H' p = none → Q' (.ref p) (upd H' p (.tup [.int (kf x).1, .int (kf x).2]))) → tb (startF N [x] (js.map (slotAt σ))) H' Q') ∧
  ∀ (ys : List V) (D : Addr) (H' : Hp), ys.Perm xs → Srtd (ltP kf) ys → Tg P q H1 H' → H1 D = none → H' D = some (.lst ys) → Q (.ref D) H'
section
variable {X : Cx} {x : Str} {p pos kpos lpos : Pos} {e : Expr} {t : TA} {N fr : List Str} {x0 : Str} {js : List Nat} {k : Nat} {c P : Addr} {params : Arguments} {body : Expr} {scope : Scope} {tb : TE}
theorem sqT_extN {K : PySem.W.Frag} {H H' : Hp} {a : Addr} {xs : List V} (h : SqT K H a xs) (e : ExtN H H') : SqT K H' a xs := by
  rcases h with (z | ⟨o, z⟩) | z
  · exact Or.inl (Or.inl (e _ _ z (fun ps => by simp)))
  · exact Or.inl (Or.inr ⟨o, e _ _ z (fun ps => by simp)⟩)
  · exact Or.inr z
theorem codeO_noT {c : Addr} {q : Str} : noT (CodeO c q) := trivial
/-- the lambda's object is made at f; its code object c' is known then -/
theorem lam_made {pins : List (Addr × Obj)} {σ : L2.St} {H : Hp} {s : Shared} {E : Value → Shared → Prop} {Q : Value → Shared → Prop} (I : Inv X pins σ H s) (tb0 : TabB X.base X.mg c P) (hcode : X.env.code = .ref c) (hT : TabS H P (X.env.qual ++ "<lambda>"))
    (hdef : defaultsOf params X.env = ([], [])) (hcl : ∀ y ∈ scope.names, y.2 = .free → ∃ d, X.env.cells.lookup y.1 = some d)
    (h : ∀ (f c' : Addr) (pm ctv : Value) (H1 : Hp) (s' : Shared), Inv X pins σ H1 s' → Tg P (X.env.qual ++ "<lambda>") H H1 → (∀ b, H1 b = none → H b = none) → s'.heap.get? f = some (PySem.W.kla_obj "<lambda>" (X.env.qual ++ "<lambda>") params body scope (cloFrom X.env.cells scope.names []) pm c' ctv) →
      H1 f = none → f ∉ frs X.stack → H1 c' = some (CodeO c' (X.env.qual ++ "<lambda>")) → Q (.ref f) s') :
    wpAny (model X.prog X.w) X.A (eval (.Lambda params body scope lpos) X.env) Q E s := by
  obtain ⟨ps, hP, tri, cod⟩ := hT
  refine PySem.W.kla_eval hdef ?_
  have hb0 : s.heap.BuiltinsAt X.mg P := tb0.bm.keeps I.bk
  have hP0 : s.heap.get? P = some { cls := .none, data := .fields ps } := I.hok P _ hP
  have fresh : ∀ g : Addr, s.heap.objs.size ≤ g → g ∉ frs X.stack := by
    intro g hg z
    rcases List.mem_cons.mp (I.stkSub _ z) with z1 | z1
    · have z2 := I.lt
      rw [← z1] at z2
      exact absurd (Nat.lt_of_lt_of_le z2 hg) (Nat.lt_irrefl _)
    · exact I.nofs hg z1
  match hc : codeAmong lpos ps.toList with
  | some cv =>
    obtain ⟨c', rfl, hco⟩ := cod lpos cv hc
    refine PySem.W.kla_makeFunctionHit (c := c) (ps := ps) (closure_ok hcl) I.ok.glob (I.mod.glob.keeps I.bk) hcode (tb0.code.keeps I.bk) hP0 tri hc hb0 ?_
    intro ctv h' tk keep hsz
    refine h h'.objs.size c' _ ctv H _ (I.kept fun b o z => Heap.get?_push_of_some _ (keep b o z)) ⟨Kp.refl H, ⟨ps, hP, tri, cod⟩, id⟩ (fun _ z => z) (Heap.get?_push_size _ rfl) (I.hok.fresh hsz) (fresh _ hsz) hco
  | none =>
    refine PySem.W.kla_makeFunction (c := c) (ps := ps) (closure_ok hcl) I.ok.glob (I.mod.glob.keeps I.bk) hcode (tb0.code.keeps I.bk) hP0 tri hc tb0.gP hb0 ?_
    intro c' ctv h' tk keep hge hlt hrec htab
    obtain ⟨c2, oc, flds, tok, ec, hoc, hdat, hfl⟩ := hrec
    cases ec
    have hsz : s.heap.objs.size ≤ h'.objs.size := Nat.le_of_lt (Nat.lt_of_le_of_lt hge hlt)
    have nC : H c' = none := I.hok.fresh hge
    have nPC : P ≠ c' := ne_of_none hP nC
    have hatP : upd (upd H P (.tbl (ps ++ #[rawInt lpos.line, rawInt lpos.col, .ref c']))) c' (CodeO c' (X.env.qual ++ "<lambda>")) P = some (.tbl (ps ++ #[rawInt lpos.line, rawInt lpos.col, .ref c'])) := by
      rw [upd_ne nPC, upd_same]
    have K1 : Kp [P] H (upd (upd H P (.tbl (ps ++ #[rawInt lpos.line, rawInt lpos.col, .ref c']))) c' (CodeO c' (X.env.qual ++ "<lambda>"))) := by
      intro b o e m
      rw [upd_ne (ne_of_none e nC), upd_ne (fun z => m (List.mem_singleton.mpr z))]
      exact e
    have lst : (ps ++ #[rawInt lpos.line, rawInt lpos.col, .ref c']).toList = ps.toList ++ [rawInt lpos.line, rawInt lpos.col, .ref c'] := by
      rw [Array.toList_append]
    refine h h'.objs.size c' _ ctv _ _ (inv_table (t' := tk) (more := #[rawInt lpos.line, rawInt lpos.col, .ref c']) I hP (fun b o hbn z => Heap.get?_push_of_some _ (keep b o hbn z)) (Heap.get?_push_of_some _ htab) hge ⟨oc, flds, tok, Heap.get?_push_of_some _ hoc, hdat, hfl⟩)
      ⟨K1, ⟨_, hatP, ?_, ?_⟩, ?_⟩ ?_ (Heap.get?_push_size _ rfl) ?_ (fresh _ hsz) upd_same
    · rw [lst]
      exact PySem.TriplesOk_snoc _ _ _ _ tri
    · intro pos' cv hcv
      rw [lst] at hcv
      rcases among_app _ tri hcv with z | z
      · obtain ⟨d, rfl, hd⟩ := cod pos' cv z
        exact ⟨d, rfl, K1 _ _ hd (fun m => by
          rw [List.mem_singleton] at m
          rw [m, hP] at hd
          exact codeO_ne ps (Option.some.inj hd).symm)⟩
      · exact ⟨c', z, upd_same⟩
    · intro nt0
      exact NoT.upd (NoT.upd (o := .tbl _) nt0 trivial) codeO_noT
    · intro b e
      exact (nil_upd (nil_upd e).2).2
    · have z1 : h'.objs.size ≠ c' := Nat.ne_of_gt hlt
      have z2 : h'.objs.size ≠ P := Nat.ne_of_gt (Nat.lt_of_lt_of_le (Heap.lt_size hP0) hsz)
      rw [upd_ne z1, upd_ne z2]
      exact I.hok.fresh hsz
theorem kp_extN {H H' : Hp} {q : Str} (h : Kp [P] H H') (t : TabS H P q) : ExtN H H' := by
  intro b o e n
  refine h b o e (fun m => ?_)
  rw [List.mem_singleton] at m
  obtain ⟨ps, hP, _⟩ := t
  rw [m, hP] at e
  exact n ps (Option.some.inj e).symm
theorem pe_sortedLam (tb0 : TabB X.base X.mg c P) (hcode : X.env.code = .ref c) (hdef : defaultsOf params X.env = ([], [])) (hfree : ∀ y ∈ scope.names, y.2 = .free → X.env.scope.names.lookup y.1 = some .cell ∨ X.env.scope.names.lookup y.1 = some .free)
    (hfr : ∀ y ∈ fr, (y, NameKind.free) ∈ scope.names) (hjs : js.map (fun j => X.N[j]?) = fr.map some) (S : NScope N [x0] fr scope) (hr : Room (k + 3) X.A)
    (hb : ∀ (pm ctv u : Value) (c' : Addr) (cl : List (Str × Addr)), bindArgs (PySem.W.kla_fn "<lambda>" (X.env.qual ++ "<lambda>") params body scope cl pm (.ref c') ctv) ⟨[u], []⟩ = pure ([x0].zip [u]))
    (hbody : ∀ (cl : List (Str × Addr)) (c' f : Addr) (A : Around) (outer : List Env) (s' : Shared) (H' : Hp), Room k (A.deeper (envF ⟨"<lambda>", X.env.qual ++ "<lambda>", params, [], scope, cl, c'⟩ f s'.heap.objs.size)) → PE (ncx CX0 X.prog X.w X.K X.mg X.base N ⟨"<lambda>", X.env.qual ++ "<lambda>", params, [], scope, cl, c'⟩ f A outer s' H' E0) body tb)
    (hg : Gl X x) (hm : X.mg x = none) (hv : bootBuiltins x = some (.builtin "sorted")) (ha : PA X [e] t) (hn : x ≠ "__name__" := by decide) (hdb : (x == ("__debug__" : Str)) = false := by decide)
    (he : backTo pos (starEach [e] X.env) = (false, eval e X.env) :: backTo pos (starEach [] X.env) := by rfl) (hpl : (backTo pos (starEach [e] X.env)).any (·.1) = false := by rfl) :
    PE X (.Call (.Name x p) [e] [⟨some "key", .Lambda params body scope lpos, kpos⟩] pos) (tSortLam X.K P (X.env.qual ++ "<lambda>") N js tb t) := by
  refine ⟨fun pins s σ H Q I h => ?_⟩
  refine wpAny_Call_Name_kw (ld_blt I hg hm hv ?_ hn hdb)
  refine PyProof.Rows.callWith_kw (thn (ha.run pos pins s σ H _ I h) ?_) he hpl rfl rfl
  rintro us s1 ⟨vs, H1, I1, r1, a, xs, kf, rfl, hsq, hxs, hT, hkey, q⟩
  obtain rfl := Vals.ref1 r1
  have hcl : ∀ y ∈ scope.names, y.2 = .free → ∃ c, X.env.cells.lookup y.1 = some c := fun y hy z => (hfree y hy z).elim (fun z => I.ok.has _ (Or.inl z)) (fun z => I.ok.has _ (Or.inr z))
  show wpAny _ _ (evalAll [(do let v ← eval (.Lambda params body scope lpos) X.env; standAt pos; pure v)]) _ _ s1
  refine wpAny_evalAll_cons (wpAny_bind (lam_made I1 tb0 hcode hT hdef hcl ?_))
  intro f c' pm ctv H2 s2 I2 tg old hf hfn hfrs hco
  refine wpAny_bind (wpAny_standAt (wpAny_pure (wpAny_evalAll_nil ?_)))
  have cp : Caps X (cloFrom X.env.cells scope.names []) fr js := Caps.made I.ok hfree hfr hjs
  have ext : ExtN H1 H2 := kp_extN tg.kp hT
  refine sortLam_run (F := ⟨"<lambda>", X.env.qual ++ "<lambda>", params, [], scope, cloFrom X.env.cells scope.names [], c'⟩) (kf := kf) (xs := xs) (fr := fr) (js := js) (x0 := x0) (N := N) (k := k) I2 (sqT_extN hsq ext) hxs hf hfn hfrs hco cp S (fun u => hb pm ctv u c' _) hr ?_ ?_
  · intro y hy A outer s' H' hr' sm
    refine ⟨tb, hbody _ c' f A outer s' H' hr', fun Q' hQ => hkey y hy H' (fun b o e n => sm b o (ext b o e n)) Q' hQ⟩
  · intro ys D H' pm2 sr sm nt nD hD
    exact q ys D H' pm2 sr ⟨fun b o e m => sm b o (tg.kp b o e m), tg.tab.ext sm, fun z => nt (tg.nt z)⟩ (old D nD) hD
end
end TB
/-! The end of a law with one table, where repr may be called. -/
namespace TB
open PySem PySem.Spec PyProof.Rows L2 LamX
/-- at the law's call: nothing is tracked but the script and the table at T -/
def OnlyT (T : Addr) (H : Hp) : Prop := ∀ b, H b = none ∨ (b = T ∧ H b = some (.tbl #[])) ∨ ∃ o xs, H b = some (.frz o (.lst xs))
theorem OnlyT.noT {T : Addr} {H : Hp} (h : OnlyT T H) : NoT H := by
  intro b o e
  rcases h b with z | ⟨_, z⟩ | ⟨o2, xs, z⟩
  · rw [z] at e
    exact nomatch e
  · rw [z] at e
    cases e
    exact trivial
  · rw [z] at e
    cases e
    exact trivial
theorem law_callTG {P : Program} {w : World} {K : PySem.W.Frag} {mg mb : Str → Option Value} {CX : CXT} {k : Nat} {fa a c T : Addr} {fd : FuncData} {x : Str} {sp : Sp} {s₁ : Shared} {vs : List Value} {ns : List Int}
    (KX : K.In s₁.heap) (hns : s₁.heap.Ns mainGlobals mg) (hb : s₁.heap.Ns builtinsNs mb) (hbb : ∀ y : Str, y ≠ "__name__" → mb y = bootBuiltins y) (hlim : s₁.heap.NoLimit) (hg : s₁.gens = #[])
    (hT : s₁.heap.get? T = some { cls := .none, data := .fields #[] }) (nT : K.lookup T = none) (cd : PySem.W.CodeHd s₁.heap c T)
    (hbm : ∃ (bm : Addr) (ob : Obj), mg "__builtins__" = some (.ref bm) ∧ bm ≠ builtinsNs ∧ s₁.heap.get? bm = some ob ∧ ob.cls = .type "module" ∧ ob.dict = some builtinsNs ∧ ob.data = .plain)
    (ha : s₁.heap.get? a = some { cls := .type "list", data := .seq vs.toArray }) (hi : IntsAre vs ns) (hl : ns.length ≤ sizeLine) (hr : Room k callerA)
    (F : ∀ base : Heap, K.In base → base.Ns mainGlobals mg → TabB base mg c T → FnG P w K mg base CX k fa fd [x] sp) (hbind : ∀ (s : Shared) (u : Value), BindsTo s fd ⟨[u], []⟩ [(x, u)])
    (hsp : ∀ H : Hp, OnlyT T H → H T = some (.tbl #[]) → SqL K H a (ns.map V.int) → sp [.ref a] H (fun v _ => v = .bl true) (fun _ _ _ => False)) (hCX : ∀ H e s', CX [] H s₁ (fun _ _ _ => False) e s' → False) :
    codeAny (model P w) callerA (.call (.ref fa) ⟨[.ref a], []⟩) (fun r s' => r = .ok (.ret (.bool true)) ∧ OldK s₁.heap s'.heap ∧ s'.os = s₁.os ∧ AllBare s'.gens) s₁ := by
  have lenV := hi.length
  have aT : a ≠ T := by
    intro z
    rw [z, hT] at ha
    have z2 := congrArg Obj.data (Option.some.inj ha)
    exact nomatch (show Data.fields #[] = Data.seq vs.toArray _ from z2)
  suffices core : ∀ H : Hp, OnlyT T H → H T = some (.tbl #[]) → SqL K H a (ns.map V.int) → HOk P w H s₁.heap → (∀ b, H b ≠ none → b = a ∨ b = T) → (H a ≠ none → K.lookup a = none) →
      codeAny (model P w) callerA (.call (.ref fa) ⟨[.ref a], []⟩) (fun r s' => r = .ok (.ret (.bool true)) ∧ OldK s₁.heap s'.heap ∧ s'.os = s₁.os ∧ AllBare s'.gens) s₁ by
    cases hk : K.lookup a with
    | some o =>
      have e := (KX a o hk).symm.trans ha
      cases e
      have at_ : ∀ b u, upd (fun _ => none) T (.tbl #[]) b = some u → b = T ∧ u = .tbl #[] := by
        intro b u z
        by_cases q : b = T
        · rw [q, upd_same] at z
          exact ⟨q, (Option.some.inj z).symm⟩
        · rw [upd_ne q] at z
          exact nomatch z
      refine core (upd (fun _ => none) T (.tbl #[])) (fun b => ?_) upd_same (Or.inr ⟨_, vs.toArray, _, hk, rfl, rfl, rfl, ?_, ?_⟩) (fun b u z => ?_) (fun b z => ?_) (fun z => ?_)
      · by_cases q : b = T
        · rw [q]
          exact Or.inr (Or.inl ⟨rfl, upd_same⟩)
        · exact Or.inl (by rw [upd_ne q])
      · rw [List.size_toArray, lenV]
        exact hl
      · rw [List.toList_toArray]
        exact vals_ints hi
      · obtain ⟨rfl, rfl⟩ := at_ b u z
        exact hT
      · cases q : upd (fun _ => none) T (.tbl #[]) b with
        | none => exact absurd q z
        | some u => exact Or.inr (at_ b u q).1
      · rw [upd_ne aT] at z
        exact absurd rfl z
    | none =>
      let H0 : Hp := upd (upd (fun _ => none) T (.tbl #[])) a (.frz { cls := .type "list", data := .seq vs.toArray } (.lst (ns.map V.int)))
      have at_ : ∀ b u, H0 b = some u → (b = a ∧ u = .frz { cls := .type "list", data := .seq vs.toArray } (.lst (ns.map V.int))) ∨ (b = T ∧ u = .tbl #[]) := by
        intro b u z
        have z2 : upd (upd (fun _ => none) T (.tbl #[])) a (.frz { cls := .type "list", data := .seq vs.toArray } (.lst (ns.map V.int))) b = some u := z
        by_cases q : b = a
        · rw [q, upd_same] at z2
          exact Or.inl ⟨q, (Option.some.inj z2).symm⟩
        · rw [upd_ne q] at z2
          by_cases q2 : b = T
          · rw [q2, upd_same] at z2
            exact Or.inr ⟨q2, (Option.some.inj z2).symm⟩
          · rw [upd_ne q2] at z2
            exact nomatch z2
      refine core H0 (fun b => ?_) ?_ (Or.inl (Or.inr ⟨_, upd_same⟩)) (fun b u z => ?_) (fun b z => ?_) (fun _ => hk)
      · cases q : H0 b with
        | none => exact Or.inl rfl
        | some u =>
          rcases at_ b u q with ⟨_, z⟩ | ⟨z1, z⟩
          · exact Or.inr (Or.inr ⟨_, _, congrArg some z⟩)
          · exact Or.inr (Or.inl ⟨z1, congrArg some z⟩)
      · show upd (upd (fun _ => none) T (.tbl #[])) a _ T = _
        rw [upd_ne aT.symm, upd_same]
      · rcases at_ b u z with ⟨rfl, rfl⟩ | ⟨rfl, rfl⟩
        · refine ⟨ha, ?_, vs, _, vals_ints hi, ha⟩
          rw [List.length_map]
          exact hl
        · exact hT
      · cases q : H0 b with
        | none => exact absurd q z
        | some u =>
          rcases at_ b u q with ⟨z1, _⟩ | ⟨z1, _⟩
          · exact Or.inl z1
          · exact Or.inr z1
  intro H hO hHT hS hok hA hK
  have off : ∀ {b : Addr} {o : Obj}, s₁.heap.get? b = some o → (∀ es n, o.data ≠ .seq es n) → o.data ≠ .fields #[] → H b = none := by
    intro b o e d1 d2
    cases q : H b with
    | none => rfl
    | some u =>
      rcases hA b (by rw [q]; exact Option.some_ne_none u) with z | z
      · rw [z, ha] at e
        cases e
        exact absurd rfl (d1 _ _)
      · rw [z, hT] at e
        cases e
        exact absurd rfl d2
  have nsK : ∀ {b : Addr} {m : Str → Option Value}, s₁.heap.Ns b m → (hidT s₁.heap H).Ns b m := by
    rintro b m ⟨o, es, ep, e, d, r⟩
    refine ⟨o, es, ep, hidT_get e (off e ?_ ?_), d, r⟩
    · intro _ _ z
      rw [d] at z
      exact nomatch z
    · intro z
      rw [d] at z
      exact nomatch z
  have hKb : K.In (hidT s₁.heap H) := by
    intro b o e
    refine hidT_get (KX b o e) ?_
    cases q : H b with
    | none => rfl
    | some u =>
      rcases hA b (by rw [q]; exact Option.some_ne_none u) with z | z
      · subst z
        rw [hK (by rw [q]; exact Option.some_ne_none u)] at e
        exact nomatch e
      · rw [z, nT] at e
        exact nomatch e
  obtain ⟨mc, h1, h2⟩ := hlim
  have hM : Mod K mg (hidT s₁.heap H) := ⟨hKb, nsK hns, ⟨mb, nsK hb, hbb⟩, ⟨mc, nsK h1, h2⟩⟩
  have tab : TabB (hidT s₁.heap H) mg c T := by
    refine ⟨?_, ?_, fun z => ?_⟩
    · obtain ⟨o, us, file, tf, flags, tg, inF, text, tt, e1, r1, r2, r3, r4⟩ := id cd
      refine ⟨o, us, file, tf, flags, tg, inF, text, tt, hidT_get e1 (off e1 ?_ ?_), r1, r2, r3, r4⟩
      · intro _ _ z
        rw [r2] at z
        exact nomatch z
      · intro z
        rw [r2] at z
        cases z
        exact absurd r3 (by simp)
    · obtain ⟨bm, ob, b1, b2, b3, b4, b5, b6⟩ := hbm
      have nb : H bm = none := by
        refine off b3 ?_ ?_
        · intro _ _ z
          rw [b6] at z
          exact nomatch z
        · intro z
          rw [b6] at z
          exact nomatch z
      refine ⟨bm, ob, b1, b2, ?_, ?_, hidT_get b3 nb, b4, b5, b6⟩
      · intro z
        obtain ⟨o, es, ep, e, d, _⟩ := hns
        rw [z, e] at b3
        cases b3
        rw [d] at b6
        exact nomatch b6
      · intro z
        rw [z, hT] at b3
        cases b3
        exact nomatch b6
    · obtain ⟨o, es, ep, e, d, _⟩ := hns
      rw [z, hT] at e
      cases e
      exact nomatch d
  have e0 : Env0 P w K mg (hidT s₁.heap H) callerA [] s₁ H :=
    ⟨rfl, hM, fun b o e => of_hidT e, Nat.le_of_eq (hidT_size _ _), trivial, fun b z => (nomatch (show b ∈ ([] : List Addr) from z)), hok, .of_eq hg⟩
  refine codeAny_mono ((F _ hKb (nsK hns) tab).runG callerA [] s₁ H ⟨[.ref a], []⟩ [.ref a] [.ref a] _ _ rfl hr e0 (hbind s₁ (.ref a)) (.cons rfl .nil) (hsp H hO hHT hS)) ?_
  rintro (er | (_ | _ | _ | u)) s' h
  · exact (hCX H er s' h).elim
  · exact h.elim
  · exact h.elim
  · exact h.elim
  obtain ⟨v, H', os, bare, un, hok', r', q⟩ := h
  obtain rfl : v = .bl true := q
  obtain rfl : u = Value.bool true := r'
  obtain ⟨more, hmore⟩ := un.tbls T #[] hHT
  have grown : s'.heap.get? T = some { cls := .none, data := .fields (#[] ++ more) } := hok' T _ hmore
  have key : ∀ b o, b ≠ T → s₁.heap.get? b = some o → s'.heap.get? b = some o := by
    intro b o hbT e
    cases q : H b with
    | none => exact un.keep b o e q (fun z => nomatch (show b ∈ ([] : List Addr) from z)) (fun z => nomatch z)
    | some y =>
      rcases hO b with z | ⟨z, _⟩ | ⟨ob, xs, z⟩
      · exact nomatch (q.symm.trans z)
      · exact absurd z hbT
      · have e1 := (hok b _ z).1
        have e2 := (hok' b _ (un.frzs b ob _ z)).1
        rw [e] at e1
        cases e1
        exact e2
  refine ⟨rfl, ⟨fun b o e => ?_, fun b o e => ?_⟩, os, bare⟩
  · by_cases hb2 : b = T
    · rw [hb2, hT] at e
      cases e
      rw [hb2]
      exact Or.inr (Or.inl ⟨(cd.tab hT).isCodeTable, rfl, #[], more, rfl, grown⟩)
    · exact Or.inl (key b o hb2 e)
  · by_cases hb2 : b = T
    · rw [hb2]
      exact ⟨_, grown⟩
    · exact ⟨o, key b o hb2 e⟩
theorem walk_ofTG {l : PySem.W.OpenLaw} {n k : Nat} {q : Program} {loose : List Str} {XP : (Str → Option Value) → Heap → Prop} {YP : World → Heap → Prop} {d : DefRec} {CX : CXT} {x : Str}
    (hn : l.most = some n) (hn2 : n ≤ sizeLine) (hdf : d.params.defaults = []) (hr : Room k callerA)
    (F : ∀ (w : World) (mg : Str → Option Value) (fa : Addr) (h : Heap), YP w h → h.Ns mainGlobals mg → mg d.name = some (.ref fa) →
      ∃ (K : PySem.W.Frag) (fd : FuncData) (sp : Sp) (c T : Addr), K.In h ∧ h.get? T = some { cls := .none, data := .fields #[] } ∧ K.lookup T = none ∧ PySem.W.CodeHd h c T ∧ (∀ (s : Shared) (u : Value), BindsTo s fd ⟨[u], []⟩ [(x, u)]) ∧
        (∀ (H : Hp) (a : Addr) (ns : List Int), ns.length ≤ n → OnlyT T H → H T = some (.tbl #[]) → SqL K H a (ns.map V.int) → sp [.ref a] H (fun v _ => v = .bl true) (fun _ _ _ => False)) ∧
        ∀ base : Heap, K.In base → base.Ns mainGlobals mg → TabB base mg c T → FnG l.prog w K mg base CX k fa fd [x] sp)
    (hCX : ∀ (H : Hp) (s : Shared) (e : Value) (s' : Shared), CX [] H s (fun _ _ _ => False) e s' → False) :
    PySem.W.WalkO q loose XP YP l.row.toRowW d [] (fun f vs => PySem.call f vs) := by
  refine Att.attach_call hn hdf ?_
  intro w s₀ s₁ mg mb fa o pm cd doc a vs ns G Y ho hd hcd hmg hobj hints hlen hg
  obtain ⟨K, fd, sp, c, T, kx, hT, nT, chd, hb, hsp, hF⟩ := F w mg fa _ Y G.T.g hmg
  exact law_callTG kx G.T.g G.T.b G.T.builtins G.T.nolimit hg hT nT chd G.T.bmain hobj hints (Nat.le_trans hlen hn2) hr hF hb (fun H hO hH hS => hsp H a ns hlen hO hH hS) (fun H e s' => hCX H s₁ e s')
end TB
/-! Pairs of texts, orders of them. -/
namespace TB
open PySem PySem.Spec PyProof.Rows L2 LamX
abbrev Pr := Str × Str
/-! ### tuples of pairs -/
def Prs (H : Hp) : List V → List Pr → Prop := Paired fun (x : V) (p : Pr) => ∃ t, x = .ref t ∧ H t = some (.tup [.str p.1, .str p.2])
def dPr (p : Pr) : PyData := .tuple [.str p.1, .str p.2]
theorem Prs.keep {H H' : Hp} {rs : List V} {ps : List Pr} (h : Prs H rs ps) (k : ∀ b xs, H b = some (.tup xs) → H' b = some (.tup xs)) : Prs H' rs ps := Paired.mapP h fun x p ⟨t, e, z⟩ => ⟨t, e, k _ _ z⟩
theorem Prs.refs {H : Hp} : ∀ {rs : List V} {ps : List Pr}, Prs H rs ps → ∀ x ∈ rs, ∃ t, x = V.ref t
  | _, _, .nil, x, hx => nomatch hx
  | _, _, .cons ⟨t, e, _⟩ r, x, hx => by
    rcases List.mem_cons.mp hx with z | z
    · exact ⟨t, z.trans e⟩
    · exact Prs.refs r x z
theorem Prs.app {H : Hp} : ∀ {rs rs' : List V} {ps ps' : List Pr}, Prs H rs ps → Prs H rs' ps' → Prs H (rs ++ rs') (ps ++ ps')
  | _, _, _, _, .nil, h => h
  | _, _, _, _, .cons a r, h => .cons a (Prs.app r h)
theorem Prs.dp {K : PySem.W.Frag} {H : Hp} : ∀ {rs : List V} {ps : List Pr}, Prs H rs ps → DpAll K H rs (ps.map dPr)
  | _, _, .nil => .nil
  | _, _, .cons ⟨t, e, z⟩ r => .cons (by rw [e]; exact .tup (sqT_of z) (.cons (.str _) (.cons (.str _) .nil))) (Prs.dp r)
theorem Prs.len {H : Hp} {rs : List V} {ps : List Pr} (h : Prs H rs ps) : rs.length = ps.length := Paired.length h
/-- the pair that x is in H -/
def decP (H : Hp) (x : V) : Pr := match x with
  | .ref t => match H t with
    | some (.tup [.str a, .str b]) => (a, b)
    | _ => (⟨#[]⟩, ⟨#[]⟩)
  | _ => (⟨#[]⟩, ⟨#[]⟩)
theorem decP_eq {H : Hp} {t : Addr} {p : Pr} (h : H t = some (.tup [.str p.1, .str p.2])) : decP H (.ref t) = p := by
  show (match H t with
    | some (.tup [.str a, .str b]) => (a, b)
    | _ => ((⟨#[]⟩, ⟨#[]⟩) : Pr)) = p
  rw [h]
theorem Prs.dec {H : Hp} : ∀ {rs : List V} {ps : List Pr}, Prs H rs ps → ps = rs.map (decP H)
  | _, _, .nil => rfl
  | _, _, .cons ⟨t, e, z⟩ r => by rw [List.map_cons, ← Prs.dec r, e, decP_eq z]
theorem Prs.mem {H : Hp} : ∀ {rs : List V} {ps : List Pr}, Prs H rs ps → ∀ x ∈ rs, ∃ t, x = .ref t ∧ decP H x ∈ ps ∧ H t = some (.tup [.str (decP H x).1, .str (decP H x).2])
  | _, _, .nil, x, hx => nomatch hx
  | _, _, .cons ⟨t, e, z⟩ r, x, hx => by
    rcases List.mem_cons.mp hx with q | q
    · refine ⟨t, q.trans e, ?_⟩
      rw [q, e, decP_eq z]
      exact ⟨List.mem_cons_self, z⟩
    · obtain ⟨t2, e2, m, z2⟩ := Prs.mem r x q
      exact ⟨t2, e2, List.mem_cons_of_mem _ m, z2⟩
theorem prs_of {H : Hp} : ∀ {rs : List V}, (∀ x ∈ rs, ∃ t, x = .ref t ∧ H t = some (.tup [.str (decP H x).1, .str (decP H x).2])) → Prs H rs (rs.map (decP H))
  | [], _ => .nil
  | x :: r, h => .cons (h x List.mem_cons_self) (prs_of fun y hy => h y (List.mem_cons_of_mem _ hy))
theorem strOk_nm {z : Str} (h : Nm z) : PyData.strOk z = true := by
  unfold PyData.strOk
  rw [Array.all_eq_true_iff_forall_mem]
  intro c hc
  have h1 := h.2.2 c (Array.mem_toList_iff.mpr hc)
  exact decide_eq_true (by omega)
def NmP (p : Pr) : Prop := Nm p.1 ∧ Nm p.2
theorem dPr_lay {p : Pr} (h : NmP p) : (dPr p).canLay0 = true := by simp [dPr, PyData.canLay0, PyData.canLayAll0, strOk_nm h.1, strOk_nm h.2]
theorem dPr_depth (p : Pr) : (dPr p).depth ≤ 2 := by simp [dPr, PyData.depth, PyData.depthAll]
theorem dPrs_lay : ∀ {ps : List Pr}, (∀ p ∈ ps, NmP p) → PyData.canLayAll0 (ps.map dPr) = true
  | [], _ => by simp [PyData.canLayAll0]
  | p :: r, h => by simp [PyData.canLayAll0, dPr_lay (h p List.mem_cons_self), dPrs_lay fun q hq => h q (List.mem_cons_of_mem _ hq)]
theorem dPrs_depth : ∀ ps : List Pr, PyData.depthAll (ps.map dPr) ≤ 2
  | [] => by simp [PyData.depthAll]
  | p :: r => by
    have h1 := dPrs_depth r
    have h2 := dPr_depth p
    simp only [List.map_cons, PyData.depthAll]
    omega
theorem dPr_eqv (p q : Pr) : PyData.eqv (dPr p) (dPr q) = decide (p = q) := by
  obtain ⟨a, b⟩ := p
  obtain ⟨c, d⟩ := q
  have e : PyData.eqv (dPr (a, b)) (dPr (c, d)) = ((a == c) && ((b == d) && true)) := by simp only [dPr, PyData.eqv, PyData.eqvAll]
  rw [e]
  by_cases h1 : a = c
  · by_cases h2 : b = d
    · subst h1 h2
      simp
    · have z : ((a, b) : Pr) ≠ (c, d) := fun z => h2 (Prod.mk.inj z).2
      rw [decide_eq_false z, beq_eq_false_iff_ne.mpr h2, Bool.false_and, Bool.and_false]
  · have z : ((a, b) : Pr) ≠ (c, d) := fun z => h1 (Prod.mk.inj z).1
    rw [decide_eq_false z, beq_eq_false_iff_ne.mpr h1, Bool.false_and]
theorem any_pr (ps : List Pr) (p : Pr) : ((ps.map dPr).any fun z => PyData.eqv z (dPr p)) = decide (p ∈ ps) := by
  induction ps with
  | nil => simp
  | cons q r ih =>
    rw [List.map_cons, List.any_cons, ih, dPr_eqv]
    by_cases h : q = p
    · subst h
      simp
    · have h2 : p ≠ q := fun z => h z.symm
      simp [h, h2]
/-- (a, b) in pairs, a tuple or a list of pairs -/
def rInP : R2 := fun x y H Q => ∃ (t q : Addr) (p : Pr) (rs : List V) (ps : List Pr), x = .ref t ∧ y = .ref q ∧ H t = some (.tup [.str p.1, .str p.2]) ∧ (H q = some (.tup rs) ∨ H q = some (.lst rs)) ∧ Prs H rs ps ∧ NmP p ∧ (∀ z ∈ ps, NmP z) ∧ Q (.bl (decide (p ∈ ps))) H
section
variable {X : Cx}
theorem op_inP (hu : X.A.units + 65 < cLine) : OpR X (compareOp .In) rInP := by
  intro pins s σ H x y v u Q I rx ry h
  obtain ⟨t, q, p, rs, ps, rfl, rfl, ht, hq, hp, np, nps, k⟩ := h
  have d1 : Dp X.K H (.ref t) (dPr p) := .tup (sqT_of ht) (.cons (.str _) (.cons (.str _) .nil))
  obtain ⟨as, r1⟩ := Dp.reads I _ _ v d1 rx
  have room : X.A.units + 1 + min (PyData.depthAll (ps.map dPr)) (dPr p).depth < cLine := by
    have h1 := dPr_depth p
    have h2 := Nat.min_le_right (PyData.depthAll (ps.map dPr)) (dPr p).depth
    omega
  have k2 : EP X pins σ Q (.bool ((ps.map dPr).any fun z => PyData.eqv z (dPr p))) s := by
    rw [any_pr]
    exact ⟨.bl _, H, I, rfl, k⟩
  rcases hq with hq | hq
  · obtain ⟨bs, r2⟩ := Dp.reads I (.tuple (ps.map dPr)) _ u (.tup (sqT_of hq) hp.dp) ry
    exact SeqAt.in_tuple_reads r2 r1 (dPrs_lay nps) (dPr_lay np) room k2
  · obtain ⟨bs, r2⟩ := Dp.reads I (.list (ps.map dPr)) _ u (.lst (sqL_of hq) hp.dp) ry
    exact SeqAt.in_list_reads r2 r1 (dPrs_lay nps) (dPr_lay np) room k2
theorem kSFld (K : PySem.W.Frag) {st : Stmt} {ta tv : TE} {f : Str} (h : PS X st (sFld X.K ta tv f)) (hK : X.K = K := by rfl) : PS X st (sFld K ta tv f) := by subst hK; exact h
/-- tuple.index of a text -/
def rTupIx (K : PySem.W.Frag) : V → List V → Hp → VK → Prop := fun x xs H Q => ∃ p, ∃ ys : List Str, ∃ z j, x = .ref p ∧ xs = [.str z] ∧ SqT K H p (ys.map V.str) ∧ ys[j]? = some z ∧ (∀ m, m < j → ys[m]? ≠ some z) ∧ Q (.int (j : Nat)) H
theorem mt_tupIxK (K : PySem.W.Frag) (hK : X.K = K := by rfl) : MtR X "tuple.index" (rTupIx K) := by subst hK; exact mt_tup_index
/-- isinstance(x, str) of a text -/
def rIsStr : List V → Hp → VK → Prop := fun xs H Q => ∃ z, xs = [.str z, .ty "str"] ∧ Q (.bl true) H
theorem call_isStr : CallR X (.builtin "isinstance") rIsStr := by
  intro pins s σ H vs us Q I r h
  obtain ⟨z, rfl, q⟩ := h
  exact call_isi pins s σ H _ us Q I r ⟨.str z, .ty "str", .type "str", .type "str", true, rfl, .ty "str", .base (.str z), rfl, q⟩
end
/-! ### a comprehension that changes nothing -/
section
variable {σ : L2.St} {Q : VK} {tt : TT} {te : TE} {g : TG} {xs : List V} {vs : List Nat} {H1 : Hp} {J : It} {ok : Hp → Prop}
def PurP (H1 : Hp) (xs : List V) (f : V → Option V) (D : Addr) (i : Nat) (a : List V) (H : Hp) : Prop := H = upd H1 D (.lst a) ∧ a = (xs.take i).filterMap f
theorem lc_pure (f : V → Option V) (w : Wk J xs ok) (hk : ∀ (D : Addr) (acc : List V), H1 D = none → ok (upd H1 D (.lst acc)))
    (hs : ∀ (D : Addr) (i : Nat) (x : V) (acc : List V), H1 D = none → xs[i]? = some x → acc = (xs.take i).filterMap f → g x (wipe σ vs) (upd H1 D (.lst acc)) fun σ2 H2 => wipe σ2 vs = wipe σ vs ∧ tt σ2 H2 fun b H3 =>
      if b = true then te σ2 H3 fun y H4 => ∃ acc', H4 D = some (.lst acc') ∧ acc'.length < sizeLine ∧ ∃ a2, PurP H1 xs f D (i + 1) a2 (upd H4 D (.lst (acc' ++ [y]))) else ∃ a2, PurP H1 xs f D (i + 1) a2 H3)
    (hq : ∀ D, H1 D = none → Q (.ref D) (upd H1 D (.lst (xs.filterMap f)))) : LcG J g tt te vs σ Q H1 := by
  refine lc_walk w (fun D i a H => H1 D = none ∧ PurP H1 xs f D i a H) (fun D nD => ⟨nD, rfl, rfl⟩) ?_ ?_ ?_
  · rintro D i acc H ⟨nD, rfl, _⟩
    exact hk D acc nD
  · rintro D i x acc H nD hx ⟨_, rfl, ha⟩
    have z := hs D i x acc nD hx ha
    simp only [nD, true_and]
    exact z
  · rintro D acc H nD ⟨_, rfl, ha⟩
    rw [ha, List.take_length]
    exact hq D nD
theorem take_next {α : Type} {l : List α} {i : Nat} {x : α} (h : l[i]? = some x) : l.take (i + 1) = l.take i ++ [x] := by
  rw [List.take_add_one, h]
  rfl
theorem pur_yes {f : V → Option V} {D : Addr} {i : Nat} {x y : V} {acc : List V} (hz : xs.length < sizeLine) (hx : xs[i]? = some x) (ha : acc = (xs.take i).filterMap f) (hf : f x = some y) :
    ∃ acc', upd H1 D (.lst acc) D = some (.lst acc') ∧ acc'.length < sizeLine ∧ ∃ a2, PurP H1 xs f D (i + 1) a2 (upd (upd H1 D (.lst acc)) D (.lst (acc' ++ [y]))) := by
  refine ⟨acc, upd_same, ?_, acc ++ [y], upd_upd, ?_⟩
  · have h1 := List.length_filterMap_le f (xs.take i)
    rw [List.length_take] at h1
    rw [ha]
    omega
  · rw [take_next hx, List.filterMap_append, ← ha]
    simp [hf]
theorem pur_no {f : V → Option V} {D : Addr} {i : Nat} {x : V} {acc : List V} (hx : xs[i]? = some x) (ha : acc = (xs.take i).filterMap f) (hf : f x = none) : ∃ a2, PurP H1 xs f D (i + 1) a2 (upd H1 D (.lst acc)) := by
  refine ⟨acc, rfl, ?_⟩
  rw [take_next hx, List.filterMap_append, ← ha]
  simp [hf]
end
end TB
namespace TB
open PySem PySem.Spec PyProof.Rows L2 LamX
/-! ### tuples whose object is known -/
/-- the tuple at a, of these texts, made here -/
def LkAt (H : Hp) (a : Addr) (ls : List Str) : Prop := ∃ o : Obj, o.dict = none ∧ H a = some (.frz o (.tup (ls.map V.str)))
theorem LkAt.sq {K : PySem.W.Frag} {H : Hp} {a : Addr} {ls : List Str} (h : LkAt H a ls) : SqT K H a (ls.map V.str) := by
  obtain ⟨o, _, e⟩ := h
  exact Or.inl (Or.inr ⟨o, e⟩)
theorem LkAt.keep {H H' : Hp} {a : Addr} {ls : List Str} (h : LkAt H a ls) (k : ∀ o u, H a = some (.frz o u) → H' a = some (.frz o u)) : LkAt H' a ls := by
  obtain ⟨o, d, e⟩ := h
  exact ⟨o, d, k _ _ e⟩
/-- tuple(e) of texts -/
def rTupF (K : PySem.W.Frag) : List V → Hp → VK → Prop := fun xs H Q => ∃ (p : Addr) (ls : List Str), xs = [.ref p] ∧ ((SqL K H p (ls.map V.str) ∧ ∀ (l : Addr) (o : Obj), H l = none → o.dict = none → Q (.ref l) (upd H l (.frz o (.tup (ls.map V.str))))) ∨ (LkAt H p ls ∧ Q (.ref p) H))
section
variable {X : Cx}
theorem call_tupF (K : PySem.W.Frag) (hK : X.K = K := by rfl) : CallR X (.type "tuple") (rTupF K) := by
  subst hK
  intro pins s σ H xs us Q I r h
  obtain ⟨p, ls, rfl, h⟩ := h
  obtain ⟨u, rfl, rx⟩ := vals1 r
  cases rx
  rcases h with ⟨hq, q⟩ | ⟨hq, q⟩
  · obtain ⟨its, r2, pl, hz⟩ := I.list hq
    refine call_tuple_list pl.isList ?_ (by rw [List.size_toArray, ← r2.length]; exact hz)
    intro h' kp
    have I1 : Inv X pins σ H { s with heap := h' } := I.kept (t' := s.toks) kp
    refine ⟨.ref h'.objs.size, _, I1.laid (o := .frz { cls := .type "tuple", data := .seq its.toArray } (.tup (ls.map V.str))) (t' := s.toks) (fun b o e => Heap.get?_push_of_some _ e) (Nat.le_refl _) ⟨Heap.get?_push_size _ rfl, hz, its, r2, IsTup.new _ _⟩, rfl, q _ _ (I1.hok.fresh (Nat.le_refl _)) rfl⟩
  · obtain ⟨its, r2, pl, hz⟩ := I.tuple (hq.sq (K := X.K))
    exact call_tuple_same pl ⟨.ref p, H, I, rfl, q⟩
def tBMT (r : V → List V → Hp → VK → Prop) (to : TE) (t : TA) : TE := fun σ H Q => to σ H fun x H1 => (∃ a ls, x = .ref a ∧ LkAt H1 a ls) ∧ t σ H1 fun xs H2 => r x xs H2 Q
theorem pe_bmT {o e : Expr} {es : List Expr} {to : TE} {t : TA} {name : Str} {apos cpos : Pos} {id : String} {r : V → List V → Hp → VK → Prop} (slot : Slot "tuple" name id) (hty : typeOf (.builtin id) = pure (.type "method_descriptor")) (hm : MtR X id r) (ho : PE X o to) (ha : PA X (e :: es) t)
    (hbase : attributeBase o name X.env (eval o X.env) = eval o X.env := by rfl)
    (hfew : ((backTo cpos (starEach (e :: es) X.env)).all (fun x => !x.1) && (backToKw cpos (keywordEach [] X.env)).all (fun x => x.1.isSome) && decide ((e :: es).length + ([] : List Keyword).length + (if ([] : List Keyword).isEmpty then 0 else 1) < 30)) = true := by rfl)
    (hline : (apos.endLine == cpos.line) = true := by rfl) (hs : starEach (e :: es) X.env = (false, eval e X.env) :: starEach es X.env := by rfl) (hplain : (backTo cpos (starEach es X.env)).any (·.1) = false := by rfl) :
    PE X (.Call (.Attribute o name apos) (e :: es) [] cpos) (tBMT r to t) := by
  refine ⟨fun pins s σ H Q I h => ?_⟩
  refine wpAny_Call_method_late hbase hfew hline rfl (thn (ho.run pins s σ H _ I h) ?_)
  rintro v s1 ⟨x, H1, I1, r1, ⟨a, ls, rfl, ob, hdn, ea⟩, q1⟩
  obtain rfl : v = Value.ref a := r1
  obtain ⟨eo, _, _, _, o2, eo2, hc, _⟩ := I1.hok a _ ea
  rw [eo] at eo2
  cases eo2
  refine ⟨"tuple", id, PySem.F.plainAttrs_tuple, slot, hty, ⟨ob, eo, hc⟩, fun b eb => ?_, ?_⟩
  · cases eb
    exact ⟨ob, eo, hdn⟩
  · have hA := ha.run cpos pins s1 σ H1 _ I1 q1
    rw [hs] at hA ⊢
    have hno : (backTo cpos ((false, eval e X.env) :: starEach es X.env)).any (·.1) = false := by
      show (false || (backTo cpos (starEach es X.env)).any (·.1)) = false
      rw [hplain]
      rfl
    refine Calls.callWith_builtin hno (Calls.evalArgs_plain (thn hA ?_))
    rintro us s2 ⟨vs, H2, I2, r2, q2⟩
    exact hm pins s2 σ H2 (.ref a) vs (.ref a) us Q I2 rfl r2 q2
end
end TB
/-! Orders: what they hold, what leads where. -/
namespace TB
open PySem PySem.Spec PyProof.Rows L2 LamX
/-! ### plain -/
/-- by pairs one comes from a to b -/
inductive Rch (ps : List Pr) : Str → Str → Prop
  | one {a b : Str} : (a, b) ∈ ps → Rch ps a b
  | step {a b c : Str} : Rch ps a b → (b, c) ∈ ps → Rch ps a c
theorem Rch.trans {ps : List Pr} {a b c : Str} (h : Rch ps a b) (k : Rch ps b c) : Rch ps a c := by
  induction k with
  | one m => exact .step h m
  | step _ m ih => exact .step ih m
theorem Rch.mono {ps qs : List Pr} (s : ∀ p ∈ ps, p ∈ qs) {a b : Str} (h : Rch ps a b) : Rch qs a b := by
  induction h with
  | one m => exact .one (s _ m)
  | step _ m ih => exact .step ih (s _ m)
/-- along a rank that each pair raises -/
theorem Rch.rank {ps : List Pr} (r : Str → Nat) (hr : ∀ p ∈ ps, r p.1 < r p.2) {a b : Str} (h : Rch ps a b) : r a < r b := by
  induction h with
  | one m => exact hr _ m
  | step _ m ih => exact Nat.lt_trans ih (hr _ m)
def afterP (ps : List Pr) (z : Str) : List Str := ps.filterMap fun p => if p.1 = z then some p.2 else none
theorem mem_afterP {ps : List Pr} {z c : Str} : c ∈ afterP ps z ↔ (z, c) ∈ ps := by
  unfold afterP
  rw [List.mem_filterMap]
  constructor
  · rintro ⟨p, hp, e⟩
    by_cases q : p.1 = z
    · rw [if_pos q] at e
      have e2 : p.2 = c := Option.some.inj e
      rw [← q, ← e2]
      exact hp
    · rw [if_neg q] at e
      exact nomatch e
  · intro h
    exact ⟨(z, c), h, if_pos rfl⟩
theorem nodup_afterP : ∀ {ps : List Pr} {z : Str}, ps.Nodup → (afterP ps z).Nodup
  | [], _, _ => List.nodup_nil
  | p :: r, z, h => by
    have h2 := List.nodup_cons.mp h
    have ih := nodup_afterP (z := z) h2.2
    show ((p :: r).filterMap fun p => if p.1 = z then some p.2 else none).Nodup
    by_cases q : p.1 = z
    · rw [List.filterMap_cons, if_pos q]
      refine List.nodup_cons.mpr ⟨fun m => ?_, ih⟩
      have m2 : (z, p.2) ∈ r := mem_afterP.mp m
      rw [← q] at m2
      exact h2.1 m2
    · rw [List.filterMap_cons, if_neg q]
      exact ih
/-- the place of z in ls -/
def ixS (ls : List Str) (z : Str) : Nat := ls.findIdx (fun y => decide (y = z))
theorem ixS_at {ls : List Str} {z : Str} (h : z ∈ ls) : ls[ixS ls z]? = some z ∧ ∀ m, m < ixS ls z → ls[m]? ≠ some z := by
  have h1 : ixS ls z < ls.length := List.findIdx_lt_length_of_exists ⟨z, h, decide_eq_true rfl⟩
  refine ⟨?_, fun m hm e => ?_⟩
  · have h2 := List.findIdx_getElem (p := fun y => decide (y = z)) (w := h1)
    have h3 := of_decide_eq_true h2
    rw [List.getElem?_eq_getElem h1]
    exact congrArg some h3
  · have h2 := List.not_of_lt_findIdx (p := fun y => decide (y = z)) (xs := ls) hm
    obtain ⟨hl, e2⟩ := List.getElem?_eq_some_iff.mp e
    rw [e2] at h2
    exact absurd rfl (of_decide_eq_false h2)
theorem ixS_inj {ls : List Str} {a b : Str} (ha : a ∈ ls) (hb : b ∈ ls) (e : ixS ls a = ixS ls b) : a = b := by
  have h1 := (ixS_at ha).1
  rw [e, (ixS_at hb).1] at h1
  exact (Option.some.inj h1).symm
def keyP (ls : List Str) (p : Pr) : Int × Int := ((ixS ls p.1 : Int), (ixS ls p.2 : Int))
/-- in the order of the locks' places -/
def SortP (ls : List Str) (ps : List Pr) : Prop := ps.Pairwise fun p q => SrtO.lexB (keyP ls q) (keyP ls p) = false
structure OrdOk (ls : List Str) (ps : List Pr) : Prop where
  nd : ls.Nodup
  nm : ∀ z ∈ ls, Nm z
  len : ls.length ≤ 30
  mem : ∀ p ∈ ps, p.1 ∈ ls ∧ p.2 ∈ ls
  pnd : ps.Nodup
  srt : SortP ls ps
theorem OrdOk.nmp {ls : List Str} {ps : List Pr} (h : OrdOk ls ps) : ∀ p ∈ ps, NmP p := fun p hp => ⟨h.nm _ (h.mem p hp).1, h.nm _ (h.mem p hp).2⟩
theorem all_len (ls ms : List Str) : (ls.flatMap fun a => ms.map fun b => ((a, b) : Pr)).length = ls.length * ms.length := by
  induction ls with
  | nil => simp
  | cons a r ih =>
    rw [List.flatMap_cons, List.length_append, ih, List.length_map, List.length_cons, Nat.succ_mul]
    omega
theorem OrdOk.plen {ls : List Str} {ps : List Pr} (h : OrdOk ls ps) : ps.length ≤ 900 := by
  have h1 := nodup_le (m := ls.flatMap fun a => ls.map fun b => ((a, b) : Pr)) h.pnd (fun x hx => List.mem_flatMap.mpr ⟨x.1, (h.mem x hx).1, List.mem_map.mpr ⟨x.2, (h.mem x hx).2, rfl⟩⟩)
  rw [all_len] at h1
  have h2 := Nat.mul_le_mul h.len h.len
  omega
theorem OrdOk.nil {ls : List Str} (nd : ls.Nodup) (nm : ∀ z ∈ ls, Nm z) (len : ls.length ≤ 30) : OrdOk ls [] := ⟨nd, nm, len, (fun _ z => nomatch z), List.nodup_nil, List.Pairwise.nil⟩
/-! ### in the heap -/
structure OrdC (K : PySem.W.Frag) (C : Addr) : Prop where
  cls : Cls K C
  nl : NoAttr K C "own_locks"
  np : NoAttr K C "own_pairs"
def OrdAt (C : Addr) (H : Hp) (x : Addr) (ls : List Str) (ps : List Pr) : Prop := ∃ (dx tl tp : Addr) (rs : List V), H x = some (.ins C dx [("own_locks", .ref tl), ("own_pairs", .ref tp)]) ∧ LkAt H tl ls ∧ H tp = some (.tup rs) ∧ Prs H rs ps
theorem OrdAt.kp {C : Addr} {lo : List Addr} {H H' : Hp} {x : Addr} {ls : List Str} {ps : List Pr} (h : OrdAt C H x ls ps) (k : Kp lo H H') (n : ∀ a ∈ lo, ∀ o, H a = some o → (∀ xs, o ≠ .tup xs) ∧ (∀ ob u, o ≠ .frz ob u) ∧ ∀ C dx fs, o ≠ .ins C dx fs) : OrdAt C H' x ls ps := by
  obtain ⟨dx, tl, tp, rs, h1, h2, h3, h4⟩ := h
  have kt : ∀ b xs, H b = some (.tup xs) → H' b = some (.tup xs) := fun b xs e => k b _ e (fun m => (n b m _ e).1 xs rfl)
  exact ⟨dx, tl, tp, rs, k _ _ h1 (fun m => (n x m _ h1).2.2 _ _ _ rfl), h2.keep (fun ob u e => k _ _ e (fun m => (n tl m _ e).2.1 ob u rfl)), kt _ _ h3, h4.keep kt⟩
theorem OrdAt.same {C : Addr} {H H' : Hp} {x : Addr} {ls : List Str} {ps : List Pr} (h : OrdAt C H x ls ps) (k : ∀ b o, H b = some o → H' b = some o) : OrdAt C H' x ls ps := h.kp (lo := []) (fun b o e _ => k b o e) (fun _ z => nomatch z)
theorem OrdAt.new {C : Addr} {H : Hp} {x p : Addr} {o : HO} {ls : List Str} {ps : List Pr} (h : OrdAt C H x ls ps) (n : H p = none) : OrdAt C (upd H p o) x ls ps := h.same fun _ _ e => old_upd n e
theorem OrdAt.lst {C : Addr} {H : Hp} {x p : Addr} {o : HO} {ys : List V} {ls : List Str} {ps : List Pr} (h : OrdAt C H x ls ps) (n : H p = some (.lst ys)) : OrdAt C (upd H p o) x ls ps :=
  h.kp (lo := [p]) (fun b u e m => oth_upd (fun z => m (List.mem_singleton.mpr z)) e) (fun a m u e => by
    rw [List.mem_singleton.mp m, n] at e
    cases e
    exact ⟨(fun _ z => nomatch z), (fun _ _ z => nomatch z), (fun _ _ _ z => nomatch z)⟩)
theorem OrdAt.tg {C T : Addr} {q : Str} {H H' : Hp} {x : Addr} {ls : List Str} {ps : List Pr} (h : OrdAt C H x ls ps) (t : Tg T q H H') (t0 : TabS H T q) : OrdAt C H' x ls ps :=
  h.kp t.kp (fun a m u e => by
    obtain ⟨tb, e2, _⟩ := t0
    rw [List.mem_singleton.mp m, e2] at e
    cases e
    exact ⟨(fun _ z => nomatch z), (fun _ _ z => nomatch z), (fun _ _ _ z => nomatch z)⟩)
theorem TabS.new {T p : Addr} {q : Str} {H : Hp} {o : HO} (t : TabS H T q) (n : H p = none) : TabS (upd H p o) T q := t.ext fun _ _ e => old_upd n e
theorem TabS.mut {T p : Addr} {q : Str} {H : Hp} {o : HO} {ys : List V} (t : TabS H T q) (n : H p = some (.lst ys)) : TabS (upd H p o) T q := by
  obtain ⟨tb, h1, h2, h3⟩ := t
  refine ⟨tb, oth_upd (ne_of h1 n (fun z => nomatch z)) h1, h2, fun pos cv hc => ?_⟩
  obtain ⟨c, e, h⟩ := h3 pos cv hc
  exact ⟨c, e, oth_upd (ne_of h n (fun z => nomatch z)) h⟩
theorem Tg.refl {T : Addr} {q : Str} {H : Hp} (t : TabS H T q) : Tg T q H H := ⟨Kp.refl H, t, id⟩
theorem Tg.trans {T : Addr} {q : Str} {H H1 H2 : Hp} (a : Tg T q H H1) (b : Tg T q H1 H2) : Tg T q H H2 := ⟨a.kp.trans b.kp, b.tab, fun n => b.nt (a.nt n)⟩
theorem Tg.new {T p : Addr} {q : Str} {H H' : Hp} {o : HO} (a : Tg T q H H') (n : H' p = none) (no : noT o) : Tg T q H (upd H' p o) := ⟨a.kp.new n, TabS.new a.tab n, fun z => (a.nt z).upd no⟩
theorem Tg.at {T : Addr} {q : Str} {H H' : Hp} (a : Tg T q H H') (t : TabS H T q) {b : Addr} {o : HO} (e : H b = some o) (n : ∀ ps, o ≠ .tbl ps) : H' b = some o := kp_extN a.kp t b o e n
theorem Tg.none {T : Addr} {q : Str} {H H' : Hp} (a : Tg T q H H') (t : TabS H T q) {b : Addr} (e : H' b = none) : H b = none := by
  cases q2 : H b with
  | none => rfl
  | some o =>
    by_cases z : b = T
    · obtain ⟨tb, e2, _⟩ := a.tab
      rw [z, e2] at e
      exact nomatch e
    · rw [a.kp b o q2 (fun m => z (List.mem_singleton.mp m))] at e
      exact nomatch e
/-! ### what is promised -/
def spWant (C : Addr) : Sp := fun vs H Q _ => ∃ (x : Addr) (z : Str) (ls : List Str) (ps : List Pr), vs = [.ref x, .str z] ∧ OrdAt C H x ls ps ∧ z ∈ ls ∧ Q .non H
def spHas (C : Addr) : Sp := fun vs H Q _ => ∃ (x : Addr) (a b : Str) (ls : List Str) (ps : List Pr), vs = [.ref x, .str a, .str b] ∧ OrdAt C H x ls ps ∧ OrdOk ls ps ∧ a ∈ ls ∧ b ∈ ls ∧ NoT H ∧ Q (.bl (decide ((a, b) ∈ ps))) H
def spAfter (C : Addr) : Sp := fun vs H Q _ => ∃ (x : Addr) (z : Str) (ls : List Str) (ps : List Pr), vs = [.ref x, .str z] ∧ OrdAt C H x ls ps ∧ OrdOk ls ps ∧ ∀ p, H p = none → Q (.ref p) (upd H p (.lst ((afterP ps z).map V.str)))
def spBehind (C : Addr) : Sp := fun vs H Q _ => ∃ (x : Addr) (a : Str) (ls : List Str) (ps : List Pr), vs = [.ref x, .str a] ∧ OrdAt C H x ls ps ∧ OrdOk ls ps ∧ a ∈ ls ∧ NoT H ∧
  ∀ (p : Addr) (fs : List Str), H p = none → (∀ z, z ∈ fs ↔ Rch ps a z) → Q (.ref p) (upd H p (.lst ((ls.filter fun z => decide (z ∈ fs)).map V.str)))
def spLeads (C : Addr) : Sp := fun vs H Q _ => ∃ (x : Addr) (a b : Str) (ls : List Str) (ps : List Pr), vs = [.ref x, .str a, .str b] ∧ OrdAt C H x ls ps ∧ OrdOk ls ps ∧ a ∈ ls ∧ b ∈ ls ∧ NoT H ∧ ∀ k : Bool, (k = true ↔ Rch ps a b) → Q (.bl k) H
def spWith (C T : Addr) (q : Str) : Sp := fun vs H Q _ => ∃ (x : Addr) (a b : Str) (ls : List Str) (ps : List Pr), vs = [.ref x, .str a, .str b] ∧ OrdAt C H x ls ps ∧ OrdOk ls ps ∧ a ∈ ls ∧ b ∈ ls ∧ a ≠ b ∧ ¬ Rch ps b a ∧ NoT H ∧ TabS H T q ∧
  ∀ (H' : Hp) (t : Addr) (rs : List V) (qs : List Pr), Tg T q H H' → H' t = some (.tup rs) → Prs H' rs qs → OrdOk ls qs → (∀ z, z ∈ qs ↔ z ∈ ps ∨ z = (a, b)) → Q (.ref t) H'
def spAdded (C T : Addr) (q : Str) : Sp := fun vs H Q _ => ∃ (x : Addr) (a b : Str) (ls : List Str) (ps : List Pr), vs = [.ref x, .str a, .str b] ∧ OrdAt C H x ls ps ∧ OrdOk ls ps ∧ a ∈ ls ∧ b ∈ ls ∧ a ≠ b ∧ ¬ Rch ps b a ∧ NoT H ∧ TabS H T q ∧
  ∀ (H' : Hp) (y : Addr) (qs : List Pr), Tg T q H H' → OrdAt C H' y ls qs → OrdOk ls qs → (∀ z, z ∈ qs ↔ z ∈ ps ∨ z = (a, b)) → H y = none → Q (.ref y) H'
/-- of the default pairs, none -/
def spInit (K : PySem.W.Frag) (C : Addr) : Sp := fun vs H Q _ => ∃ (x dx l d : Addr) (ls : List Str), vs = [.ref x, .ref l, .ref d] ∧ H x = some (.ins C dx []) ∧ (SqL K H l (ls.map V.str) ∨ LkAt H l ls) ∧ (∀ H, SqT K H d []) ∧
  ∀ H', Kp [x] H H' → (NoT H → NoT H') → OrdAt C H' x ls [] → Q .non H'
theorem inV_strs' (z : Str) (ls : List Str) : inV (.str z) (ls.map V.str) = decide (z ∈ ls) := inV_strs z ls
end TB
/-! Steps at instances and calls; the built-ins' names. -/
namespace TB
open PySem PySem.Spec PyProof.Rows L2 LamX
theorem fm_congr {α β : Type} {f g : α → Option β} : ∀ {l : List α}, (∀ x ∈ l, f x = g x) → l.filterMap f = l.filterMap g
  | [], _ => rfl
  | x :: l, h => by rw [List.filterMap_cons, List.filterMap_cons, h x List.mem_cons_self, fm_congr fun y hy => h y (List.mem_cons_of_mem _ hy)]
structure BltA (mg : Str → Option Value) : Prop where
  b_len : mg "len" = none
  b_max : mg "max" = none
  b_min : mg "min" = none
  b_abs : mg "abs" = none
  b_divmod : mg "divmod" = none
  b_range : mg "range" = none
  b_enumerate : mg "enumerate" = none
  b_int : mg "int" = none
  b_list : mg "list" = none
  b_repr : mg "repr" = none
  b_isinstance : mg "isinstance" = none
  b_str : mg "str" = none
  b_tuple : mg "tuple" = none
  b_sorted : mg "sorted" = none
  b_all : mg "all" = none
  b_any : mg "any" = none
  b_zip : mg "zip" = none
  b_dict : mg "dict" = none
  b_sum : mg "sum" = none
  b_bool : mg "bool" = none
abbrev FnP (K : PySem.W.Frag) (x : Str) (st : Stmt) (f : Addr) (fd : FuncData) : Prop := FunD K x x (defArgs st) (defBody st) (defScope st) [] [] f fd
abbrev FnM (K : PySem.W.Frag) (x qual : Str) (st : Stmt) (dvs : List V) (f : Addr) (fd : FuncData) : Prop := FunD K x qual (defArgs st) (defBody st) (defScope st) dvs [] f fd
theorem hu65 {k : Nat} {A : Around} (h : Room k A) : A.units + 65 < cLine := by
  have := h.un
  omega
section
variable {σ : L2.St} {H : Hp} {D : Ends} {Q : VK} {ta tv : TE} {tl : TA} {K : PySem.W.Frag} {C x dx : Addr} {fs : List (Str × V)} {f m : Str} {v : V} {sp : Sp} {dvs : List V} {E : XK}
theorem st_fld (h : ta σ H fun x H1 => ∃ a C dx fs v, x = .ref a ∧ H1 a = some (.ins C dx fs) ∧ Cls K C ∧ NoAttr K C f ∧ fs.lookup f = some v ∧ Q v H1) : tFld K ta f σ H Q := h
theorem fl_at (h : H x = some (.ins C dx fs)) (c : Cls K C) (n : NoAttr K C f) (l : fs.lookup f = some v) (q : Q v H) : ∃ a C dx fs v, V.ref x = .ref a ∧ H a = some (.ins C dx fs) ∧ Cls K C ∧ NoAttr K C f ∧ fs.lookup f = some v ∧ Q v H := ⟨x, C, dx, fs, v, rfl, h, c, n, l, q⟩
theorem st_mt (h : ta σ H fun x H1 => ∃ a dx fs, x = .ref a ∧ H1 a = some (.ins C dx fs) ∧ fs.lookup m = none ∧ tl σ H1 fun vs H2 => sp (x :: (vs ++ dvs)) H2 Q E) : tMeth C m sp dvs E ta tl σ H Q := h
theorem st_mk (h : tl σ H fun vs H1 => ∀ x dx, H1 x = none → H1 dx = none → dx ≠ x → sp (.ref x :: (vs ++ dvs)) (upd (upd H1 dx (.own x)) x (.ins C dx [])) (fun v H2 => v = .non ∧ Q (.ref x) H2) E) : tMake C sp dvs E tl σ H Q := h
theorem st_sfld (h : tv σ H fun y H1 => ta σ H1 fun x H2 => ∃ a C dx fs, x = .ref a ∧ H2 a = some (.ins C dx fs) ∧ Cls K C ∧ NoAttr K C f ∧ fs.length < 1000 ∧ D.nx σ (upd H2 a (.ins C dx (putF f y fs)))) : sFld K ta tv f D σ H := h
theorem st_bm0 {T : String} {r : V → List V → Hp → VK → Prop} (h : ta σ H fun x H1 => tyV K T x H1 ∧ r x [] H1 Q) : tBM0 K T r ta σ H Q := h
theorem st_bmT {r : V → List V → Hp → VK → Prop} (h : ta σ H fun x H1 => (∃ a ls, x = .ref a ∧ LkAt H1 a ls) ∧ tl σ H1 fun xs H2 => r x xs H2 Q) : tBMT r ta tl σ H Q := h
theorem st_itu {R : It → Hp → Prop} (h : ta σ H fun x H1 => ∃ a, x = .ref a ∧ (∃ xs, SqT K H1 a xs) ∧ R (Itt K a) H1) : iTup K ta σ H R := h
theorem st_ninT {a : Addr} {z : Str} {ls : List Str} (hs : SqT K H a (ls.map V.str)) (h : Q (.bl (!decide (z ∈ ls))) H) : rIn K true (.str z) (.ref a) H Q :=
  ⟨a, _, rfl, Or.inr hs, rfl, by simp [flatV], by
    show Q (.bl (!inV (.str z) (ls.map V.str))) H
    rw [inV_strs]
    exact h⟩
theorem st_inS {a : Addr} {z : Str} {ls : List Str} (hs : SqL K H a (ls.map V.str) ∨ SqT K H a (ls.map V.str)) (h : Q (.bl (decide (z ∈ ls))) H) : rIn K false (.str z) (.ref a) H Q :=
  ⟨a, _, rfl, hs, rfl, by simp [flatV], by
    show Q (.bl (inV (.str z) (ls.map V.str))) H
    rw [inV_strs]
    exact h⟩
theorem st_ninS {a : Addr} {z : Str} {ls : List Str} (hs : SqL K H a (ls.map V.str) ∨ SqT K H a (ls.map V.str)) (h : Q (.bl (!decide (z ∈ ls))) H) : rIn K true (.str z) (.ref a) H Q :=
  ⟨a, _, rfl, hs, rfl, by simp [flatV], by
    show Q (.bl (!inV (.str z) (ls.map V.str))) H
    rw [inV_strs]
    exact h⟩
theorem st_inP {t q : Addr} {p : Pr} {rs : List V} {ps : List Pr} (h1 : H t = some (.tup [.str p.1, .str p.2])) (h2 : H q = some (.tup rs) ∨ H q = some (.lst rs)) (h3 : Prs H rs ps) (n1 : NmP p) (n2 : ∀ z ∈ ps, NmP z) (h : Q (.bl (decide (p ∈ ps))) H) : rInP (.ref t) (.ref q) H Q := ⟨t, q, p, rs, ps, rfl, rfl, h1, h2, h3, n1, n2, h⟩
end
end TB
/-! The search of what is behind. -/
namespace TB
open PySem PySem.Spec PyProof.Rows L2 LamX
/-- a def by its body, its code object told -/
theorem okC {P : Program} {w : World} {K : PySem.W.Frag} {mg : Str → Option Value} {base : Heap} {x qual : Str} {params : Arguments} {body : List Stmt} {scope : Scope} {dvs : List V} {kws : List (Str × V)} {f : Addr} {fd : FuncData} {CX : CXT} {N ps : List Str} {k : Nat} {sp : Sp} {c : Addr}
    (F : FunD K x qual params body scope dvs kws f fd) (hc : fd.code = .ref c) (S : FnScope N ps scope) (len : ∀ vs H Q E, sp vs H Q E → vs.length = ps.length)
    (hbody : ∀ (A : Around) (outer : List Env) (s : Shared) (H : Hp) (vs : List V) (Q : VK) (E : XK), Room k (A.deeper (envOfC qual scope s.heap.objs.size f (.ref c))) → sp vs H Q E →
      ∃ t, PSs (cxOf CX P w K mg base N qual scope f (.ref c) A outer s H E) body t ∧ t { nx := fun _ H' => Q .non H', rt := Q } (start N vs) H) : FnOk P w K mg base CX (k + 1) f fd ps sp := by
  obtain ⟨oc, od, dV, kV, doc, pm, an, cdv, ct, osl, rfl, lk, hcd, _, _⟩ := F.ex
  obtain rfl : cdv = .ref c := hc
  exact fn_of lk hcd S len hbody
structure BInv (ls : List Str) (ps : List Pr) (a : Str) (fs lf : List Str) : Prop where
  nd : fs.Nodup
  sub : ∀ z ∈ fs, Rch ps a z
  ins : ∀ z ∈ fs, z ∈ ls
  lft : ∀ z ∈ lf, z = a ∨ z ∈ fs
  cl : ∀ z, z = a ∨ z ∈ fs → z ∈ lf ∨ ∀ c, (z, c) ∈ ps → c ∈ fs
theorem BInv.init {ls : List Str} {ps : List Pr} {a : Str} : BInv ls ps a [] [a] :=
  ⟨List.nodup_nil, (fun _ z => nomatch z), (fun _ z => nomatch z), fun z h => Or.inl (List.mem_singleton.mp h), fun z h => h.elim (fun e => Or.inl (List.mem_singleton.mpr e)) (fun m => nomatch m)⟩
def moreP (ps : List Pr) (fs : List Str) (l : Str) : List Str := (afterP ps l).filter fun z => !decide (z ∈ fs)
theorem mem_moreP {ps : List Pr} {fs : List Str} {l z : Str} : z ∈ moreP ps fs l ↔ (l, z) ∈ ps ∧ z ∉ fs := by
  unfold moreP
  rw [List.mem_filter, mem_afterP]
  simp
theorem BInv.step {ls : List Str} {ps : List Pr} {a l : Str} {fs lf : List Str} (ok : OrdOk ls ps) (b : BInv ls ps a fs (lf ++ [l])) : BInv ls ps a (fs ++ moreP ps fs l) (lf ++ moreP ps fs l) := by
  have hl : l = a ∨ l ∈ fs := b.lft l (List.mem_append_right _ (List.mem_singleton.mpr rfl))
  have rl : ∀ z, (l, z) ∈ ps → Rch ps a z := by
    intro z hz
    rcases hl with e | m
    · rw [e] at hz
      exact .one hz
    · exact .step (b.sub l m) hz
  refine ⟨?_, ?_, ?_, ?_, ?_⟩
  · refine List.nodup_append.mpr ⟨b.nd, (nodup_afterP ok.pnd).filter _, ?_⟩
    intro u hu v hv e
    exact (mem_moreP.mp hv).2 (e ▸ hu)
  · intro z hz
    rcases List.mem_append.mp hz with m | m
    · exact b.sub z m
    · exact rl z (mem_moreP.mp m).1
  · intro z hz
    rcases List.mem_append.mp hz with m | m
    · exact b.ins z m
    · exact (ok.mem _ (mem_moreP.mp m).1).2
  · intro z hz
    rcases List.mem_append.mp hz with m | m
    · rcases b.lft z (List.mem_append_left _ m) with e | e
      · exact Or.inl e
      · exact Or.inr (List.mem_append_left _ e)
    · exact Or.inr (List.mem_append_right _ m)
  · intro z hz
    by_cases hzl : z = l
    · refine Or.inr (fun c hc => ?_)
      rw [hzl] at hc
      by_cases m : c ∈ fs
      · exact List.mem_append_left _ m
      · exact List.mem_append_right _ (mem_moreP.mpr ⟨hc, m⟩)
    · by_cases m : z = a ∨ z ∈ fs
      · rcases b.cl z m with e | e
        · rcases List.mem_append.mp e with e2 | e2
          · exact Or.inl (List.mem_append_left _ e2)
          · exact absurd (List.mem_singleton.mp e2) hzl
        · exact Or.inr (fun c hc => List.mem_append_left _ (e c hc))
      · refine Or.inl (List.mem_append_right _ ?_)
        rcases hz with e | e
        · exact absurd (Or.inl e) m
        · rcases List.mem_append.mp e with e2 | e2
          · exact absurd (Or.inr e2) m
          · exact e2
theorem BInv.done {ls : List Str} {ps : List Pr} {a : Str} {fs : List Str} (b : BInv ls ps a fs []) (z : Str) : z ∈ fs ↔ Rch ps a z := by
  refine ⟨b.sub z, fun h => ?_⟩
  induction h with
  | one m => exact (b.cl _ (Or.inl rfl)).elim (fun e => nomatch e) (fun e => e _ m)
  | step _ m ih => exact (b.cl _ (Or.inr ih)).elim (fun e => nomatch e) (fun e => e _ m)
theorem BInv.less {ls : List Str} {ps : List Pr} {a l : Str} {fs lf : List Str} (b : BInv ls ps a (fs ++ moreP ps fs l) (lf ++ moreP ps fs l)) :
    2 * (ls.length - (fs ++ moreP ps fs l).length) + (lf ++ moreP ps fs l).length < 2 * (ls.length - fs.length) + (lf ++ [l]).length := by
  have h1 := nodup_le b.nd b.ins
  rw [List.length_append] at h1 ⊢
  rw [List.length_append, List.length_append, List.length_singleton]
  omega
theorem sh_strs {ws : List Str} (h : ∀ z ∈ ws, Nm z) : SeqAt.shaped (dStrs ws) = true := by
  have h1 : ∀ ws : List Str, (∀ z ∈ ws, Nm z) → PyData.canLayAll0 (ws.map PyData.str) = true := by
    intro ws
    induction ws with
    | nil =>
      intro _
      simp [PyData.canLayAll0]
    | cons z r ih =>
      intro h
      simp [PyData.canLayAll0, PyData.canLay0, strOk_nm (h z List.mem_cons_self), ih fun y hy => h y (List.mem_cons_of_mem _ hy)]
  have h2 : ∀ ws : List Str, PyData.depthAll (ws.map PyData.str) ≤ 1 := by
    intro ws
    induction ws with
    | nil => simp [PyData.depthAll]
    | cons z r ih =>
      simp only [List.map_cons, PyData.depthAll, PyData.depth]
      omega
  have h3 := h2 ws
  show (PyData.canLay0 (.list (ws.map PyData.str)) && decide (PyData.depth (.list (ws.map PyData.str)) ≤ 64)) = true
  rw [Bool.and_eq_true]
  refine ⟨by simp only [PyData.canLay0]; exact h1 ws h, decide_eq_true ?_⟩
  simp only [PyData.depth]
  omega
theorem eqv_nil (ws : List Str) : PyData.eqv (dStrs ws) (dStrs []) = decide (ws = []) := by
  cases ws with
  | nil => simp [dStrs, PyData.eqv, PyData.eqvAll]
  | cons z r => simp [dStrs, PyData.eqv, PyData.eqvAll]
theorem st_neNil {K : PySem.W.Frag} {H : Hp} {Q : VK} {a b : Addr} {ws : List Str} (h : ∀ z ∈ ws, Nm z) (h1 : H a = some (.lst (ws.map V.str))) (h2 : H b = some (.lst [])) (q : Q (.bl (!decide (ws = []))) H) : rNeD K (.ref a) (.ref b) H Q :=
  ⟨dStrs ws, dStrs [], dp_strs (sqL_of h1), dp_strs (ws := []) (sqL_of h2), sh_strs h, sh_strs (fun _ z => nomatch z), by rw [eqv_nil]; exact q⟩
def strF (p : Str → Bool) : V → Option V
  | .str z => if p z = true then some (.str z) else none
  | _ => none
theorem fm_filter (p : Str → Bool) : ∀ ls : List Str, (ls.map V.str).filterMap (strF p) = (ls.filter p).map V.str
  | [] => rfl
  | z :: r => by
    rw [List.map_cons, List.filterMap_cons, fm_filter p r]
    cases h : p z with
    | true =>
      have e : strF p (.str z) = some (.str z) := if_pos h
      rw [e, List.filter_cons_of_pos h, List.map_cons]
    | false =>
      have e : strF p (.str z) = none := if_neg (by rw [h]; decide)
      rw [e, List.filter_cons_of_neg (by rw [h]; decide)]
theorem strF_yes {p : Str → Bool} {z : Str} (h : p z = true) : strF p (.str z) = some (.str z) := if_pos h
theorem strF_no {p : Str → Bool} {z : Str} (h : p z = false) : strF p (.str z) = none := if_neg (by rw [h]; decide)
end TB
namespace TB
open PySem PySem.Spec PyProof.Rows L2 LamX NdefX
theorem st_sortLam {σ : L2.St} {H : Hp} {Q : VK} {K : PySem.W.Frag} {P : Addr} {q : Str} {N : List Str} {js : List Nat} {tb : TE} {t : TA} (h : t σ H fun vs H1 => ∃ (a : Addr) (xs : List V) (kf : V → Int × Int), vs = [.ref a] ∧ SqT K H1 a xs ∧ (∀ x ∈ xs, ∃ b, x = V.ref b) ∧ TabS H1 P q ∧
  (∀ x ∈ xs, ∀ H', ExtN H1 H' → ∀ Q' : VK, (∀ p, H' p = none → Q' (.ref p) (upd H' p (.tup [.int (kf x).1, .int (kf x).2]))) → tb (startF N [x] (js.map (slotAt σ))) H' Q') ∧
  ∀ (ys : List V) (D : Addr) (H' : Hp), ys.Perm xs → SrtO.Srtd (ltP kf) ys → Tg P q H1 H' → H1 D = none → H' D = some (.lst ys) → Q (.ref D) H') : tSortLam K P q N js tb t σ H Q := h
theorem st_catP {H : Hp} {Q : VK} {K : PySem.W.Frag} {a b : Addr} {xs ys : List V} (h1 : H a = some (.tup xs)) (h2 : H b = some (.tup ys)) (n : xs.length + ys.length ≤ sizeLine) (ny : ys ≠ [])
    (k : ∀ p H', (∀ c o, H c = some o → H' c = some o) → (NoT H → NoT H') → H' p = some (.tup (xs ++ ys)) → Q (.ref p) H') : rCatA K (.ref a) (.ref b) H Q := by
  refine ⟨a, b, xs, ys, rfl, rfl, sqT_of h1, sqT_of h2, n, fun e => ?_, fun _ e => absurd e ny, fun _ _ p np => ?_⟩
  · refine k b H (fun _ _ z => z) id ?_
    rw [e]
    exact h2
  · exact k p _ (fun c o z => old_upd np z) (fun z => z.upd trivial) upd_same
theorem prs_map {H : Hp} {g : V → Pr} : ∀ {ys : List V}, (∀ y ∈ ys, ∃ t, y = .ref t ∧ H t = some (.tup [.str (g y).1, .str (g y).2])) → Prs H ys (ys.map g)
  | [], _ => .nil
  | y :: r, h => .cons (h y List.mem_cons_self) (prs_map fun z hz => h z (List.mem_cons_of_mem _ hz))
/-- the new list of pairs -/
theorem OrdOk.add {ls : List Str} {ps qs : List Pr} {a b : Str} (h : OrdOk ls ps) (ha : a ∈ ls) (hb : b ∈ ls) (hn : (a, b) ∉ ps) (pm : qs.Perm (ps ++ [(a, b)])) (sr : SortP ls qs) : OrdOk ls qs ∧ ∀ z, z ∈ qs ↔ z ∈ ps ∨ z = (a, b) := by
  have mm : ∀ z, z ∈ qs ↔ z ∈ ps ∨ z = (a, b) := by
    intro z
    rw [pm.mem_iff, List.mem_append, List.mem_singleton]
  refine ⟨⟨h.nd, h.nm, h.len, fun p hp => ?_, ?_, sr⟩, mm⟩
  · rcases (mm p).mp hp with e | e
    · exact h.mem p e
    · rw [e]
      exact ⟨ha, hb⟩
  · refine pm.nodup_iff.mpr (List.nodup_append.mpr ⟨h.pnd, by simp, fun u hu v hv e => hn ?_⟩)
    rw [List.mem_singleton.mp hv] at e
    rw [← e]
    exact hu
end TB
namespace TB
open PySem PySem.Spec PyProof.Rows L2 LamX NdefX
theorem st_tupF {H : Hp} {Q : VK} {K : PySem.W.Frag} {a : Addr} {ls : List Str} (h : SqL K H a (ls.map V.str) ∨ LkAt H a ls) (k : ∀ (l : Addr) (H' : Hp), Same H H' → (NoT H → NoT H') → LkAt H' l ls → Q (.ref l) H') : rTupF K [.ref a] H Q := by
  rcases h with h | h
  · exact ⟨a, ls, rfl, Or.inl ⟨h, fun l o nl d => k l _ (fun _ _ e => old_upd nl e) (fun z => z.upd trivial) ⟨o, d, upd_same⟩⟩⟩
  · exact ⟨a, ls, rfl, Or.inr ⟨h, k a H (fun _ _ e => e) id h⟩⟩
theorem TabS.mutI {T p C dx : Addr} {q : Str} {H : Hp} {o : HO} {fs : List (Str × V)} (t : TabS H T q) (n : H p = some (.ins C dx fs)) : TabS (upd H p o) T q := by
  obtain ⟨tb, h1, h2, h3⟩ := t
  refine ⟨tb, oth_upd (ne_of h1 n (fun z => nomatch z)) h1, h2, fun pos cv hc => ?_⟩
  obtain ⟨c, e, h⟩ := h3 pos cv hc
  exact ⟨c, e, oth_upd (ne_of h n (fun z => nomatch z)) h⟩
end TB
/-! Rules for drawn orders. -/
namespace TB
open PySem PySem.Spec PyProof.Rows L2 LamX NdefX
section
variable {X : Cx} {pos : Pos}
theorem kUnl (K : PySem.W.Frag) (n : Nat) {tg : Expr} {t : TGs} (h : PG X tg (gUnl X.K n t)) (hK : X.K = K := by rfl) : PG X tg (gUnl K n t) := by subst hK; exact h
theorem cr_sortedK (K : PySem.W.Frag) (hK : X.K = K := by rfl) : CallR X (.builtin "sorted") (rSortedI K) := by subst hK; exact cr_sortedI
theorem cr_sortedSK (K : PySem.W.Frag) (hK : X.K = K := by rfl) : CallR X (.builtin "sorted") (rSortedS K) := by subst hK; exact cr_sortedS
theorem cr_allK (K : PySem.W.Frag) (hc : X.calm = true := by rfl) (hK : X.K = K := by rfl) : CallR X (.builtin "all") (rAll K) := by subst hK; exact cr_all hc
end
section
variable {σ : L2.St} {H : Hp} {Q : VK} {K : PySem.W.Frag}
theorem st_gunl {n : Nat} {tg : TGs} {a : Addr} {xs : List V} {R : L2.St → Hp → Prop} (hs : SqL K H a xs) (hn : xs.length = n) (h : tg xs σ H R) : gUnl K n tg (.ref a) σ H R := ⟨a, xs, rfl, hs, hn, h⟩
/-- two numbers sorted -/
theorem st_sort2 {a : Addr} {i j : Int} (h : H a = some (.lst [.int i, .int j])) (k : ∀ (lo hi : Int) (p : Addr), lo ≤ hi → (lo = i ∧ hi = j ∨ lo = j ∧ hi = i) → H p = none → Q (.ref p) (upd H p (.lst [.int lo, .int hi]))) : rSortedI K [.ref a] H Q := by
  refine ⟨a, [i, j], rfl, sqL_of h, fun ns p pm sr np => ?_⟩
  match ns, pm.length_eq, pm, sr with
  | [x, y], _, pm, sr =>
    have h1 : x ≤ y := (List.pairwise_cons.mp sr).1 y (List.mem_singleton.mpr rfl)
    refine k x y p h1 ?_ np
    have hx : x ∈ [i, j] := pm.mem_iff.mp List.mem_cons_self
    have hy : y ∈ [i, j] := pm.mem_iff.mp (List.mem_cons_of_mem _ List.mem_cons_self)
    have hi : i ∈ [x, y] := pm.mem_iff.mpr List.mem_cons_self
    have hj : j ∈ [x, y] := pm.mem_iff.mpr (List.mem_cons_of_mem _ List.mem_cons_self)
    simp only [List.mem_cons, List.not_mem_nil, or_false] at hx hy hi hj
    omega
end
theorem ixS_get {ls : List Str} {z : Str} {i : Nat} (nd : ls.Nodup) (h : ls[i]? = some z) : ixS ls z = i := by
  have h1 := ixS_at (List.mem_of_getElem? h)
  obtain ⟨hi, e⟩ := List.getElem?_eq_some_iff.mp h
  obtain ⟨hj, e2⟩ := List.getElem?_eq_some_iff.mp h1.1
  rcases Nat.lt_trichotomy (ixS ls z) i with c | c | c
  · exact absurd (e2.trans e.symm) (List.pairwise_iff_getElem.mp nd _ _ hj hi c)
  · exact c
  · exact absurd (e.trans e2.symm) (List.pairwise_iff_getElem.mp nd _ _ hi hj c)
end TB
namespace TB
open PySem PySem.Spec PyProof.Rows L2 LamX NdefX
theorem Tg.own {T p : Addr} {q : Str} {H H' : Hp} {ys zs : List V} (a : Tg T q H H') (n : H p = Option.none) (l : H' p = some (.lst ys)) : Tg T q H (upd H' p (.lst zs)) := ⟨a.kp.own n, TB.TabS.mut a.tab l, fun z => (a.nt z).lst⟩
theorem Tg.newL {T p : Addr} {q : Str} {H H' : Hp} {xs : List V} (a : Tg T q H H') (n : H' p = Option.none) : Tg T q H (upd H' p (.lst xs)) := a.new n trivial
theorem Tg.newT {T p : Addr} {q : Str} {H H' : Hp} {xs : List V} (a : Tg T q H H') (n : H' p = Option.none) : Tg T q H (upd H' p (.tup xs)) := a.new n trivial
theorem Tg.of {T : Addr} {q : Str} {H H' : Hp} (s : Same H H') (t : TabS H T q) (n : NoT H') : Tg T q H H' := ⟨fun b o e _ => s b o e, t.ext s, fun _ => n⟩
theorem Tg.sqL {K : PySem.W.Frag} {T a : Addr} {q : Str} {H H' : Hp} {xs : List V} (t : Tg T q H H') (n : a ≠ T) (h : SqL K H a xs) : SqL K H' a xs := t.kp.sqL (by simpa using n) h
theorem Prs.tg {T : Addr} {q : Str} {H H' : Hp} {rs : List V} {ps : List Pr} (h : Prs H rs ps) (t : Tg T q H H') (t0 : TabS H T q) : Prs H' rs ps := h.keep fun b xs e => t.at t0 e (fun ps => by simp)
end TB
namespace TB
open PySem PySem.Spec PyProof.Rows L2 LamX NdefX
section
variable {K : PySem.W.Frag} {a : Addr} {xs : List V} {g g1 : TG} {tt tt1 : TT} {wi1 : TI} {te : TE} {vs vs1 : List Nat} {σ : L2.St} {H1 : Hp} {Q : VK}
/-- the inner walk of a comprehension of two clauses -/
def InG (J1 : It) (g1 : TG) (tt1 : TT) (te : TE) (vs1 : List Nat) (D : Addr) (σ2 : L2.St) (Nx : Hp → Prop) (H4 : Hp) : Prop := ∃ W1 : Nat → Nat → Hp → Prop, (∃ m, W1 0 m H4) ∧ ∀ j k H, W1 j k H →
  (J1.stop j H ∧ Nx H) ∨ (J1.go j H ∧ ∃ Nx1 : Hp → Prop, (∀ H', Nx1 H' → ∃ k', k' < k ∧ W1 (j + 1) k' H') ∧ ∀ x H', J1.yld j H x H' → g1 x (wipe σ2 vs1) H' fun σ3 H5 => wipe σ3 vs1 = wipe σ2 vs1 ∧ tt1 σ3 H5 fun b H6 =>
    if b = true then te σ3 H6 fun y H7 => ∃ acc, H7 D = some (.lst acc) ∧ acc.length < sizeLine ∧ Nx1 (upd H7 D (.lst (acc ++ [y]))) else Nx1 H6)
theorem in_walk {J1 : It} {ys : List V} {ok1 : Hp → Prop} {D : Addr} {σ2 : L2.St} {Nx : Hp → Prop} {H4 : Hp} (w : Wk J1 ys ok1) (Pw : Nat → Hp → Prop) (h0 : Pw 0 H4) (hk : ∀ j H, Pw j H → ok1 H)
    (hs : ∀ (j : Nat) (y : V) (H : Hp), ys[j]? = some y → Pw j H → g1 y (wipe σ2 vs1) H fun σ3 H5 => wipe σ3 vs1 = wipe σ2 vs1 ∧ tt1 σ3 H5 fun b H6 => if b = true then te σ3 H6 fun v H7 => ∃ acc, H7 D = some (.lst acc) ∧ acc.length < sizeLine ∧ Pw (j + 1) (upd H7 D (.lst (acc ++ [v]))) else Pw (j + 1) H6)
    (hd : ∀ H, Pw ys.length H → Nx H) : InG J1 g1 tt1 te vs1 D σ2 Nx H4 := by
  refine ⟨fun j k H => k = ys.length - j ∧ j ≤ ys.length ∧ Pw j H, ⟨ys.length, by simp, Nat.zero_le _, h0⟩, ?_⟩
  rintro j k H ⟨rfl, hj, p⟩
  by_cases lt : j < ys.length
  · refine Or.inr ⟨w.go j H (hk j H p) lt, Pw (j + 1), fun H' p' => ⟨ys.length - (j + 1), by omega, rfl, lt, p'⟩, fun x H' y => ?_⟩
    obtain ⟨rfl, e⟩ := w.yld j H x H' (hk j H p) lt y
    exact hs j x _ e p
  · obtain rfl : j = ys.length := by omega
    exact Or.inl ⟨w.stop _ H (hk _ H p) (Nat.le_refl _), hd H p⟩
def LcG2 (J : It) (g : TG) (tt : TT) (wi1 : TI) (g1 : TG) (tt1 : TT) (te : TE) (vs vs1 : List Nat) (σ : L2.St) (Q : VK) (H1 : Hp) : Prop := ∀ D, H1 D = none → ∃ W : Nat → Nat → Hp → Prop, (∃ m, W 0 m (upd H1 D (.lst []))) ∧ ∀ i m H, W i m H →
  (J.stop i H ∧ Q (.ref D) H) ∨ (J.go i H ∧ ∃ Nx : Hp → Prop, (∀ H', Nx H' → ∃ m', m' < m ∧ W (i + 1) m' H') ∧ ∀ x H', J.yld i H x H' → g x (wipe σ vs) H' fun σ2 H2 => wipe σ2 vs = wipe σ vs ∧ tt σ2 H2 fun b H3 =>
    if b = true then wi1 σ2 H3 fun J1 H4 => InG J1 g1 tt1 te vs1 D σ2 Nx H4 else Nx H3)
/-- [e for i, x in enumerate(xs) for y in ..] -/
theorem lc2_en (Pv : Addr → Nat → Hp → Prop) (h0 : ∀ D, H1 D = none → Pv D 0 (upd H1 D (.lst []))) (hk : ∀ D i H, Pv D i H → SqL K H a xs)
    (hs : ∀ (D : Addr) (i : Nat) (x : V) (t : Addr) (H : Hp), H1 D = none → xs[i]? = some x → Pv D i H → H t = none → g (.ref t) (wipe σ vs) (upd H t (.tup [.int (i : Int), x])) fun σ2 H2 => wipe σ2 vs = wipe σ vs ∧ tt σ2 H2 fun b H3 =>
      if b = true then wi1 σ2 H3 fun J1 H4 => InG J1 g1 tt1 te vs1 D σ2 (Pv D (i + 1)) H4 else Pv D (i + 1) H3)
    (hd : ∀ D H, H1 D = none → Pv D xs.length H → Q (.ref D) H) : LcG2 (Ite K a) g tt wi1 g1 tt1 te vs vs1 σ Q H1 := by
  intro D nD
  refine ⟨fun i m H => m = xs.length - i ∧ i ≤ xs.length ∧ Pv D i H, ⟨xs.length, by simp, Nat.zero_le _, h0 D nD⟩, ?_⟩
  rintro i m H ⟨rfl, hi, p⟩
  have sq := hk D i H p
  by_cases lt : i < xs.length
  · refine Or.inr ⟨⟨xs, xs[i], sq, List.getElem?_eq_getElem lt⟩, Pv D (i + 1), fun H' p' => ⟨xs.length - (i + 1), by omega, rfl, lt, p'⟩, fun v H' y => ?_⟩
    obtain ⟨t, x, rfl, nt, rfl, e⟩ := y
    exact hs D i x t H nD (e xs sq) p nt
  · obtain rfl : i = xs.length := by omega
    exact Or.inl ⟨⟨xs, sq, Nat.le_refl _⟩, hd D H nD p⟩
theorem st_lc2 {wi : TI} (h : wi σ H1 fun J H1 => LcG2 J g tt wi1 g1 tt1 te vs vs1 σ Q H1) : tLc2 wi g tt wi1 g1 tt1 te vs vs1 σ H1 Q := h
/-! ### piles: tuples of a lock and a life -/
def PileR (H : Hp) : List V → List Str → Prop := Paired fun (x : V) (z : Str) => ∃ (u : Addr) (v : V), x = .ref u ∧ H u = some (.tup [.str z, v])
theorem PileR.len {H : Hp} {rs : List V} {zs : List Str} (h : PileR H rs zs) : rs.length = zs.length := Paired.length h
theorem PileR.keep {H H' : Hp} {rs : List V} {zs : List Str} (h : PileR H rs zs) (k : ∀ b xs, H b = some (.tup xs) → H' b = some (.tup xs)) : PileR H' rs zs := Paired.mapP h fun x p ⟨t, v, e, z⟩ => ⟨t, v, e, k _ _ z⟩
theorem PileR.snoc {H : Hp} {u : Addr} {v : V} {z : Str} : ∀ {rs : List V} {zs : List Str}, PileR H rs zs → H u = some (.tup [.str z, v]) → PileR H (rs ++ [.ref u]) (zs ++ [z])
  | _, _, .nil, h => .cons ⟨u, v, rfl, h⟩ .nil
  | _, _, .cons a r, h => .cons a (PileR.snoc r h)
theorem PileR.take {H : Hp} : ∀ {rs : List V} {zs : List Str} (n : Nat), PileR H rs zs → PileR H (rs.take n) (zs.take n)
  | _, _, 0, _ => .nil
  | _, _, n + 1, .nil => .nil
  | _, _, n + 1, .cons a r => .cons a (PileR.take n r)
/-- the lock of x -/
def lockOf (H : Hp) (x : V) : V := match x with
  | .ref t => match H t with
    | some (.tup [z, _]) => z
    | _ => .non
  | _ => .non
theorem lockOf_eq {H : Hp} {t : Addr} {z v : V} (h : H t = some (.tup [z, v])) : lockOf H (.ref t) = z := by
  show (match H t with
    | some (.tup [z, _]) => z
    | _ => V.non) = z
  rw [h]
theorem PileR.locks {H : Hp} : ∀ {rs : List V} {zs : List Str}, PileR H rs zs → rs.map (lockOf H) = zs.map V.str
  | _, _, .nil => rfl
  | _, _, .cons ⟨t, v, e, z⟩ r => by rw [List.map_cons, List.map_cons, PileR.locks r, e, lockOf_eq z]
theorem PileR.mem {H : Hp} : ∀ {rs : List V} {zs : List Str}, PileR H rs zs → ∀ x ∈ rs, ∃ (t : Addr) (z : Str) (v : V), x = .ref t ∧ H t = some (.tup [.str z, v])
  | _, _, .nil, x, hx => nomatch hx
  | _, _, .cons ⟨t, v, e, z⟩ r, x, hx => by
    rcases List.mem_cons.mp hx with q | q
    · exact ⟨t, _, v, q.trans e, z⟩
    · exact PileR.mem r x q
theorem fm_some {α β : Type} (f : α → β) : ∀ l : List α, l.filterMap (fun x => some (f x)) = l.map f
  | [] => rfl
  | x :: l => by rw [List.filterMap_cons, List.map_cons, fm_some f l]
end
end TB
namespace TB
open PySem PySem.Spec PyProof.Rows L2 LamX NdefX
/-- C(k = v, ..), the names ks -/
structure MakK (P : Program) (w : World) (K : PySem.W.Frag) (mg : Str → Option Value) (base : Heap) (k : Nat) (x : Str) (C : Addr) (sp : Sp) (ks : List Str) (gV : List V → List V → List V) : Prop where
  kex : ∃ (f : Addr) (fd : FuncData) (ps : List Str) (g : List Value → List Value → List Value), Mk K C f ∧ FnOk P w K mg base C8.CX0 k f fd ps sp ∧ mg x = some (.ref C) ∧ KBn K fd ps 1 ks g gV
theorem pe_mkK {X : Cx} {k j : Nat} {x : Str} {C : Addr} {sp : Sp} {ks : List Str} {gV : List V → List V → List V} {kws : List Keyword} {tk : TA} {p pos : Pos} (c : MakK X.prog X.w X.K X.mg X.base k x C sp ks gV) (hr : Room j X.A) (hk : k + 1 ≤ j) (hg : Gl X x) (hkw : PK X kws tk)
    (hall : (backToKw pos (keywordEach kws X.env)).all (·.1.isSome) = true := by rfl) (hks : (backToKw pos (keywordEach kws X.env)).filterMap (·.1) = ks := by rfl) (hdb : (x == ("__debug__" : Str)) = false := by decide)
    (hpl : ((backTo pos (starEach [] X.env)).any (·.1) || (backToKw pos (keywordEach kws X.env)).any (·.1.isNone)) = false := by rfl) : PE X (.Call (.Name x p) [] kws pos) (tMakeK C 0 ks.length sp gV C8.E0 tNil tk) := by
  obtain ⟨f, fd, ps, g, M, F, hm, hb⟩ := c.kex
  exact pe_makeK0 M F (hr.mono hk) hg hm hb pass0 hkw hall hks hdb hpl
structure LifC (K : PySem.W.Frag) (C : Addr) : Prop where
  cls : Cls K C
  n1 : NoAttr K C "place"
  n2 : NoAttr K C "hand"
  n3 : NoAttr K C "drafts"
  n4 : NoAttr K C "called"
def spLifeI (C : Addr) : Sp := fun vs H Q _ => ∃ (x dx : Addr) (v1 v2 v3 v4 : V), vs = [.ref x, v1, v2, v3, v4] ∧ H x = some (.ins C dx []) ∧ Q .non (upd H x (.ins C dx [("place", v1), ("hand", v2), ("drafts", v3), ("called", v4)]))
theorem st_mkK {σ : L2.St} {H : Hp} {Q : VK} {C : Addr} {n m : Nat} {sp : Sp} {gV : List V → List V → List V} {E : XK} {t tk : TA} (h : t σ H fun vs H1 => tk σ H1 fun zs H2 => vs.length = n ∧ zs.length = m ∧ ∀ x dx, H2 x = none → H2 dx = none → dx ≠ x →
  sp (gV (.ref x :: vs) zs) (upd (upd H2 dx (.own x)) x (.ins C dx [])) (fun v H3 => v = .non ∧ Q (.ref x) H3) E) : tMakeK C n m sp gV E t tk σ H Q := h
end TB
namespace TB
open PySem PySem.Spec PyProof.Rows L2 LamX NdefX
theorem eqv_strs : ∀ ws : List Str, PyData.eqv (dStrs ws) (dStrs ws) = true
  | [] => by simp [dStrs, PyData.eqv, PyData.eqvAll]
  | z :: r => by
    have ih := eqv_strs r
    simp only [dStrs, PyData.eqv] at ih ⊢
    simp only [List.map_cons, PyData.eqvAll, PyData.eqv, beq_self_eq_true, Bool.true_and]
    exact ih
theorem st_neS {K : PySem.W.Frag} {H : Hp} {Q : VK} {a b : Addr} {ws : List Str} (h : ∀ z ∈ ws, Nm z) (h1 : SqL K H a (ws.map V.str)) (h2 : SqL K H b (ws.map V.str)) (q : Q (.bl false) H) : rNeD K (.ref a) (.ref b) H Q :=
  ⟨dStrs ws, dStrs ws, dp_strs h1, dp_strs h2, sh_strs h, sh_strs h, by rw [eqv_strs]; exact q⟩
theorem st_reprB {K : PySem.W.Frag} {H : Hp} {Q : VK} {b : Bool} (q : Q (.str (PyData.bool b).shown) H) : rReprD K [.bl b] H Q := by
  refine st_repr (.bl b) ?_ ?_ ?_ q
  · cases b <;> decide +kernel
  · cases b <;> decide +kernel
  · cases b <;> decide +kernel
theorem st_reprS {K : PySem.W.Frag} {H : Hp} {Q : VK} {a : Addr} {ws : List Str} (h : ∀ z ∈ ws, Nm z) (n : ws.length ≤ 1000) (h1 : SqL K H a (ws.map V.str)) (q : Q (.str (dStrs ws).shown) H) : rReprD K [.ref a] H Q := by
  have h2 := strs_len h
  refine st_repr (dp_strs h1) (strs_show ws) (Nat.le_trans (strs_depth _) (by decide)) ?_ q
  rw [sizeLine_eq]
  omega
theorem st_slT {K : PySem.W.Frag} {H : Hp} {Q : VK} {a : Addr} {xs : List V} {n : Nat} (h : H a = some (.tup xs)) (k : ∀ p H', Same H H' → (NoT H → NoT H') → H' p = some (.tup (xs.take n)) → Q (.ref p) H') : rSlA K (.ref a) none (some (n : Int)) H Q := by
  refine ⟨a, xs, rfl, sqT_of h, fun e => ?_, fun _ p np => ?_⟩
  · refine k a H (fun _ _ z => z) id ?_
    have e2 : xs.take n = xs := by
      rw [← cut_to]
      unfold cutV
      rw [e.1, e.2]
      simp
    rw [e2]
    exact h
  · rw [cut_to]
    exact k p _ (fun _ _ z => old_upd np z) (fun z => z.tup) upd_same
end TB
namespace TB
open PySem PySem.Spec PyProof.Rows L2 LamX NdefX
/-- the code object of a def of the text -/
theorem code_of {K : PySem.W.Frag} {x qual : Str} {params : Arguments} {body : List Stmt} {scope : Scope} {dvs : List V} {kws : List (Str × V)} {p : Str × Option Str} {fd : FuncData} (F : FunD K x qual params body scope dvs kws (He.fAd K p) fd) : fd.code = .ref (He.codeOf K p) := by
  obtain ⟨oc, od, dV, kV, doc, pm, an, cdv, ct, osl, rfl, lk, hcd, _, _⟩ := F.ex
  obtain ⟨c, rfl⟩ := He.codeIn_ref hcd
  rw [He.codeOf_eq lk rfl]
/-- the keyword default x of the def at f, if it is an object -/
def kwAt (f : Str × Option Str) (x : Str) (K : PySem.W.Frag) : Addr := match K.lookup (He.fAd K f) with
  | some ⟨_, _, .func fd, _⟩ => (match fd.kwdefaults with
    | .ref D => (match PySem.W.nsIn K D x with
      | some (some (.ref a)) => a
      | _ => 0)
    | _ => 0)
  | _ => 0
/-- a tuple of none -/
def nilB (a : PySem.W.Frag → Addr) (K : PySem.W.Frag) : Bool := match K.lookup (a K) with
  | some ⟨.type c, _, .seq its _, _⟩ => decide (c = "tuple") && decide (its.toList = [])
  | _ => false
theorem nilB_ok {a : PySem.W.Frag → Addr} {K : PySem.W.Frag} (h : nilB a K = true) (H : Hp) : SqT K H (a K) [] := by
  unfold nilB at h
  cases q : K.lookup (a K) with
  | none =>
    rw [q] at h
    exact nomatch h
  | some o =>
    obtain ⟨oc, od, dt, osl⟩ := o
    rw [q] at h
    cases oc with
    | type c =>
      cases dt with
      | seq its n =>
        have h2 : (decide (c = "tuple") && decide (its.toList = [])) = true := h
        rw [Bool.and_eq_true, decide_eq_true_iff, decide_eq_true_iff] at h2
        refine Or.inr ⟨_, its, n, q, congrArg Value.type h2.1, rfl, ?_, ?_⟩
        · rw [← Array.length_toList, h2.2]
          exact Nat.zero_le _
        · rw [h2.2]
          exact .nil
      | _ => exact nomatch h
    | _ => exact nomatch (show (_ : Bool) = true from h)
end TB
namespace TB
open PySem PySem.Spec PyProof.Rows L2 LamX NdefX
theorem TabS_nil {H : Hp} {T : Addr} {q : Str} (h : H T = some (.tbl #[])) : TabS H T q := TabS.nil h
theorem ne_tab {K : PySem.W.Frag} {H : Hp} {a T : Addr} {xs : List V} (h : SqL K H a xs) (t : H T = some (.tbl #[])) (n : K.lookup T = none) : a ≠ T := by
  rintro rfl
  rcases h with (e | ⟨o, e⟩) | ⟨o, its, m, e, _⟩
  · rw [t] at e
    exact nomatch e
  · rw [t] at e
    exact nomatch e
  · rw [n] at e
    exact nomatch e
/-- Life(place=, hand=, called=): drafts by default -/
def gLife {α : Type} (us mv ws : List α) : List α := match us, mv, ws with
  | [x], [d], [p, h, c] => [x, p, h, d, c]
  | _, _, _ => []
theorem gLife_rel {vs mz zs : List V} {us mv ws : List Value} (h1 : Vals vs us) (h2 : Vals mz mv) (h3 : Vals zs ws) : Vals (gLife vs mz zs) (gLife us mv ws) := by
  match vs, us, mz, mv, zs, ws, h1, h2, h3 with
  | [_], [_], [_], [_], [_, _, _], [_, _, _], .cons a .nil, .cons b .nil, .cons p (.cons h (.cons c .nil)) => exact .cons a (.cons p (.cons h (.cons b (.cons c .nil))))
  | [], [], _, _, _, _, _, _, _ => exact .nil
  | _ :: _ :: _, _ :: _ :: _, _, _, _, _, _, _, _ => exact .nil
  | [_], [_], [], [], _, _, _, _, _ => exact .nil
  | [_], [_], _ :: _ :: _, _ :: _ :: _, _, _, _, _, _ => exact .nil
  | [_], [_], [_], [_], [], [], _, _, _ => exact .nil
  | [_], [_], [_], [_], [_], [_], _, _, _ => exact .nil
  | [_], [_], [_], [_], [_, _], [_, _], _, _, _ => exact .nil
  | [_], [_], [_], [_], _ :: _ :: _ :: _ :: _, _ :: _ :: _ :: _ :: _, _, _, _ => exact .nil
end TB
namespace TB
open PySem PySem.Spec PyProof.Rows L2 LamX NdefX
section
variable {K : PySem.W.Frag} {a : Addr} {xs : List V} {g : TG} {tt : TT} {te : TE} {vs : List Nat} {σ : L2.St} {H1 : Hp} {Q : VK}
/-- [e for i, x in enumerate(xs) if ..] -/
theorem lc_en (Pv : Addr → Nat → List V → Hp → Prop) (h0 : ∀ D, H1 D = none → Pv D 0 [] (upd H1 D (.lst []))) (hk : ∀ D i acc H, Pv D i acc H → SqL K H a xs)
    (hs : ∀ (D : Addr) (i : Nat) (x : V) (acc : List V) (t : Addr) (H : Hp), H1 D = none → xs[i]? = some x → Pv D i acc H → H t = none → g (.ref t) (wipe σ vs) (upd H t (.tup [.int (i : Int), x])) fun σ2 H2 => wipe σ2 vs = wipe σ vs ∧ tt σ2 H2 fun b H3 =>
      if b = true then te σ2 H3 fun y H4 => ∃ acc', H4 D = some (.lst acc') ∧ acc'.length < sizeLine ∧ ∃ a2, Pv D (i + 1) a2 (upd H4 D (.lst (acc' ++ [y]))) else ∃ a2, Pv D (i + 1) a2 H3)
    (hd : ∀ D acc H, H1 D = none → Pv D xs.length acc H → Q (.ref D) H) : LcG (Ite K a) g tt te vs σ Q H1 := by
  intro D nD
  refine ⟨fun i m H => m = xs.length - i ∧ i ≤ xs.length ∧ ∃ acc, Pv D i acc H, ⟨xs.length, by simp, Nat.zero_le _, [], h0 D nD⟩, ?_⟩
  rintro i m H ⟨rfl, hi, acc, p⟩
  have sq := hk D i acc H p
  by_cases lt : i < xs.length
  · refine Or.inr ⟨⟨xs, xs[i], sq, List.getElem?_eq_getElem lt⟩, fun H' => ∃ acc, Pv D (i + 1) acc H', fun H' p' => ⟨xs.length - (i + 1), by omega, rfl, lt, p'⟩, fun v H' y => ?_⟩
    obtain ⟨t, x, rfl, nt, rfl, e⟩ := y
    exact hs D i x acc t H nD (e xs sq) p nt
  · obtain rfl : i = xs.length := by omega
    exact Or.inl ⟨⟨xs, sq, Nat.le_refl _⟩, hd D acc H nD p⟩
end
/-- how many stay: those ahead of the first that is among fs -/
def stayOf (zs fs : List Str) : Nat := (zs.takeWhile fun z => !decide (z ∈ fs)).length
theorem stay_le (zs fs : List Str) : stayOf zs fs ≤ zs.length := (List.takeWhile_sublist _).length_le
/-- the places of those among fs -/
def goneOf (zs fs : List Str) (n : Nat) : List Nat := (List.range n).filter fun i => decide (zs.getD i ⟨#[]⟩ ∈ fs)
def spLocks (C : Addr) : Sp := fun vs H Q _ => ∃ (x : Addr) (ls : List Str) (ps : List Pr), vs = [.ref x] ∧ OrdAt C H x ls ps ∧ ∀ l, H l = none → Q (.ref l) (upd H l (.lst (ls.map V.str)))
def spPairs (C : Addr) : Sp := fun vs H Q _ => ∃ (x : Addr) (ls : List Str) (ps : List Pr), vs = [.ref x] ∧ OrdAt C H x ls ps ∧ ∀ (l : Addr) (rs : List V), H l = none → Prs H rs ps → Q (.ref l) (upd H l (.lst rs))
end TB
/-! What an ask comes to, plain. -/
namespace TB
open PySem PySem.Spec PyProof.Rows L2 LamX NdefX
theorem stay_out : ∀ {zs fs : List Str} {i : Nat}, i < stayOf zs fs → zs.getD i ⟨#[]⟩ ∉ fs
  | [], fs, i, h => absurd h (Nat.not_lt_zero _)
  | z :: r, fs, i, h => by
    by_cases c : z ∈ fs
    · have e : stayOf (z :: r) fs = 0 := by
        unfold stayOf
        rw [List.takeWhile_cons_of_neg (by simp [c])]
        rfl
      rw [e] at h
      exact absurd h (Nat.not_lt_zero _)
    · have e : stayOf (z :: r) fs = stayOf r fs + 1 := by
        unfold stayOf
        rw [List.takeWhile_cons_of_pos (by simp [c])]
        rfl
      cases i with
      | zero => exact c
      | succ j =>
        rw [e] at h
        exact stay_out (zs := r) (by omega)
theorem stay_in : ∀ {zs fs : List Str}, stayOf zs fs < zs.length → zs.getD (stayOf zs fs) ⟨#[]⟩ ∈ fs
  | [], fs, h => absurd h (Nat.not_lt_zero _)
  | z :: r, fs, h => by
    by_cases c : z ∈ fs
    · have e : stayOf (z :: r) fs = 0 := by
        unfold stayOf
        rw [List.takeWhile_cons_of_neg (by simp [c])]
        rfl
      rw [e]
      exact c
    · have e : stayOf (z :: r) fs = stayOf r fs + 1 := by
        unfold stayOf
        rw [List.takeWhile_cons_of_pos (by simp [c])]
        rfl
      rw [e] at h ⊢
      exact stay_in (zs := r) (by simpa using h)
theorem gone_succ (zs fs : List Str) (n : Nat) : goneOf zs fs (n + 1) = goneOf zs fs n ++ (if zs.getD n ⟨#[]⟩ ∈ fs then [n] else []) := by
  unfold goneOf
  rw [List.range_succ, List.filter_append]
  by_cases c : zs.getD n ⟨#[]⟩ ∈ fs
  · rw [if_pos c, List.filter_cons, if_pos (decide_eq_true c)]
    rfl
  · rw [if_neg c, List.filter_cons, if_neg (by rw [decide_eq_false c]; decide)]
    rfl
theorem gone_is (zs fs : List Str) : ∀ n, n ≤ zs.length → (n ≤ stayOf zs fs → goneOf zs fs n = []) ∧ (stayOf zs fs < n → ∃ r, goneOf zs fs n = stayOf zs fs :: r)
  | 0, _ => ⟨fun _ => rfl, fun h => absurd h (Nat.not_lt_zero _)⟩
  | n + 1, hn => by
    obtain ⟨h1, h2⟩ := gone_is zs fs n (by omega)
    rw [gone_succ]
    constructor
    · intro h
      rw [h1 (by omega), if_neg (stay_out (by omega))]
      rfl
    · intro h
      by_cases c : stayOf zs fs = n
      · refine ⟨[], ?_⟩
        have c2 := stay_in (zs := zs) (fs := fs) (by omega)
        rw [h1 (by omega), ← c, if_pos c2]
        rfl
      · obtain ⟨r, e⟩ := h2 (by omega)
        exact ⟨r ++ _, by rw [e]; rfl⟩
theorem stay_congr {zs fs gs : List Str} (h : ∀ z ∈ zs, (z ∈ fs ↔ z ∈ gs)) : stayOf zs fs = stayOf zs gs := by
  unfold stayOf
  congr 1
  induction zs with
  | nil => rfl
  | cons z r ih =>
    have h1 := h z List.mem_cons_self
    have ih2 := ih (fun y hy => h y (List.mem_cons_of_mem _ hy))
    by_cases c : z ∈ fs
    · rw [List.takeWhile_cons_of_neg (by simp [c]), List.takeWhile_cons_of_neg (by simp [h1.mp c])]
    · rw [List.takeWhile_cons_of_pos (by simp [c]), List.takeWhile_cons_of_pos (by simp only [decide_eq_false (fun e => c (h1.mpr e)), Bool.not_false]), ih2]
theorem rch_iff {ps qs : List Pr} (h : ∀ z, z ∈ ps ↔ z ∈ qs) {a b : Str} : Rch ps a b ↔ Rch qs a b := ⟨Rch.mono fun p hp => (h p).mp hp, Rch.mono fun p hp => (h p).mpr hp⟩
theorem sh_ints (ns : List Int) : SeqAt.shaped (dInts ns) = true := by
  have h1 : ∀ ns : List Int, PyData.canLayAll0 (ns.map PyData.int) = true := by
    intro ns
    induction ns with
    | nil => simp [PyData.canLayAll0]
    | cons z r ih => simp [PyData.canLayAll0, PyData.canLay0, ih]
  have h2 : ∀ ns : List Int, PyData.depthAll (ns.map PyData.int) ≤ 1 := by
    intro ns
    induction ns with
    | nil => simp [PyData.depthAll]
    | cons z r ih =>
      simp only [List.map_cons, PyData.depthAll, PyData.depth]
      omega
  have h3 := h2 ns
  show (PyData.canLay0 (.list (ns.map PyData.int)) && decide (PyData.depth (.list (ns.map PyData.int)) ≤ 64)) = true
  rw [Bool.and_eq_true]
  refine ⟨by simp only [PyData.canLay0]; exact h1 ns, decide_eq_true ?_⟩
  simp only [PyData.depth]
  omega
theorem eqv_nilI (ns : List Int) : PyData.eqv (dInts ns) (dInts []) = decide (ns = []) := by
  cases ns with
  | nil => simp [dInts, PyData.eqv, PyData.eqvAll]
  | cons z r => simp [dInts, PyData.eqv, PyData.eqvAll]
theorem st_neNilI {K : PySem.W.Frag} {H : Hp} {Q : VK} {a b : Addr} {ns : List Int} (h1 : H a = some (.lst (ns.map V.int))) (h2 : H b = some (.lst [])) (q : Q (.bl (!decide (ns = []))) H) : rNeD K (.ref a) (.ref b) H Q :=
  ⟨dInts ns, dInts [], dp_ints (sqL_of h1), dp_ints (ns := []) (sqL_of h2), sh_ints ns, sh_ints [], by rw [eqv_nilI]; exact q⟩
theorem st_eqNilI {K : PySem.W.Frag} {H : Hp} {Q : VK} {a b : Addr} {ns : List Int} (h1 : H a = some (.lst (ns.map V.int))) (h2 : H b = some (.lst [])) (q : Q (.bl (decide (ns = []))) H) : rEqD K (.ref a) (.ref b) H Q :=
  ⟨dInts ns, dInts [], dp_ints (sqL_of h1), dp_ints (ns := []) (sqL_of h2), sh_ints ns, sh_ints [], by rw [eqv_nilI]; exact q⟩
/-- the answer of an ask -/
def askHow (zs fs : List Str) (z : Str) : Str := if z ∈ zs then "held" else if stayOf zs fs = zs.length then "asks" else "back"
def askN (zs fs : List Str) (z : Str) : Nat := if z ∈ zs then zs.length else stayOf zs fs
def askP (zs fs : List Str) (z : Str) : List Pr := if z ∈ zs then [] else (zs.take (stayOf zs fs)).map fun y => (y, z)
end TB
namespace TB
open PySem PySem.Spec PyProof.Rows L2 LamX NdefX
open Classical in
theorem OrdOk.reachL {ls : List Str} {ps : List Pr} (h : OrdOk ls ps) (z : Str) : ∃ fs : List Str, ∀ u, u ∈ fs ↔ Rch ps z u := by
  refine ⟨ls.filter fun u => decide (Rch ps z u), fun u => ?_⟩
  rw [List.mem_filter, decide_eq_true_iff]
  refine ⟨fun e => e.2, fun e => ⟨?_, e⟩⟩
  cases e with
  | one m => exact (h.mem _ m).2
  | step _ m => exact (h.mem _ m).2
theorem atI0 {r : List V} {v : V} : atI (v :: r) (0 : Int) = some v := atI_nat (j := 0) rfl
theorem gone_ints (l : List Nat) : l.map (fun j => V.int (j : Nat)) = (l.map (fun j : Nat => (j : Int))).map V.int := by rw [List.map_map]; rfl
end TB
namespace TB
open PySem PySem.Spec PyProof.Rows L2 LamX NdefX
/-- the search by a list of pairs, within one turn: the pairs seen so far are qs -/
structure JInv (ls : List Str) (ps qs : List Pr) (a l : Str) (fs lf : List Str) : Prop where
  nd : fs.Nodup
  sub : ∀ z ∈ fs, Rch ps a z
  ins : ∀ z ∈ fs, z ∈ ls
  lft : ∀ z ∈ lf, z = a ∨ z ∈ fs
  me : l = a ∨ l ∈ fs
  cl : ∀ z, z = a ∨ z ∈ fs → z ≠ l → z ∈ lf ∨ ∀ c, (z, c) ∈ ps → c ∈ fs
  own : ∀ c, (l, c) ∈ qs → c ∈ fs
theorem JInv.start {ls : List Str} {ps : List Pr} {a l : Str} {fs lf : List Str} (b : BInv ls ps a fs (lf ++ [l])) : JInv ls ps [] a l fs lf := by
  refine ⟨b.nd, b.sub, b.ins, fun z hz => b.lft z (List.mem_append_left _ hz), b.lft l (List.mem_append_right _ (List.mem_singleton.mpr rfl)), fun z hz hn => ?_, (fun _ z => nomatch z)⟩
  rcases b.cl z hz with e | e
  · rcases List.mem_append.mp e with e2 | e2
    · exact Or.inl e2
    · exact absurd (List.mem_singleton.mp e2) hn
  · exact Or.inr e
theorem JInv.skip {ls : List Str} {ps qs : List Pr} {a l : Str} {fs lf : List Str} (b : JInv ls ps qs a l fs lf) {p : Pr} (h : p.1 = l → p.2 ∈ fs) : JInv ls ps (qs ++ [p]) a l fs lf := by
  refine ⟨b.nd, b.sub, b.ins, b.lft, b.me, b.cl, fun c hc => ?_⟩
  rcases List.mem_append.mp hc with e | e
  · exact b.own c e
  · have e2 := List.mem_singleton.mp e
    have e3 := h (by rw [← e2])
    rw [← e2] at e3
    exact e3
theorem JInv.put {ls : List Str} {ps qs : List Pr} {a l : Str} {fs lf : List Str} (b : JInv ls ps qs a l fs lf) {p : Pr} (hp : p ∈ ps) (h1 : p.1 = l) (h2 : p.2 ∉ fs) (h3 : p.2 ∈ ls) : JInv ls ps (qs ++ [p]) a l (fs ++ [p.2]) (lf ++ [p.2]) := by
  refine ⟨?_, ?_, ?_, ?_, ?_, ?_, ?_⟩
  · exact List.nodup_append.mpr ⟨b.nd, by simp, fun u hu v hv e => h2 (by rw [List.mem_singleton.mp hv] at e; rw [← e]; exact hu)⟩
  · intro z hz
    rcases List.mem_append.mp hz with e | e
    · exact b.sub z e
    · rw [List.mem_singleton.mp e]
      have hp2 : (l, p.2) ∈ ps := by rw [← h1]; exact hp
      rcases b.me with e2 | e2
      · rw [e2] at hp2
        exact .one hp2
      · exact .step (b.sub l e2) hp2
  · intro z hz
    rcases List.mem_append.mp hz with e | e
    · exact b.ins z e
    · rw [List.mem_singleton.mp e]
      exact h3
  · intro z hz
    rcases List.mem_append.mp hz with e | e
    · rcases b.lft z e with e2 | e2
      · exact Or.inl e2
      · exact Or.inr (List.mem_append_left _ e2)
    · exact Or.inr (List.mem_append_right _ e)
  · rcases b.me with e | e
    · exact Or.inl e
    · exact Or.inr (List.mem_append_left _ e)
  · intro z hz hn
    by_cases m : z = a ∨ z ∈ fs
    · rcases b.cl z m hn with e | e
      · exact Or.inl (List.mem_append_left _ e)
      · exact Or.inr (fun c hc => List.mem_append_left _ (e c hc))
    · refine Or.inl (List.mem_append_right _ ?_)
      rcases hz with e | e
      · exact absurd (Or.inl e) m
      · rcases List.mem_append.mp e with e2 | e2
        · exact absurd (Or.inr e2) m
        · exact e2
  · intro c hc
    rcases List.mem_append.mp hc with e | e
    · exact List.mem_append_left _ (b.own c e)
    · have e2 := List.mem_singleton.mp e
      refine List.mem_append_right _ (List.mem_singleton.mpr ?_)
      rw [← e2]
theorem JInv.done {ls : List Str} {ps : List Pr} {a l : Str} {fs lf : List Str} (b : JInv ls ps ps a l fs lf) : BInv ls ps a fs lf := by
  refine ⟨b.nd, b.sub, b.ins, b.lft, fun z hz => ?_⟩
  by_cases c : z = l
  · rw [c]
    exact Or.inr b.own
  · exact b.cl z hz c
end TB
namespace TB
open PySem PySem.Spec PyProof.Rows L2 LamX NdefX
theorem Prs.get {H : Hp} : ∀ {rs : List V} {ps : List Pr} {j : Nat} {x : V}, Prs H rs ps → rs[j]? = some x → ∃ (t : Addr) (p : Pr), x = .ref t ∧ ps[j]? = some p ∧ H t = some (.tup [.str p.1, .str p.2])
  | _, _, j, x, .nil, h => nomatch (show (none : Option V) = some x from h)
  | _, _, 0, x, .cons (b := p) ⟨t, e, z⟩ r, h => ⟨t, p, (Option.some.inj h).symm.trans e, rfl, z⟩
  | _, _, j + 1, x, .cons a r, h => Prs.get (j := j) r h
end TB
namespace TB
open PySem PySem.Spec PyProof.Rows L2 LamX NdefX
open Classical in
theorem reachP (ps : List Pr) (z : Str) : ∃ fs : List Str, ∀ u, u ∈ fs ↔ Rch ps z u := by
  refine ⟨(ps.map fun p => p.2).filter fun u => decide (Rch ps z u), fun u => ?_⟩
  rw [List.mem_filter, decide_eq_true_iff]
  refine ⟨fun e => e.2, fun e => ⟨?_, e⟩⟩
  cases e with
  | one m => exact List.mem_map.mpr ⟨_, m, rfl⟩
  | step _ m => exact List.mem_map.mpr ⟨_, m, rfl⟩
end TB
/-! Answers of asks shown. -/
namespace TB
open PySem PySem.Spec PyProof.Rows L2 LamX NdefX
theorem shown_tuple_le {B : Nat} {ds : List PyData} (h : ∀ d ∈ ds, d.shown.length ≤ B) : (PyData.tuple ds).shown.length ≤ ds.length * B + 2 * ds.length + 3 := by
  have e : (PyData.tuple ds).shown = tupleText (ds.map fun d => d.shown) := by
    simp only [PyData.shown]
    rw [show ds = ds.map id from (List.map_id ds).symm, shownAll_map]
    simp
  rw [e]
  have h1 := tupleText_len_le (ds.map fun d => d.shown)
  rw [List.map_map, List.length_map] at h1
  have h2 : (ds.map ((fun x : Str => x.length) ∘ fun d => d.shown)).sum ≤ ds.length * B := sum_le fun x hx => h x hx
  omega
theorem dPr_len {p : Pr} (h : NmP p) : (dPr p).shown.length ≤ 171 := by
  have := shown_tuple_le (B := 82) (ds := [.str p.1, .str p.2]) (fun d hd => by
    simp only [List.mem_cons, List.not_mem_nil, or_false] at hd
    rcases hd with rfl | rfl
    · exact shown_nm h.1
    · exact shown_nm h.2)
  exact this
def dPrs (ps : List Pr) : PyData := .list (ps.map dPr)
theorem dPrs_len {ps : List Pr} (h : ∀ p ∈ ps, NmP p) : (dPrs ps).shown.length ≤ ps.length * 171 + 2 * ps.length + 3 := shown_list_le fun x hx => dPr_len (h x hx)
/-- the answer as data -/
def dAsk (how : Str) (n : Nat) (ps : List Pr) : PyData := .tuple [.str how, .int (n : Int), dPrs ps]
theorem dAsk_dp {K : PySem.W.Frag} {H : Hp} {t l : Addr} {how : Str} {n : Nat} {rs : List V} {ps : List Pr} (h1 : H t = some (.tup [.str how, .int (n : Nat), .ref l])) (h2 : H l = some (.lst rs)) (h3 : Prs H rs ps) : Dp K H (.ref t) (dAsk how n ps) :=
  .tup (sqT_of h1) (.cons (.str _) (.cons (.int _) (.cons (.lst (sqL_of h2) h3.dp) .nil)))
theorem askHow_nm (zs fs : List Str) (z : Str) : Nm (askHow zs fs z) := by
  unfold askHow
  split
  · exact nm_of (by decide +kernel)
  · split
    · exact nm_of (by decide +kernel)
    · exact nm_of (by decide +kernel)
theorem st_reprAsk {K : PySem.W.Frag} {H : Hp} {Q : VK} {t l : Addr} {how : Str} {n : Nat} {rs : List V} {ps : List Pr} (h1 : H t = some (.tup [.str how, .int (n : Nat), .ref l])) (h2 : H l = some (.lst rs)) (h3 : Prs H rs ps) (nh : Nm how) (np : ∀ p ∈ ps, NmP p) (hn : n ≤ 1000) (hp : ps.length ≤ 1000)
    (q : Q (.str (dAsk how n ps).shown) H) : rReprD K [.ref t] H Q := by
  refine st_repr (dAsk_dp h1 h2 h3) ?_ ?_ ?_ q
  · have e1 := ints_show (ns := [(n : Int)]) (fun m hm => by
      rw [List.mem_singleton.mp hm]
      exact Nat.lt_of_le_of_lt (show n ≤ 1000 from hn) (by decide))
    simp only [dInts, List.map_cons, List.map_nil, PyData.showable, PyData.showableAll] at e1
    simp only [dAsk, dPrs, PyData.showable, PyData.showableAll]
    rw [Bool.and_true] at e1
    rw [e1, showAll_map (f := dPr) (fun x _ => by simp only [dPr, PyData.showable, PyData.showableAll]; rfl)]
    rfl
  · have e1 := depthAll_map (f := dPr) (n := 2) (l := ps) (fun x _ => dPr_depth x)
    simp only [dAsk, dPrs, PyData.depth, PyData.depthAll]
    omega
  · have e1 := dPrs_len np
    have e2 := shown_tuple_le (B := 173003) (ds := [.str how, .int (n : Int), dPrs ps]) (fun d hd => by
      simp only [List.mem_cons, List.not_mem_nil, or_false] at hd
      rcases hd with rfl | rfl | rfl
      · exact Nat.le_trans (shown_nm nh) (by decide)
      · exact Nat.le_trans (shown_int_le (Nat.lt_of_le_of_lt (show n ≤ 1000 from hn) (by decide))) (by decide)
      · omega)
    rw [sizeLine_eq]
    show (PyData.tuple [.str how, .int (n : Int), dPrs ps]).shown.length ≤ _
    have e3 : ([PyData.str how, PyData.int (n : Int), dPrs ps] : List PyData).length = 3 := rfl
    rw [e3] at e2
    omega
end TB
namespace TB
open PySem PySem.Spec PyProof.Rows L2 LamX NdefX
theorem eqv_prs : ∀ ps : List Pr, PyData.eqv (dPrs ps) (dPrs ps) = true
  | [] => by simp [dPrs, PyData.eqv, PyData.eqvAll]
  | p :: r => by
    have ih := eqv_prs r
    simp only [dPrs, PyData.eqv] at ih ⊢
    simp only [List.map_cons, PyData.eqvAll]
    rw [dPr_eqv, decide_eq_true rfl, Bool.true_and]
    exact ih
theorem sh_prs {ps : List Pr} (h : ∀ p ∈ ps, NmP p) : SeqAt.shaped (dPrs ps) = true := by
  have h1 := dPrs_depth ps
  show (PyData.canLay0 (.list (ps.map dPr)) && decide (PyData.depth (.list (ps.map dPr)) ≤ 64)) = true
  rw [Bool.and_eq_true]
  refine ⟨by simp only [PyData.canLay0]; exact dPrs_lay h, decide_eq_true ?_⟩
  simp only [PyData.depth]
  omega
theorem st_nePr {K : PySem.W.Frag} {H : Hp} {Q : VK} {a b : Addr} {rs rs' : List V} {ps : List Pr} (h : ∀ p ∈ ps, NmP p) (h1 : H a = some (.lst rs)) (h2 : Prs H rs ps) (h3 : H b = some (.lst rs')) (h4 : Prs H rs' ps) (q : Q (.bl false) H) : rNeD K (.ref a) (.ref b) H Q :=
  ⟨dPrs ps, dPrs ps, .lst (sqL_of h1) h2.dp, .lst (sqL_of h3) h4.dp, sh_prs h, sh_prs h, by rw [eqv_prs]; exact q⟩
end TB
/-! A layer without heaps: what a piece of a def does, told of plain data. -/
namespace L3
open PySem PySem.Spec PyProof.Rows L2 TB LamX
/-- a thing that is told by a relation of its own, which growing heaps keep -/
structure Opq where
  R : Hp → V → Prop
  mono : ∀ {F F' : Hp} {v : V}, Same F F' → R F v → R F' v
/-- plain data -/
inductive D where
  | non | bl (b : Bool) | int (i : Int) | str (z : Str) | ty (n : String)
  | lst (ds : List D) | tup (ds : List D) | ins (C : Addr) (ns : List Str) (ds : List D) | dic (ks : List Key) (ds : List D) | op (p : Opq)
section
variable (K : PySem.W.Frag) (F : Hp)
mutual
/-- v is this data in F -/
def Rp : D → V → Prop
  | .non, v => v = .non
  | .bl b, v => v = .bl b
  | .int i, v => v = .int i
  | .str z, v => v = .str z
  | .ty n, v => v = .ty n
  | .lst ds, v => ∃ a vs, v = .ref a ∧ F a = some (.lst vs) ∧ RpL ds vs
  | .tup ds, v => ∃ a vs, v = .ref a ∧ SqT K F a vs ∧ RpL ds vs
  | .ins C ns ds, v => ∃ a dx vs, v = .ref a ∧ F a = some (.ins C dx (ns.zip vs)) ∧ F dx = some (.own a) ∧ RpL ds vs
  | .dic ks ds, v => ∃ a vs, v = .ref a ∧ F a = some (.dK (ks.zip vs)) ∧ RpL ds vs
  | .op p, v => p.R F v
def RpL : List D → List V → Prop
  | [], vs => vs = []
  | d :: ds, vs => ∃ v r, vs = v :: r ∧ Rp d v ∧ RpL ds r
end
end
theorem Same.refl (F : Hp) : Same F F := fun _ _ h => h
theorem tr {F F1 F2 : Hp} (a : Same F F1) (b : Same F1 F2) : Same F F2 := fun _ _ h => b _ _ (a _ _ h)
section
variable {K : PySem.W.Frag} {F F' : Hp}
theorem sqL_mono {a : Addr} {vs : List V} (s : Same F F') (h : SqL K F a vs) : SqL K F' a vs := by
  rcases h with (h | ⟨o, h⟩) | h
  · exact Or.inl (Or.inl (s _ _ h))
  · exact Or.inl (Or.inr ⟨o, s _ _ h⟩)
  · exact Or.inr h
theorem sqT_mono {a : Addr} {vs : List V} (s : Same F F') (h : SqT K F a vs) : SqT K F' a vs := by
  rcases h with (h | ⟨o, h⟩) | h
  · exact Or.inl (Or.inl (s _ _ h))
  · exact Or.inl (Or.inr ⟨o, s _ _ h⟩)
  · exact Or.inr h
mutual
theorem Rp.mono (s : Same F F') : ∀ {d : D} {v : V}, Rp K F d v → Rp K F' d v
  | .non, v, h => h
  | .bl _, v, h => h
  | .int _, v, h => h
  | .str _, v, h => h
  | .ty _, v, h => h
  | .lst ds, v, h => by
    obtain ⟨a, vs, e, q, r⟩ := h
    exact ⟨a, vs, e, s _ _ q, RpL.mono s r⟩
  | .tup ds, v, h => by
    obtain ⟨a, vs, e, q, r⟩ := h
    exact ⟨a, vs, e, sqT_mono s q, RpL.mono s r⟩
  | .ins C ns ds, v, h => by
    obtain ⟨a, dx, vs, e, q, q2, r⟩ := h
    exact ⟨a, dx, vs, e, s _ _ q, s _ _ q2, RpL.mono s r⟩
  | .dic ks ds, v, h => by
    obtain ⟨a, vs, e, q, r⟩ := h
    exact ⟨a, vs, e, s _ _ q, RpL.mono s r⟩
  | .op p, v, h => p.mono s h
theorem RpL.mono (s : Same F F') : ∀ {ds : List D} {vs : List V}, RpL K F ds vs → RpL K F' ds vs
  | [], vs, h => h
  | d :: ds, vs, h => by
    obtain ⟨v, r, e, q, t⟩ := h
    exact ⟨v, r, e, Rp.mono s q, RpL.mono s t⟩
end
theorem RpL.len : ∀ {ds : List D} {vs : List V}, RpL K F ds vs → vs.length = ds.length
  | [], vs, h => by
    have e : vs = [] := h
    rw [e]
    rfl
  | d :: ds, vs, h => by
    obtain ⟨v, r, rfl, q, t⟩ := h
    rw [List.length_cons, List.length_cons, RpL.len t]
theorem RpL.nil : RpL K F [] [] := rfl
theorem RpL.cons {d : D} {ds : List D} {v : V} {vs : List V} (h : Rp K F d v) (t : RpL K F ds vs) : RpL K F (d :: ds) (v :: vs) := ⟨v, vs, rfl, h, t⟩
theorem RpL.app : ∀ {ds es : List D} {vs ws : List V}, RpL K F ds vs → RpL K F es ws → RpL K F (ds ++ es) (vs ++ ws)
  | [], es, vs, ws, h, k => by
    have e : vs = [] := h
    rw [e]
    exact k
  | d :: ds, es, vs, ws, h, k => by
    obtain ⟨v, r, rfl, q, t⟩ := h
    exact ⟨v, r ++ ws, rfl, q, RpL.app t k⟩
theorem RpL.get : ∀ {ds : List D} {vs : List V} {i : Nat} {v : V}, RpL K F ds vs → vs[i]? = some v → ∃ d, ds[i]? = some d ∧ Rp K F d v
  | [], vs, i, v, h, e => by
    have z : vs = [] := h
    rw [z] at e
    simp at e
  | d :: ds, vs, 0, v, h, e => by
    obtain ⟨w, r, rfl, q, t⟩ := h
    obtain rfl : w = v := by simpa using e
    exact ⟨d, rfl, q⟩
  | d :: ds, vs, i + 1, v, h, e => by
    obtain ⟨w, r, rfl, q, t⟩ := h
    exact RpL.get (i := i) t (by simpa using e)
theorem RpL.get' : ∀ {ds : List D} {vs : List V} {i : Nat} {d : D}, RpL K F ds vs → ds[i]? = some d → ∃ v, vs[i]? = some v ∧ Rp K F d v
  | [], vs, i, d, h, e => by simp at e
  | d :: ds, vs, 0, d', h, e => by
    obtain ⟨w, r, rfl, q, t⟩ := h
    obtain rfl : d = d' := by simpa using e
    exact ⟨w, rfl, q⟩
  | d :: ds, vs, i + 1, d', h, e => by
    obtain ⟨w, r, rfl, q, t⟩ := h
    exact RpL.get' (i := i) t (by simpa using e)
theorem RpL.take : ∀ {ds : List D} {vs : List V} (n : Nat), RpL K F ds vs → RpL K F (ds.take n) (vs.take n)
  | _, _, 0, _ => rfl
  | [], vs, n + 1, h => by
    have z : vs = [] := h
    rw [z]
    rfl
  | d :: ds, vs, n + 1, h => by
    obtain ⟨w, r, rfl, q, t⟩ := h
    exact ⟨w, r.take n, rfl, q, RpL.take n t⟩
theorem RpL.drop : ∀ {ds : List D} {vs : List V} (n : Nat), RpL K F ds vs → RpL K F (ds.drop n) (vs.drop n)
  | _, _, 0, h => h
  | [], vs, n + 1, h => by
    have z : vs = [] := h
    rw [z]
    rfl
  | d :: ds, vs, n + 1, h => by
    obtain ⟨w, r, rfl, q, t⟩ := h
    exact RpL.drop n t
theorem RpL.set : ∀ {ds : List D} {vs : List V} {d : D} {v : V} (n : Nat), RpL K F ds vs → Rp K F d v → RpL K F (ds.set n d) (vs.set n v)
  | [], vs, d, v, n, h, k => by
    have z : vs = [] := h
    rw [z]
    rfl
  | d :: ds, vs, d', v, 0, h, k => by
    obtain ⟨w, r, rfl, q, t⟩ := h
    exact ⟨v, r, rfl, k, t⟩
  | d :: ds, vs, d', v, n + 1, h, k => by
    obtain ⟨w, r, rfl, q, t⟩ := h
    exact ⟨w, r.set n v, rfl, q, RpL.set n t k⟩
theorem RpL.erase : ∀ {ds : List D} {vs : List V} (n : Nat), RpL K F ds vs → RpL K F (ds.eraseIdx n) (vs.eraseIdx n)
  | [], vs, n, h => by
    have z : vs = [] := h
    rw [z]
    rfl
  | d :: ds, vs, 0, h => by
    obtain ⟨w, r, rfl, q, t⟩ := h
    exact t
  | d :: ds, vs, n + 1, h => by
    obtain ⟨w, r, rfl, q, t⟩ := h
    exact ⟨w, r.eraseIdx n, rfl, q, RpL.erase n t⟩
theorem RpL.map {α : Type} {f : α → D} {g : α → V} (h : ∀ x, Rp K F (f x) (g x)) : ∀ l : List α, RpL K F (l.map f) (l.map g)
  | [] => rfl
  | x :: l => ⟨g x, l.map g, rfl, h x, RpL.map h l⟩
/-- flat items are the same everywhere -/
theorem RpL.maps {α : Type} {f : α → D} {g : α → V} (h : ∀ F x v, Rp K F (f x) v → v = g x) : ∀ {l : List α} {vs : List V}, RpL K F (l.map f) vs → vs = l.map g
  | [], vs, e => e
  | x :: l, vs, e => by
    obtain ⟨v, r, rfl, q, t⟩ := e
    rw [h F x v q, RpL.maps h t]
    rfl
theorem RpL.strs {l : List Str} {vs : List V} (h : RpL K F (l.map D.str) vs) : vs = l.map V.str := RpL.maps (f := D.str) (g := V.str) (fun _ _ _ e => e) h
theorem RpL.ints {l : List Int} {vs : List V} (h : RpL K F (l.map D.int) vs) : vs = l.map V.int := RpL.maps (f := D.int) (g := V.int) (fun _ _ _ e => e) h
theorem RpL.bls {l : List Bool} {vs : List V} (h : RpL K F (l.map D.bl) vs) : vs = l.map V.bl := RpL.maps (f := D.bl) (g := V.bl) (fun _ _ _ e => e) h
end
/-- no heap is asked about d -/
def D.flat : D → Bool
  | .non => true
  | .bl _ => true
  | .int _ => true
  | .str _ => true
  | .ty _ => true
  | _ => false
theorem Rp.flat {K : PySem.W.Frag} {F G : Hp} {d : D} {v : V} (f : d.flat = true) (h : Rp K F d v) : Rp K G d v := by
  cases d <;> first | exact h | exact nomatch f
theorem RpL.flat {K : PySem.W.Frag} {F G : Hp} : ∀ {ds : List D} {vs : List V}, (∀ d ∈ ds, d.flat = true) → RpL K F ds vs → RpL K G ds vs
  | [], vs, _, h => h
  | d :: ds, vs, f, h => by
    obtain ⟨v, r, rfl, q, t⟩ := h
    exact ⟨v, r, rfl, Rp.flat (f d List.mem_cons_self) q, RpL.flat (fun e he => f e (List.mem_cons_of_mem _ he)) t⟩

/-! ### states -/
/-- what is known of a slot: nothing; data that stays; an own list that may be changed (fr: made in this call) -/
inductive PV where
  | un | val (d : D) | own (fr : Bool) (ds : List D)
abbrev PSt := List PV
/-- where one stands: fixed for a call; N: new since the call; F0, H0: what stood as it began (or another moment), B0: what may be changed of that -/
structure Sx where
  K : PySem.W.Frag
  tb : List (Addr × Str)
structure Ct where
  X : Sx
  N : Addr → Prop
  I0 : List Addr
  F0 : Hp
  H0 : Hp
  B0 : List Addr
abbrev Ct.K (c : Ct) : PySem.W.Frag := c.X.K
abbrev Ct.tb (c : Ct) : List (Addr × Str) := c.X.tb
/-- a thing that never changes -/
def Imm : HO → Prop
  | .tup _ => True
  | .frz _ _ => True
  | _ => False
/-- a list made in this call, or one handed in to be changed -/
def FrOk (c : Ct) (fr : Bool) (p : Addr) : Prop := (fr = true → c.N p) ∧ (fr = false → p ∈ c.I0)
/-- no table -/
def NoTb (c : Ct) (b : Addr) : Prop := ∀ x ∈ c.tb, b ≠ x.1
def Slot (c : Ct) (F H : Hp) (ov : Option (Option V)) : PV → Prop
  | .un => True
  | .val d => ∃ v, ov = some (some v) ∧ Rp c.K F d v
  | .own fr ds => ∃ p vs, ov = some (some (.ref p)) ∧ F p = none ∧ H p = some (.lst vs) ∧ RpL c.K F ds vs ∧ FrOk c fr p ∧ (p ∈ c.B0 ∨ c.H0 p = none)
structure Rel (c : Ct) (F H : Hp) (σ : L2.St) (ρ : PSt) : Prop where
  len : σ.length = ρ.length
  sub : Same F H
  slot : ∀ (i : Nat) (pv : PV), ρ[i]? = some pv → Slot c F H σ[i]? pv
  sep : ∀ (i j : Nat) (f1 : Bool) (o1 : List D) (f2 : Bool) (o2 : List D) (p : Addr), ρ[i]? = some (.own f1 o1) → ρ[j]? = some (.own f2 o2) → σ[i]? = some (some (.ref p)) → σ[j]? = some (some (.ref p)) → i = j
  nt : NoT H
  tab : ∀ x ∈ c.tb, TabS H x.1 x.2
  tabF : ∀ x ∈ c.tb, F x.1 = none
  fr : Same c.F0 F
  kp : ∀ b o, c.H0 b = some o → b ∉ c.B0 → NoTb c b → H b = some o
  dom : ∀ b, H b = none → c.H0 b = none
  nw : ∀ b o, F b = some o → c.F0 b = some o ∨ c.H0 b = none ∨ (b ∈ c.B0 ∧ c.N b) ∨ Imm o
  new : ∀ p, H p = none → c.N p
section
variable {c : Ct} {F H F' H' : Hp} {σ : L2.St} {ρ : PSt}
theorem Slot.mono {ov : Option (Option V)} (s : Same F F') : ∀ {pv : PV}, (∀ fr ds p, pv = .own fr ds → ov = some (some (.ref p)) → F' p = none ∧ ∀ vs, H p = some (.lst vs) → H' p = some (.lst vs)) → Slot c F H ov pv → Slot c F' H' ov pv
  | .un, _, h => trivial
  | .val d, _, h => by
    obtain ⟨v, e, r⟩ := h
    exact ⟨v, e, r.mono s⟩
  | .own fr ds, k, h => by
    obtain ⟨p, vs, e, f, l, r, n, m⟩ := h
    obtain ⟨k1, k2⟩ := k fr ds p rfl e
    exact ⟨p, vs, e, k1, k2 vs l, r.mono s, n, m⟩
theorem Rel.ownAt (R : Rel c F H σ ρ) {i : Nat} {f : Bool} {ds : List D} {p : Addr} (h : ρ[i]? = some (.own f ds)) (e : σ[i]? = some (some (.ref p))) : F p = none ∧ ∃ vs, H p = some (.lst vs) := by
  obtain ⟨q, vs, e2, f, l, _⟩ := R.slot i _ h
  rw [e] at e2
  obtain rfl : p = q := by injection e2 with e2; injection e2 with e2; injection e2
  exact ⟨f, vs, l⟩
theorem Rel.fnone (R : Rel c F H σ ρ) {p : Addr} (h : H p = none) : F p = none := by
  cases e : F p with
  | none => rfl
  | some o => rw [R.sub _ _ e] at h; exact nomatch h
theorem Rel.notab (R : Rel c F H σ ρ) {p : Addr} {o : HO} (h : H p = some o) (n : ∀ ps, o ≠ .tbl ps) : NoTb c p := by
  intro x hx e
  obtain ⟨tb, e2, _⟩ := R.tab x hx
  rw [← e, h] at e2
  exact n _ (Option.some.inj e2)
/-- a new thing that stays -/
theorem Rel.alloc (R : Rel c F H σ ρ) {p : Addr} {o : HO} (np : H p = none) (no : noT o) : Rel c (upd F p o) (upd H p o) σ ρ := by
  have nF := R.fnone np
  have sF : Same F (upd F p o) := fun _ _ e => old_upd nF e
  have sH : Same H (upd H p o) := fun _ _ e => old_upd np e
  refine ⟨R.len, fun b u e => ?_, fun i pv h => (R.slot i pv h).mono sF fun fr ds q e1 e2 => ?_, R.sep, R.nt.upd no, fun x hx => (R.tab x hx).ext sH, fun x hx => ?_, fun _ _ e => sF _ _ (R.fr _ _ e), fun b u e n m => sH _ _ (R.kp b u e n m), fun b e => R.dom b (nil_upd e).2, fun b u e => ?_, fun q e => R.new q (nil_upd e).2⟩
  · by_cases q : b = p
    · subst q
      rw [upd_same] at e ⊢
      exact e
    · rw [upd_ne q] at e ⊢
      exact R.sub _ _ e
  · subst e1
    obtain ⟨f, vs, l⟩ := R.ownAt h e2
    have ne : q ≠ p := ne_of_none l np
    exact ⟨by rw [upd_ne ne]; exact f, fun ws lw => old_upd np lw⟩
  · obtain ⟨tb, e2, _⟩ := R.tab x hx
    rw [upd_ne (ne_of_none e2 np)]
    exact R.tabF x hx
  · by_cases q : b = p
    · subst q
      exact Or.inr (Or.inl (R.dom _ np))
    · rw [upd_ne q] at e
      exact R.nw b u e
/-- a new list that nobody has yet -/
theorem Rel.allocH (R : Rel c F H σ ρ) {p : Addr} {o : HO} (np : H p = none) (no : noT o) : Rel c F (upd H p o) σ ρ := by
  have sH : Same H (upd H p o) := fun _ _ e => old_upd np e
  refine ⟨R.len, fun b u e => sH _ _ (R.sub _ _ e), fun i pv h => (R.slot i pv h).mono (Same.refl F) fun fr ds q e1 e2 => ?_, R.sep, R.nt.upd no, fun x hx => (R.tab x hx).ext sH, R.tabF, R.fr, fun b u e n m => sH _ _ (R.kp b u e n m), fun b e => R.dom b (nil_upd e).2, R.nw, fun q e => R.new q (nil_upd e).2⟩
  subst e1
  exact ⟨(R.ownAt h e2).1, fun ws lw => old_upd np lw⟩
/-- nobody's list changed -/
theorem Rel.mutH (R : Rel c F H σ ρ) {p : Addr} {xs ys : List V} (hp : H p = some (.lst xs)) (hF : F p = none) (hb : p ∈ c.B0 ∨ c.H0 p = none) (hn : ∀ (i : Nat) (f : Bool) (ds : List D), ρ[i]? = some (.own f ds) → σ[i]? ≠ some (some (.ref p))) : Rel c F (upd H p (.lst ys)) σ ρ := by
  have nF : ∀ b o, F b = some o → b ≠ p := fun b o e z => by rw [z, hF] at e; exact nomatch e
  refine ⟨R.len, fun b u e => oth_upd (nF b u e) (R.sub _ _ e), fun i pv h => (R.slot i pv h).mono (Same.refl F) fun fr ds q e1 e2 => ?_, R.sep, R.nt.lst, fun x hx => TB.TabS.mut (R.tab x hx) hp, R.tabF, R.fr, fun b u e n m => ?_, fun b e => R.dom b (nil_upd e).2, R.nw, fun q e => R.new q (nil_upd e).2⟩
  · subst e1
    have ne : q ≠ p := fun z => hn i fr ds h (by rw [← z]; exact e2)
    exact ⟨(R.ownAt h e2).1, fun ws lw => oth_upd ne lw⟩
  · refine oth_upd (fun z => ?_) (R.kp b u e n m)
    rw [z] at e n
    rcases hb with hb | hb
    · exact n hb
    · rw [hb] at e
      exact nomatch e
/-- a slot that is set to data -/
theorem Rel.setVal (R : Rel c F H σ ρ) {i : Nat} {d : D} {v : V} (h : Rp c.K F d v) : Rel c F H (σ.set i (some v)) (ρ.set i (.val d)) := by
  refine ⟨by rw [List.length_set, List.length_set]; exact R.len, R.sub, fun j pv hj => ?_, fun j k f1 o1 f2 o2 p h1 h2 e1 e2 => ?_, R.nt, R.tab, R.tabF, R.fr, R.kp, R.dom, R.nw, R.new⟩
  · by_cases q : i = j
    · subst q
      have hl : i < ρ.length := by
        have := (List.getElem?_eq_some_iff.mp hj).1
        rw [List.length_set] at this
        exact this
      rw [List.getElem?_set_self hl] at hj
      obtain rfl := Option.some.inj hj
      exact ⟨v, by rw [List.getElem?_set_self (by rw [R.len]; exact hl)], h⟩
    · rw [List.getElem?_set_ne q] at hj ⊢
      exact R.slot j pv hj
  · by_cases q1 : i = j
    · subst q1
      have hl := (List.getElem?_eq_some_iff.mp h1).1
      rw [List.length_set] at hl
      rw [List.getElem?_set_self hl] at h1
      exact nomatch h1
    · by_cases q2 : i = k
      · subst q2
        have hl := (List.getElem?_eq_some_iff.mp h2).1
        rw [List.length_set] at hl
        rw [List.getElem?_set_self hl] at h2
        exact nomatch h2
      · rw [List.getElem?_set_ne q1] at h1 e1
        rw [List.getElem?_set_ne q2] at h2 e2
        exact R.sep j k f1 o1 f2 o2 p h1 h2 e1 e2
/-- a slot of which no more is known -/
theorem Rel.forget (R : Rel c F H σ ρ) (i : Nat) : Rel c F H σ (ρ.set i .un) := by
  refine ⟨by rw [List.length_set]; exact R.len, R.sub, fun j pv hj => ?_, fun j k f1 o1 f2 o2 p h1 h2 e1 e2 => ?_, R.nt, R.tab, R.tabF, R.fr, R.kp, R.dom, R.nw, R.new⟩
  · by_cases q : i = j
    · subst q
      have hl := (List.getElem?_eq_some_iff.mp hj).1
      rw [List.length_set] at hl
      rw [List.getElem?_set_self hl] at hj
      obtain rfl := Option.some.inj hj
      exact trivial
    · rw [List.getElem?_set_ne q] at hj
      exact R.slot j pv hj
  · have g : ∀ (j : Nat) (f : Bool) (o : List D), (ρ.set i PV.un)[j]? = some (PV.own f o) → ρ[j]? = some (PV.own f o) := by
      intro j f o hj
      by_cases q : i = j
      · subst q
        have hl := (List.getElem?_eq_some_iff.mp hj).1
        rw [List.length_set] at hl
        rw [List.getElem?_set_self hl] at hj
        exact nomatch hj
      · rw [List.getElem?_set_ne q] at hj
        exact hj
    exact R.sep j k f1 o1 f2 o2 p (g _ _ _ h1) (g _ _ _ h2) e1 e2
/-- a slot that is set to nobody's new list -/
theorem Rel.setOwn (R : Rel c F H σ ρ) {i : Nat} {p : Addr} {vs : List V} {ds : List D} (hp : H p = some (.lst vs)) (hF : F p = none) (hr : RpL c.K F ds vs) (hN : c.N p) (hb : p ∈ c.B0 ∨ c.H0 p = none) (hn : ∀ (i : Nat) (f : Bool) (ds : List D), ρ[i]? = some (.own f ds) → σ[i]? ≠ some (some (.ref p))) :
    Rel c F H (σ.set i (some (.ref p))) (ρ.set i (.own true ds)) := by
  refine ⟨by rw [List.length_set, List.length_set]; exact R.len, R.sub, fun j pv hj => ?_, fun j k f1 o1 f2 o2 q h1 h2 e1 e2 => ?_, R.nt, R.tab, R.tabF, R.fr, R.kp, R.dom, R.nw, R.new⟩
  · by_cases q : i = j
    · subst q
      have hl := (List.getElem?_eq_some_iff.mp hj).1
      rw [List.length_set] at hl
      rw [List.getElem?_set_self hl] at hj
      obtain rfl := Option.some.inj hj
      exact ⟨p, vs, by rw [List.getElem?_set_self (by rw [R.len]; exact hl)], hF, hp, hr, ⟨fun _ => hN, fun z => nomatch z⟩, hb⟩
    · rw [List.getElem?_set_ne q] at hj ⊢
      exact R.slot j pv hj
  · have hl1 := (List.getElem?_eq_some_iff.mp e1).1
    have hl2 := (List.getElem?_eq_some_iff.mp e2).1
    rw [List.length_set] at hl1 hl2
    by_cases q1 : i = j
    · subst q1
      by_cases q2 : i = k
      · exact q2
      · rw [List.getElem?_set_self hl1] at e1
        rw [List.getElem?_set_ne q2] at h2 e2
        obtain rfl : p = q := by injection e1 with e1; injection e1 with e1; injection e1
        exact absurd e2 (hn k f2 o2 h2)
    · rw [List.getElem?_set_ne q1] at h1 e1
      by_cases q2 : i = k
      · subst q2
        rw [List.getElem?_set_self hl2] at e2
        obtain rfl : p = q := by injection e2 with e2; injection e2 with e2; injection e2
        exact absurd e1 (hn j f1 o1 h1)
      · rw [List.getElem?_set_ne q2] at h2 e2
        exact R.sep j k f1 o1 f2 o2 q h1 h2 e1 e2
theorem Rel.noOwn (R : Rel c F H σ ρ) {p : Addr} (h : H p = none) : ∀ (i : Nat) (f : Bool) (ds : List D), ρ[i]? = some (.own f ds) → σ[i]? ≠ some (some (.ref p)) := by
  intro i f ds hi e
  obtain ⟨_, vs, l⟩ := R.ownAt hi e
  rw [h] at l
  exact nomatch l
theorem Rel.newB (R : Rel c F H σ ρ) {p : Addr} (h : H p = none) : p ∈ c.B0 ∨ c.H0 p = none := Or.inr (R.dom p h)
/-- nobody's list is kept as it stands -/
theorem Rel.keepL (R : Rel c F H σ ρ) {p : Addr} {vs : List V} (hp : H p = some (.lst vs)) (hF : F p = none) (hn : ∀ (i : Nat) (f : Bool) (ds : List D), ρ[i]? = some (.own f ds) → σ[i]? ≠ some (some (.ref p))) (hb : c.H0 p = none ∨ (p ∈ c.B0 ∧ c.N p)) : Rel c (upd F p (.lst vs)) H σ ρ := by
  have sF : Same F (upd F p (.lst vs)) := fun _ _ e => old_upd hF e
  refine ⟨R.len, fun b u e => ?_, fun i pv h => (R.slot i pv h).mono sF fun fr ds q e1 e2 => ?_, R.sep, R.nt, R.tab, fun x hx => ?_, fun _ _ e => sF _ _ (R.fr _ _ e), R.kp, R.dom, fun b u e => ?_, R.new⟩
  · by_cases q : b = p
    · subst q
      rw [upd_same] at e
      rw [hp]
      exact e
    · rw [upd_ne q] at e
      exact R.sub _ _ e
  · subst e1
    have ne : q ≠ p := fun z => hn i fr ds h (by rw [← z]; exact e2)
    exact ⟨by rw [upd_ne ne]; exact (R.ownAt h e2).1, fun _ l => l⟩
  · obtain ⟨tb, e2, _⟩ := R.tab x hx
    rw [upd_ne (ne_of e2 hp (fun z => nomatch z))]
    exact R.tabF x hx
  · by_cases q : b = p
    · subst q
      exact Or.inr (hb.elim Or.inl (fun z => Or.inr (Or.inl z)))
    · rw [upd_ne q] at e
      exact R.nw b u e
/-- an own list changed -/
theorem Rel.mutOwn (R : Rel c F H σ ρ) {i : Nat} {f : Bool} {ds es : List D} {p : Addr} {ys : List V} (h : ρ[i]? = some (.own f ds)) (e : σ[i]? = some (some (.ref p))) (hr : RpL c.K F es ys) : Rel c F (upd H p (.lst ys)) σ (ρ.set i (.own f es)) := by
  obtain ⟨q, vs, e2, hF, hp, hr0, hN, hb⟩ := R.slot i _ h
  rw [e] at e2
  obtain rfl : p = q := by injection e2 with e2; injection e2 with e2; injection e2
  have R2 := (R.forget i).mutH (ys := ys) hp hF hb (fun j f2 d2 h2 e2 => by
    by_cases q : i = j
    · subst q
      have hl := (List.getElem?_eq_some_iff.mp h2).1
      rw [List.length_set] at hl
      rw [List.getElem?_set_self hl] at h2
      exact nomatch h2
    · rw [List.getElem?_set_ne q] at h2
      exact q (R.sep i j _ _ _ _ p h h2 e e2))
  have hl := (List.getElem?_eq_some_iff.mp h).1
  refine ⟨by rw [List.length_set]; exact R.len, R2.sub, fun j pv hj => ?_, fun j k f1 o1 f2 o2 q h1 h2 e1 e2 => ?_, R2.nt, R2.tab, R2.tabF, R2.fr, R2.kp, R2.dom, R2.nw, R2.new⟩
  · by_cases q : i = j
    · subst q
      rw [List.getElem?_set_self hl] at hj
      obtain rfl := Option.some.inj hj
      exact ⟨p, ys, e, hF, upd_same, hr, hN, hb⟩
    · rw [List.getElem?_set_ne q] at hj
      exact R2.slot j pv (by rw [List.getElem?_set_ne q]; exact hj)
  · have g : ∀ (j : Nat) (f1 : Bool) (o : List D), (ρ.set i (PV.own f es))[j]? = some (PV.own f1 o) → ∃ f2 o2, ρ[j]? = some (PV.own f2 o2) := by
      intro j f1 o hj
      by_cases q : i = j
      · subst q
        exact ⟨_, _, h⟩
      · rw [List.getElem?_set_ne q] at hj
        exact ⟨_, _, hj⟩
    obtain ⟨_, _, g1⟩ := g _ _ _ h1
    obtain ⟨_, _, g2⟩ := g _ _ _ h2
    exact R.sep j k _ _ _ _ q g1 g2 e1 e2
/-- an own list that stays as it is from now on -/
theorem Rel.freeze (R : Rel c F H σ ρ) {i : Nat} {ds : List D} {p : Addr} (h : ρ[i]? = some (.own true ds)) (e : σ[i]? = some (some (.ref p))) :
    ∃ vs, Rel c (upd F p (.lst vs)) H σ (ρ.set i (.val (.lst ds))) ∧ Same F (upd F p (.lst vs)) ∧ Rp c.K (upd F p (.lst vs)) (.lst ds) (.ref p) := by
  obtain ⟨q, vs, e2, hF, hp, hr0, hN, hb⟩ := R.slot i _ h
  rw [e] at e2
  obtain rfl : p = q := by injection e2 with e2; injection e2 with e2; injection e2
  have sF : Same F (upd F p (.lst vs)) := fun _ _ e => old_upd hF e
  have R2 := (R.forget i).keepL hp hF (fun j f2 d2 h2 e2 => by
    by_cases q : i = j
    · subst q
      have hl := (List.getElem?_eq_some_iff.mp h2).1
      rw [List.length_set] at hl
      rw [List.getElem?_set_self hl] at h2
      exact nomatch h2
    · rw [List.getElem?_set_ne q] at h2
      exact q (R.sep i j _ _ _ _ p h h2 e e2)) (hb.elim (fun z => Or.inr ⟨z, hN.1 rfl⟩) Or.inl)
  have rp : Rp c.K (upd F p (.lst vs)) (.lst ds) (.ref p) := ⟨p, vs, rfl, upd_same, hr0.mono sF⟩
  have R3 := R2.setVal (i := i) rp
  have es : σ.set i (some (.ref p)) = σ := by
    obtain ⟨hl, e3⟩ := List.getElem?_eq_some_iff.mp e
    rw [← e3]
    exact List.set_getElem_self hl
  rw [es, List.set_set] at R3
  exact ⟨vs, R3, sF, rp⟩
def ownB (σ : L2.St) (ρ : PSt) : List Addr := (List.range ρ.length).filterMap fun (i : Nat) => match (ρ[i]? : Option PV), (σ[i]? : Option (Option V)) with
  | some (PV.own _ _), some (some (V.ref p)) => some p
  | _, _ => none
theorem mem_ownB {p : Addr} : p ∈ ownB σ ρ ↔ ∃ (i : Nat) (f : Bool) (ds : List D), ρ[i]? = some (.own f ds) ∧ σ[i]? = some (some (.ref p)) := by
  unfold ownB
  rw [List.mem_filterMap]
  constructor
  · rintro ⟨i, _, e⟩
    revert e
    match h1 : ρ[i]?, h2 : σ[i]? with
    | some (.own f ds), some (some (.ref q)) =>
      intro e
      obtain rfl := Option.some.inj e
      exact ⟨i, f, ds, h1, h2⟩
    | none, _ => intro e; exact nomatch e
    | some .un, _ => intro e; exact nomatch e
    | some (.val _), _ => intro e; exact nomatch e
    | some (.own f ds), none => intro e; exact nomatch e
    | some (.own f ds), some none => intro e; exact nomatch e
    | some (.own f ds), some (some .non) => intro e; exact nomatch e
    | some (.own f ds), some (some (.bl _)) => intro e; exact nomatch e
    | some (.own f ds), some (some (.int _)) => intro e; exact nomatch e
    | some (.own f ds), some (some (.str _)) => intro e; exact nomatch e
    | some (.own f ds), some (some (.byt _)) => intro e; exact nomatch e
    | some (.own f ds), some (some (.flt _)) => intro e; exact nomatch e
    | some (.own f ds), some (some (.ty _)) => intro e; exact nomatch e
  · rintro ⟨i, f, ds, h1, h2⟩
    refine ⟨i, List.mem_range.mpr (List.getElem?_eq_some_iff.mp h1).1, ?_⟩
    rw [h1, h2]
/-- the same place, told from this moment on -/
def Ct.at (c : Ct) (F H : Hp) (B : List Addr) : Ct := ⟨c.X, c.N, c.I0, F, H, B⟩
theorem Rel.here (R : Rel c F H σ ρ) : Rel (c.at F H (ownB σ ρ)) F H σ ρ := by
  refine ⟨R.len, R.sub, fun i pv h => ?_, R.sep, R.nt, R.tab, R.tabF, Same.refl F, fun b o e _ _ => e, fun b e => e, fun b o e => Or.inl e, R.new⟩
  have z := R.slot i pv h
  match pv, h, z with
  | .un, _, _ => exact trivial
  | .val d, _, z => exact z
  | .own f ds, h, ⟨p, vs, e, hF, hp, hr, hN, _⟩ => exact ⟨p, vs, e, hF, hp, hr, hN, Or.inl (mem_ownB.mpr ⟨i, f, ds, h, e⟩)⟩
theorem Rel.trans {σ' : L2.St} {ρ' : PSt} (R : Rel c F H σ ρ) (R' : Rel (c.at F H (ownB σ ρ)) F' H' σ' ρ') : Rel c F' H' σ' ρ' := by
  have hB : ∀ p, p ∈ ownB σ ρ → p ∈ c.B0 ∨ c.H0 p = none := by
    intro p hp
    obtain ⟨i, f, ds, h1, h2⟩ := mem_ownB.mp hp
    obtain ⟨q, vs, e2, _, _, _, _, hb⟩ := R.slot i _ h1
    rw [h2] at e2
    obtain rfl : p = q := by injection e2 with e2; injection e2 with e2; injection e2
    exact hb
  refine ⟨R'.len, R'.sub, fun i pv h => ?_, R'.sep, R'.nt, R'.tab, R'.tabF, fun _ _ e => R'.fr _ _ (R.fr _ _ e), fun b o e n m => ?_, fun b e => R.dom b (R'.dom b e), fun b o e => ?_, R'.new⟩
  · have z := R'.slot i pv h
    match pv, h, z with
    | .un, _, _ => exact trivial
    | .val d, _, z => exact z
    | .own f ds, h, ⟨p, vs, e, hF, hp, hr, hN, hb⟩ => exact ⟨p, vs, e, hF, hp, hr, hN, hb.elim (hB p) (fun z => Or.inr (R.dom p z))⟩
  · refine R'.kp b o (R.kp b o e n m) (fun z => ?_) m
    rcases hB b z with z2 | z2
    · exact n z2
    · rw [z2] at e
      exact nomatch e
  · rcases R'.nw b o e with z | z | ⟨z1, z2⟩ | z
    · exact R.nw b o z
    · exact Or.inr (Or.inl (R.dom b z))
    · rcases hB b z1 with z3 | z3
      · exact Or.inr (Or.inr (Or.inl ⟨z3, z2⟩))
      · exact Or.inr (Or.inl z3)
    · exact Or.inr (Or.inr (Or.inr z))
/-- a thing that stands by itself is kept -/
theorem Rel.keeps {σ' : L2.St} {ρ' : PSt} {B : List Addr} (R' : Rel (c.at F H B) F' H' σ' ρ') {b : Addr} {o : HO} (e : H b = some o) (n : b ∉ B) (t : NoTb c b) : H' b = some o := R'.kp b o e n t
/-- what a call leaves -/
def Step (X : Sx) (B : List Addr) (F H F' H' : Hp) : Prop := Rel ⟨X, fun p => H p = none, [], F, H, B⟩ F' H' [] []
theorem Step.own (s : Step c.X [] F H F' H') (R : Rel c F H σ ρ) : Rel c F' H' σ ρ := by
  have kp : ∀ b o, H b = some o → (∀ ps, o ≠ .tbl ps) → H' b = some o := fun b o e n => s.kp b o e (by simp) (R.notab e n)
  refine ⟨R.len, s.sub, fun i pv h => (R.slot i pv h).mono s.fr fun fr ds q e1 e2 => ?_, R.sep, s.nt, s.tab, s.tabF, fun _ _ e => s.fr _ _ (R.fr _ _ e), fun b o e n m => s.kp b o (R.kp b o e n m) (by simp) m, fun b e => R.dom b (s.dom b e), fun b o e => ?_, fun p e => R.new p (s.dom p e)⟩
  · subst e1
    obtain ⟨f, vs, l⟩ := R.ownAt h e2
    refine ⟨?_, fun ws lw => kp _ _ lw (fun ps => by simp)⟩
    cases e : F' q with
    | none => rfl
    | some o =>
      rcases s.nw q o e with z | z | ⟨z, _⟩ | z
      · have z2 : F q = some o := z
        rw [f] at z2
        exact nomatch z2
      · have z2 : H q = none := z
        rw [l] at z2
        exact nomatch z2
      · exact nomatch z
      · have z2 := s.sub _ _ e
        rw [kp _ _ l (fun ps => by simp)] at z2
        cases z2
        exact z.elim
  · rcases s.nw b o e with z | z | ⟨z, _⟩ | z
    · exact R.nw b o z
    · exact Or.inr (Or.inl (R.dom b z))
    · exact nomatch z
    · exact Or.inr (Or.inr (Or.inr z))
/-- the things of a call forgotten -/
theorem Step.back {G : Hp} (s : Step c.X [] G H F' H') (R : Rel c F H σ ρ) : Rel c F H' σ ρ := by
  have kp : ∀ b o, H b = some o → (∀ ps, o ≠ .tbl ps) → H' b = some o := fun b o e n => s.kp b o e (by simp) (R.notab e n)
  refine ⟨R.len, fun b o e => ?_, fun i pv h => (R.slot i pv h).mono (Same.refl F) fun fr ds q e1 e2 => ?_, R.sep, s.nt, s.tab, R.tabF, R.fr, fun b o e n m => s.kp b o (R.kp b o e n m) (by simp) m, fun b e => R.dom b (s.dom b e), R.nw, fun p e => R.new p (s.dom p e)⟩
  · refine s.kp b o (R.sub b o e) (by simp) (fun x hx z => ?_)
    rw [z, R.tabF x hx] at e
    exact nomatch e
  · subst e1
    exact ⟨(R.ownAt h e2).1, fun ws lw => kp _ _ lw (fun ps => by simp)⟩
end
end L3
/-! Plain readings, and that they carry the heap's readings. -/
namespace L3
open PySem PySem.Spec PyProof.Rows L2 TB LamX
/-- a value on the way: data, or the own list in a slot -/
inductive Rv where
  | val (d : D) | cell (i : Nat)
abbrev QE := PSt → (Rv → PSt → Prop) → Prop
abbrev QD := PSt → (D → PSt → Prop) → Prop
abbrev QN := PSt → (List D → PSt → Prop) → Prop
abbrev QT := PSt → (Bool → PSt → Prop) → Prop
abbrev QA := PSt → (List Rv → PSt → Prop) → Prop
abbrev QO := PSt → (Option Int → PSt → Prop) → Prop
abbrev QI := PSt → (List D → PSt → Prop) → Prop
abbrev QG := D → PSt → (PSt → Prop) → Prop
abbrev QGs := List D → PSt → (PSt → Prop) → Prop
inductive Rs where
  | val (d : D) | new (ds : List D)
structure PEnds where
  nx : PSt → Prop
  rt : Rs → PSt → Prop
  bk : PSt → Prop := fun _ => False
  ct : PSt → Prop := fun _ => False
abbrev QS := PEnds → PSt → Prop
def rdP : Option PV → Option D
  | some (.val d) => some d
  | some (.own _ ds) => some (.lst ds)
  | _ => none
def rdR (ρ : PSt) : Rv → Option D
  | .val d => some d
  | .cell i => rdP ρ[i]?
def cons2 : Option D → Option (List D) → Option (List D)
  | some d, some ds => some (d :: ds)
  | _, _ => none
def rdL (ρ : PSt) : List Rv → Option (List D)
  | [] => some []
  | r :: rs => cons2 (rdR ρ r) (rdL ρ rs)
/-- v is this data now -/
def Rn (K : PySem.W.Frag) (F H : Hp) : D → V → Prop
  | .lst ds, v => ∃ p vs, v = .ref p ∧ H p = some (.lst vs) ∧ RpL K F ds vs
  | d, v => Rp K F d v
def RnL (K : PySem.W.Frag) (F H : Hp) : List D → List V → Prop
  | [], vs => vs = []
  | d :: ds, vs => ∃ v r, vs = v :: r ∧ Rn K F H d v ∧ RnL K F H ds r
theorem Rn.of {K : PySem.W.Frag} {F H : Hp} (s : Same F H) {d : D} {v : V} (h : Rp K F d v) : Rn K F H d v := by
  cases d <;> first
    | exact h
    | (obtain ⟨a, vs, e, q, r⟩ := h
       exact ⟨a, vs, e, s _ _ q, r⟩)
def RV (c : Ct) (F : Hp) (σ : L2.St) : Rv → V → Prop
  | .val d, v => Rp c.K F d v
  | .cell i, v => σ[i]? = some (some v)
def RVL (c : Ct) (F : Hp) (σ : L2.St) : List Rv → List V → Prop
  | [], vs => vs = []
  | r :: rs, vs => ∃ v t, vs = v :: t ∧ RV c F σ r v ∧ RVL c F σ rs t
section
variable {c : Ct} {F F' H : Hp} {σ : L2.St} {ρ : PSt}
theorem RV.mono (s : Same F F') : ∀ {r : Rv} {v : V}, RV c F σ r v → RV c F' σ r v
  | .val d, v, h => Rp.mono s h
  | .cell i, v, h => h
theorem RVL.mono (s : Same F F') : ∀ {r : List Rv} {v : List V}, RVL c F σ r v → RVL c F' σ r v
  | [], v, h => h
  | r :: rs, v, h => by
    obtain ⟨w, t, rfl, q, k⟩ := h
    exact ⟨w, t, rfl, q.mono s, RVL.mono s k⟩
theorem RV.rn (R : Rel c F H σ ρ) : ∀ {r : Rv} {v : V} {d : D}, RV c F σ r v → rdR ρ r = some d → Rn c.K F H d v
  | .val d, v, d', h, e => by
    obtain rfl := Option.some.inj e
    exact Rn.of R.sub h
  | .cell i, v, d', h, e => by
    have h2 : σ[i]? = some (some v) := h
    have e : rdP ρ[i]? = some d' := e
    cases hi : ρ[i]? with
    | none => rw [hi] at e; exact nomatch e
    | some pv =>
      rw [hi] at e
      match pv, hi, e with
      | .un, _, e => exact nomatch e
      | .val d, hi, e =>
        obtain rfl : d = d' := Option.some.inj e
        obtain ⟨w, e2, r⟩ := R.slot i _ hi
        rw [h2] at e2
        obtain rfl : v = w := Option.some.inj (Option.some.inj e2)
        exact Rn.of R.sub r
      | .own f ds, hi, e =>
        obtain rfl : D.lst ds = d' := Option.some.inj e
        obtain ⟨p, vs, e2, hF, hp, hr, _⟩ := R.slot i _ hi
        rw [h2] at e2
        obtain rfl : v = .ref p := Option.some.inj (Option.some.inj e2)
        exact ⟨p, vs, rfl, hp, hr⟩
theorem RVL.rn (R : Rel c F H σ ρ) : ∀ {rs : List Rv} {vs : List V} {ds : List D}, RVL c F σ rs vs → rdL ρ rs = some ds → RnL c.K F H ds vs
  | [], vs, ds, h, e => by
    obtain rfl := Option.some.inj e
    exact h
  | r :: rs, vs, ds, h, e => by
    obtain ⟨v, t, rfl, q, k⟩ := h
    have e : cons2 (rdR ρ r) (rdL ρ rs) = some ds := e
    cases h1 : rdR ρ r with
    | none => rw [h1] at e; exact nomatch e
    | some d =>
      cases h2 : rdL ρ rs with
      | none => rw [h1, h2] at e; exact nomatch e
      | some ds' =>
        rw [h1, h2] at e
        obtain rfl : d :: ds' = ds := Option.some.inj e
        exact ⟨v, t, rfl, q.rn R h1, RVL.rn R k h2⟩
end
/-- nobody's own list is at p -/
def Nob (σ : L2.St) (ρ : PSt) (p : Addr) : Prop := ∀ (i : Nat) (f : Bool) (ds : List D), ρ[i]? = some (.own f ds) → σ[i]? ≠ some (some (.ref p))
/-- a new list of ds at p that nobody has -/
structure NewL (c : Ct) (F H : Hp) (σ : L2.St) (ρ : PSt) (p : Addr) (ds : List D) : Prop where
  l : ∃ vs, H p = some (.lst vs) ∧ RpL c.K F ds vs
  f : F p = none
  n : c.N p
  b : c.H0 p = none ∨ (p ∈ c.B0 ∧ c.N p)
  o : Nob σ ρ p
theorem NewL.b2 {c : Ct} {F H : Hp} {σ : L2.St} {ρ : PSt} {p : Addr} {ds : List D} (n : NewL c F H σ ρ p ds) : p ∈ c.B0 ∨ c.H0 p = none := n.b.elim Or.inr (fun z => Or.inl z.1)
theorem NewL.keep {c : Ct} {F H : Hp} {σ : L2.St} {ρ : PSt} {p : Addr} {ds : List D} (n : NewL c F H σ ρ p ds) (R : Rel c F H σ ρ) : ∃ vs, Rel c (upd F p (.lst vs)) H σ ρ ∧ Same F (upd F p (.lst vs)) ∧ Rp c.K (upd F p (.lst vs)) (.lst ds) (.ref p) := by
  obtain ⟨vs, hp, hr⟩ := n.l
  have sF : Same F (upd F p (.lst vs)) := fun _ _ e => old_upd n.f e
  exact ⟨vs, R.keepL hp n.f n.o n.b, sF, p, vs, rfl, upd_same, hr.mono sF⟩
theorem NewL.made {c : Ct} {F H : Hp} {σ : L2.St} {ρ : PSt} {p : Addr} {ds : List D} {vs : List V} (R : Rel c F H σ ρ) (np : H p = none) (hr : RpL c.K F ds vs) : Rel c F (upd H p (.lst vs)) σ ρ ∧ NewL c F (upd H p (.lst vs)) σ ρ p ds :=
  ⟨R.allocH np trivial, ⟨vs, upd_same, hr⟩, R.fnone np, R.new p np, Or.inl (R.dom p np), R.noOwn np⟩
/-- what is to follow is carried -/
def LiE (X : Sx) (te : TE) (pe : QE) : Prop := ∀ (c : Ct), c.X = X → ∀ (σ : L2.St) (F H : Hp) (ρ : PSt) (Q : VK) (Q3 : Rv → PSt → Prop), Rel c F H σ ρ →
  (∀ r ρ' v F' H', Rel c F' H' σ ρ' → Same F F' → RV c F' σ r v → Q3 r ρ' → Q v H') → pe ρ Q3 → te σ H Q
def LiD (X : Sx) (te : TE) (pd : QD) : Prop := ∀ (c : Ct), c.X = X → ∀ (σ : L2.St) (F H : Hp) (ρ : PSt) (Q : VK) (Q3 : D → PSt → Prop), Rel c F H σ ρ →
  (∀ d ρ' v F' H', Rel c F' H' σ ρ' → Same F F' → Rp c.K F' d v → Q3 d ρ' → Q v H') → pd ρ Q3 → te σ H Q
def LiN (X : Sx) (te : TE) (pn : QN) : Prop := ∀ (c : Ct), c.X = X → ∀ (σ : L2.St) (F H : Hp) (ρ : PSt) (Q : VK) (Q3 : List D → PSt → Prop), Rel c F H σ ρ →
  (∀ ds ρ' p F' H', Rel c F' H' σ ρ' → Same F F' → NewL c F' H' σ ρ' p ds → Q3 ds ρ' → Q (.ref p) H') → pn ρ Q3 → te σ H Q
def LiT (X : Sx) (tt : TT) (pt : QT) : Prop := ∀ (c : Ct), c.X = X → ∀ (σ : L2.St) (F H : Hp) (ρ : PSt) (Q : Bool → Hp → Prop) (Q3 : Bool → PSt → Prop), Rel c F H σ ρ →
  (∀ b ρ' F' H', Rel c F' H' σ ρ' → Same F F' → Q3 b ρ' → Q b H') → pt ρ Q3 → tt σ H Q
def LiA (X : Sx) (ta : TA) (pa : QA) : Prop := ∀ (c : Ct), c.X = X → ∀ (σ : L2.St) (F H : Hp) (ρ : PSt) (Q : List V → Hp → Prop) (Q3 : List Rv → PSt → Prop), Rel c F H σ ρ →
  (∀ rs ρ' vs F' H', Rel c F' H' σ ρ' → Same F F' → RVL c F' σ rs vs → Q3 rs ρ' → Q vs H') → pa ρ Q3 → ta σ H Q
def LiO (X : Sx) (to : TO) (po : QO) : Prop := ∀ (c : Ct), c.X = X → ∀ (σ : L2.St) (F H : Hp) (ρ : PSt) (Q : Option Int → Hp → Prop) (Q3 : Option Int → PSt → Prop), Rel c F H σ ρ →
  (∀ i ρ' F' H', Rel c F' H' σ ρ' → Same F F' → Q3 i ρ' → Q i H') → po ρ Q3 → to σ H Q
/-- the walk J yields these items -/
def Wd (X : Sx) (J : It) (F : Hp) (ds : List D) : Prop := ∀ (i : Nat) (c' : Ct) (σ : L2.St) (ρ : PSt) (F1 H1 : Hp), c'.X = X → Same F F1 → Rel c' F1 H1 σ ρ →
  (∀ d, ds[i]? = some d → J.go i H1 ∧ ∀ x H', J.yld i H1 x H' → Same H1 H' ∧ ∃ F', Rel c' F' H' σ ρ ∧ Same F1 F' ∧ Rp X.K F' d x) ∧ (ds[i]? = none → J.stop i H1)
def LiI (X : Sx) (wi : TI) (pi : QI) : Prop := ∀ (c : Ct), c.X = X → ∀ (σ : L2.St) (F H : Hp) (ρ : PSt) (R : It → Hp → Prop) (Q3 : List D → PSt → Prop), Rel c F H σ ρ →
  (∀ ds ρ' J F' H', Rel c F' H' σ ρ' → Same F F' → Wd X J F' ds → Q3 ds ρ' → R J H') → pi ρ Q3 → wi σ H R
/-- ts: the slots that it sets -/
def LiG (X : Sx) (g : TG) (pg : QG) (ts : List Nat) : Prop := ∀ (c : Ct), c.X = X → ∀ (σ : L2.St) (F H : Hp) (ρ : PSt) (d : D) (v : V) (R : L2.St → Hp → Prop) (Q3 : PSt → Prop), Rel c F H σ ρ → Rp c.K F d v →
  (∀ ρ' σ' F' H', Rel c F' H' σ' ρ' → Same F F' → σ'.length = σ.length → (∀ i, i ∉ ts → σ'[i]? = σ[i]?) → Q3 ρ' → R σ' H') → pg d ρ Q3 → g v σ H R
def LiGs (X : Sx) (g : TGs) (pg : QGs) (ts : List Nat) : Prop := ∀ (c : Ct), c.X = X → ∀ (σ : L2.St) (F H : Hp) (ρ : PSt) (ds : List D) (vs : List V) (R : L2.St → Hp → Prop) (Q3 : PSt → Prop), Rel c F H σ ρ → RpL c.K F ds vs →
  (∀ ρ' σ' F' H', Rel c F' H' σ' ρ' → Same F F' → σ'.length = σ.length → (∀ i, i ∉ ts → σ'[i]? = σ[i]?) → Q3 ρ' → R σ' H') → pg ds ρ Q3 → g vs σ H R
def RsOk (c : Ct) (F H : Hp) (σ : L2.St) (ρ : PSt) : Rs → V → Prop
  | .val d, v => Rp c.K F d v
  | .new ds, v => ∃ p, v = .ref p ∧ NewL c F H σ ρ p ds
structure Agr (c : Ct) (F : Hp) (D : Ends) (P : PEnds) : Prop where
  nx : ∀ σ' F' H' ρ', Rel c F' H' σ' ρ' → Same F F' → P.nx ρ' → D.nx σ' H'
  rt : ∀ σ' F' H' ρ' v r, Rel c F' H' σ' ρ' → Same F F' → RsOk c F' H' σ' ρ' r v → P.rt r ρ' → D.rt v H'
  bk : ∀ σ' F' H' ρ', Rel c F' H' σ' ρ' → Same F F' → P.bk ρ' → D.bk σ' H'
  ct : ∀ σ' F' H' ρ', Rel c F' H' σ' ρ' → Same F F' → P.ct ρ' → D.ct σ' H'
theorem Agr.mono {c : Ct} {F F' : Hp} {D : Ends} {P : PEnds} (a : Agr c F D P) (s : Same F F') : Agr c F' D P :=
  ⟨fun σ' G H' ρ' R q => a.nx σ' G H' ρ' R (tr s q), fun σ' G H' ρ' v r R q => a.rt σ' G H' ρ' v r R (tr s q), fun σ' G H' ρ' R q => a.bk σ' G H' ρ' R (tr s q), fun σ' G H' ρ' R q => a.ct σ' G H' ρ' R (tr s q)⟩
def LiS (X : Sx) (ts : TS) (ps : QS) : Prop := ∀ (c : Ct), c.X = X → ∀ (σ : L2.St) (F H : Hp) (ρ : PSt) (D : Ends) (P : PEnds), Rel c F H σ ρ → Agr c F D P → ps P ρ → ts D σ H
/-! ### expressions -/
def qVarP (i : Nat) (Q : Rv → Prop) : Option PV → Prop
  | some (.val d) => Q (.val d)
  | some (.own _ _) => Q (.cell i)
  | _ => False
def qVar (i : Nat) : QE := fun ρ Q => qVarP i (fun r => Q r ρ) ρ[i]?
theorem li_var {X : Sx} {i : Nat} : LiE X (tVar i) (qVar i) := by
  intro c hX σ F H ρ Q Q3 R hq h
  have h : qVarP i (fun r => Q3 r ρ) ρ[i]? := h
  cases hi : ρ[i]? with
  | none => rw [hi] at h; exact h.elim
  | some pv =>
    rw [hi] at h
    match pv, hi, h with
    | .un, _, h => exact h.elim
    | .val d, hi, h =>
      obtain ⟨v, e, r⟩ := R.slot i _ hi
      exact ⟨v, e, hq (.val d) _ v F H R (Same.refl F) r h⟩
    | .own f ds, hi, h =>
      obtain ⟨p, vs, e, _⟩ := R.slot i _ hi
      exact ⟨.ref p, e, hq (.cell i) _ (.ref p) F H R (Same.refl F) e h⟩
def vD : V → Option D
  | .non => some .non
  | .bl b => some (.bl b)
  | .int i => some (.int i)
  | .str z => some (.str z)
  | .ty n => some (.ty n)
  | _ => none
def some1 {α : Type} (Q : α → Prop) : Option α → Prop
  | some d => Q d
  | none => False
def some2 {α β : Type} (Q : α → β → Prop) : Option α → Option β → Prop
  | some d, some e => Q d e
  | _, _ => False
def qC (v : V) : QE := fun ρ Q => some1 (fun d => Q (.val d) ρ) (vD v)
theorem li_c {X : Sx} {v : V} : LiE X (tC v) (qC v) := by
  intro c hX σ F H ρ Q Q3 R hq h
  match v, h with
  | .non, h => exact hq (.val .non) _ _ F H R (Same.refl F) rfl h
  | .bl b, h => exact hq (.val (.bl b)) _ _ F H R (Same.refl F) rfl h
  | .int b, h => exact hq (.val (.int b)) _ _ F H R (Same.refl F) rfl h
  | .str b, h => exact hq (.val (.str b)) _ _ F H R (Same.refl F) rfl h
  | .ty b, h => exact hq (.val (.ty b)) _ _ F H R (Same.refl F) rfl h
  | .byt _, h => exact h.elim
  | .flt _, h => exact h.elim
  | .ref _, h => exact h.elim
/-- what is kept: the own list is one no more -/
def escP (ρ : PSt) (i : Nat) (Q : D → PSt → Prop) : Option PV → Prop
  | some (.val d) => Q d ρ
  | some (.own true ds) => Q (.lst ds) (ρ.set i (.val (.lst ds)))
  | _ => False
def escR (ρ : PSt) (Q : D → PSt → Prop) : Rv → Prop
  | .val d => Q d ρ
  | .cell i => escP ρ i Q ρ[i]?
def qEsc (pe : QE) : QD := fun ρ Q => pe ρ fun r ρ' => escR ρ' Q r
theorem li_esc {X : Sx} {te : TE} {pe : QE} (h : LiE X te pe) : LiD X te (qEsc pe) := by
  intro c hX σ F H ρ Q Q3 R hq hp
  refine h c hX σ F H ρ Q _ R ?_ hp
  intro r ρ' v F' H' R' s rv q
  match r, rv, q with
  | .val d, rv, q => exact hq d ρ' v F' H' R' s rv q
  | .cell i, rv, q =>
    have rv2 : σ[i]? = some (some v) := rv
    have q : escP ρ' i Q3 ρ'[i]? := q
    cases hi : ρ'[i]? with
    | none => rw [hi] at q; exact q.elim
    | some pv =>
      rw [hi] at q
      match pv, hi, q with
      | .un, hi, q => exact q.elim
      | .val d, hi, q =>
        obtain ⟨w, e2, r⟩ := R'.slot i _ hi
        rw [rv2] at e2
        obtain rfl : v = w := Option.some.inj (Option.some.inj e2)
        exact hq d ρ' v F' H' R' s r q
      | .own false ds, hi, q => exact q.elim
      | .own true ds, hi, q =>
        obtain ⟨p, vs, e2, _⟩ := R'.slot i _ hi
        rw [rv2] at e2
        obtain rfl : v = .ref p := Option.some.inj (Option.some.inj e2)
        obtain ⟨vs, R2, s2, r2⟩ := R'.freeze hi rv2
        exact hq _ _ _ _ H' R2 (tr s s2) r2 q
def qKeep (pn : QN) : QE := fun ρ Q => pn ρ fun ds ρ' => Q (.val (.lst ds)) ρ'
theorem li_keep {X : Sx} {te : TE} {pn : QN} (h : LiN X te pn) : LiE X te (qKeep pn) := by
  intro c hX σ F H ρ Q Q3 R hq hp
  refine h c hX σ F H ρ Q _ R ?_ hp
  intro ds ρ' p F' H' R' s n q
  obtain ⟨vs, R2, s2, r2⟩ := n.keep R'
  exact hq (.val (.lst ds)) _ _ _ H' R2 (tr s s2) r2 q
def qVal (pd : QD) : QE := fun ρ Q => pd ρ fun d ρ' => Q (.val d) ρ'
theorem li_val {X : Sx} {te : TE} {pd : QD} (h : LiD X te pd) : LiE X te (qVal pd) := by
  intro c hX σ F H ρ Q Q3 R hq hp
  exact h c hX σ F H ρ Q _ R (fun d ρ' v F' H' R' s r q => hq (.val d) _ _ _ _ R' s r q) hp
/-! ### argument lists -/
def qNil : QA := fun ρ Q => Q [] ρ
def qCons (pe : QE) (pa : QA) : QA := fun ρ Q => pe ρ fun r ρ1 => pa ρ1 fun rs ρ2 => Q (r :: rs) ρ2
theorem li_nil {X : Sx} : LiA X tNil qNil := by
  intro c hX σ F H ρ Q Q3 R hq h
  exact hq [] ρ [] F H R (Same.refl F) rfl h
theorem li_cons {X : Sx} {te : TE} {ta : TA} {pe : QE} {pa : QA} (h1 : LiE X te pe) (h2 : LiA X ta pa) : LiA X (tCons te ta) (qCons pe pa) := by
  intro c hX σ F H ρ Q Q3 R hq h
  refine h1 c hX σ F H ρ _ _ R ?_ h
  intro r ρ1 v F1 H1 R1 s1 rv q1
  refine h2 c hX σ F1 H1 ρ1 _ _ R1 ?_ q1
  intro rs ρ2 vs F2 H2 R2 s2 rvs q2
  exact hq (r :: rs) ρ2 (v :: vs) F2 H2 R2 (tr s1 s2) ⟨v, vs, rfl, rv.mono s2, rvs⟩ q2
/-- all kept -/
abbrev QAD := PSt → (List D → PSt → Prop) → Prop
def LiAD (X : Sx) (ta : TA) (pa : QAD) : Prop := ∀ (c : Ct), c.X = X → ∀ (σ : L2.St) (F H : Hp) (ρ : PSt) (Q : List V → Hp → Prop) (Q3 : List D → PSt → Prop), Rel c F H σ ρ →
  (∀ ds ρ' vs F' H', Rel c F' H' σ ρ' → Same F F' → RpL c.K F' ds vs → Q3 ds ρ' → Q vs H') → pa ρ Q3 → ta σ H Q
def qNilD : QAD := fun ρ Q => Q [] ρ
def qConsD (pe : QD) (pa : QAD) : QAD := fun ρ Q => pe ρ fun d ρ1 => pa ρ1 fun ds ρ2 => Q (d :: ds) ρ2
theorem li_nilD {X : Sx} : LiAD X tNil qNilD := by
  intro c hX σ F H ρ Q Q3 R hq h
  exact hq [] ρ [] F H R (Same.refl F) rfl h
theorem li_consD {X : Sx} {te : TE} {ta : TA} {pe : QD} {pa : QAD} (h1 : LiD X te pe) (h2 : LiAD X ta pa) : LiAD X (tCons te ta) (qConsD pe pa) := by
  intro c hX σ F H ρ Q Q3 R hq h
  refine h1 c hX σ F H ρ _ _ R ?_ h
  intro d ρ1 v F1 H1 R1 s1 rv q1
  refine h2 c hX σ F1 H1 ρ1 _ _ R1 ?_ q1
  intro ds ρ2 vs F2 H2 R2 s2 rvs q2
  exact hq (d :: ds) ρ2 (v :: vs) F2 H2 R2 (tr s1 s2) ⟨v, vs, rfl, rv.mono s2, rvs⟩ q2
/-! ### displays -/
def qLst (pa : QAD) : QN := fun ρ Q => pa ρ fun ds ρ' => ds.length ≤ sizeLine ∧ Q ds ρ'
theorem li_lst {X : Sx} {ta : TA} {pa : QAD} (h : LiAD X ta pa) : LiN X (tLst ta) (qLst pa) := by
  intro c hX σ F H ρ Q Q3 R hq hp
  refine h c hX σ F H ρ _ _ R ?_ hp
  intro ds ρ' vs F' H' R' s r ⟨z, q⟩
  refine ⟨by rw [r.len]; exact z, fun p np => ?_⟩
  obtain ⟨R2, n2⟩ := NewL.made R' np r
  exact hq ds ρ' p F' _ R2 s n2 q
def qTup (pa : QAD) : QD := fun ρ Q => pa ρ fun ds ρ' => ds.length ≤ sizeLine ∧ Q (.tup ds) ρ'
theorem li_tup {X : Sx} {ta : TA} {pa : QAD} (h : LiAD X ta pa) : LiD X (tTup ta) (qTup pa) := by
  intro c hX σ F H ρ Q Q3 R hq hp
  refine h c hX σ F H ρ _ _ R ?_ hp
  intro ds ρ' vs F' H' R' s r ⟨z, q⟩
  refine ⟨by rw [r.len]; exact z, fun p np => ?_⟩
  have s2 : Same F' (upd F' p (.tup vs)) := fun _ _ e => old_upd (R'.fnone np) e
  exact hq (.tup ds) ρ' (.ref p) _ _ (R'.alloc np trivial) (tr s s2) ⟨p, vs, rfl, sqT_of upd_same, r.mono s2⟩ q
/-! ### operators -/
abbrev O2 := D → D → (D → Prop) → Prop
def LiR (X : Sx) (r : R2) (r3 : O2) : Prop := ∀ (c : Ct), c.X = X → ∀ (σ : L2.St) (F H : Hp) (ρ : PSt) (x y : V) (dx dy : D) (Q : VK) (Q3 : D → Prop), Rel c F H σ ρ → Rn c.K F H dx x → Rn c.K F H dy y →
  (∀ d v F' H', Rel c F' H' σ ρ → Same F F' → Rp c.K F' d v → Q3 d → Q v H') → r3 dx dy Q3 → r x y H Q
def qOp (r3 : O2) (pa pb : QE) : QE := fun ρ Q => pa ρ fun x ρ1 => pb ρ1 fun y ρ2 => some2 (fun dx dy => r3 dx dy fun d => Q (.val d) ρ2) (rdR ρ2 x) (rdR ρ2 y)
theorem li_op {X : Sx} {r : R2} {r3 : O2} {ta tb : TE} {pa pb : QE} (hr : LiR X r r3) (ha : LiE X ta pa) (hb : LiE X tb pb) : LiE X (tOp r ta tb) (qOp r3 pa pb) := by
  intro c hX σ F H ρ Q Q3 R hq h
  refine ha c hX σ F H ρ _ _ R ?_ h
  intro x ρ1 v F1 H1 R1 s1 rv q1
  refine hb c hX σ F1 H1 ρ1 _ _ R1 ?_ q1
  intro y ρ2 w F2 H2 R2 s2 rw2 q2
  cases h1 : rdR ρ2 x with
  | none => rw [h1] at q2; exact q2.elim
  | some dx =>
    cases h2 : rdR ρ2 y with
    | none => rw [h1, h2] at q2; exact q2.elim
    | some dy =>
      rw [h1, h2] at q2
      exact hr c hX σ F2 H2 ρ2 v w dx dy Q _ R2 ((rv.mono s2).rn R2 h1) (rw2.rn R2 h2) (fun d u F' H' R' s r q => hq (.val d) _ _ _ _ R' (tr (tr s1 s2) s) r q) q2
abbrev O2N := D → D → (List D → Prop) → Prop
def LiRN (X : Sx) (r : R2) (r3 : O2N) : Prop := ∀ (c : Ct), c.X = X → ∀ (σ : L2.St) (F H : Hp) (ρ : PSt) (x y : V) (dx dy : D) (Q : VK) (Q3 : List D → Prop), Rel c F H σ ρ → Rn c.K F H dx x → Rn c.K F H dy y →
  (∀ ds p F' H', Rel c F' H' σ ρ → Same F F' → NewL c F' H' σ ρ p ds → Q3 ds → Q (.ref p) H') → r3 dx dy Q3 → r x y H Q
def qOpN (r3 : O2N) (pa pb : QE) : QN := fun ρ Q => pa ρ fun x ρ1 => pb ρ1 fun y ρ2 => some2 (fun dx dy => r3 dx dy fun d => Q d ρ2) (rdR ρ2 x) (rdR ρ2 y)
theorem li_opN {X : Sx} {r : R2} {r3 : O2N} {ta tb : TE} {pa pb : QE} (hr : LiRN X r r3) (ha : LiE X ta pa) (hb : LiE X tb pb) : LiN X (tOp r ta tb) (qOpN r3 pa pb) := by
  intro c hX σ F H ρ Q Q3 R hq h
  refine ha c hX σ F H ρ _ _ R ?_ h
  intro x ρ1 v F1 H1 R1 s1 rv q1
  refine hb c hX σ F1 H1 ρ1 _ _ R1 ?_ q1
  intro y ρ2 w F2 H2 R2 s2 rw2 q2
  cases h1 : rdR ρ2 x with
  | none => rw [h1] at q2; exact q2.elim
  | some dx =>
    cases h2 : rdR ρ2 y with
    | none => rw [h1, h2] at q2; exact q2.elim
    | some dy =>
      rw [h1, h2] at q2
      exact hr c hX σ F2 H2 ρ2 v w dx dy Q _ R2 ((rv.mono s2).rn R2 h1) (rw2.rn R2 h2) (fun d u F' H' R' s r q => hq d _ _ _ _ R' (tr (tr s1 s2) s) r q) q2
abbrev O1 := D → (D → Prop) → Prop
def LiU (X : Sx) (r : V → Hp → VK → Prop) (r3 : O1) : Prop := ∀ (c : Ct), c.X = X → ∀ (σ : L2.St) (F H : Hp) (ρ : PSt) (x : V) (dx : D) (Q : VK) (Q3 : D → Prop), Rel c F H σ ρ → Rn c.K F H dx x →
  (∀ d v F' H', Rel c F' H' σ ρ → Same F F' → Rp c.K F' d v → Q3 d → Q v H') → r3 dx Q3 → r x H Q
def qUn (r3 : O1) (pa : QE) : QE := fun ρ Q => pa ρ fun x ρ1 => some1 (fun dx => r3 dx fun d => Q (.val d) ρ1) (rdR ρ1 x)
theorem li_un {X : Sx} {r : V → Hp → VK → Prop} {r3 : O1} {ta : TE} {pa : QE} (hr : LiU X r r3) (ha : LiE X ta pa) : LiE X (tUn r ta) (qUn r3 pa) := by
  intro c hX σ F H ρ Q Q3 R hq h
  refine ha c hX σ F H ρ _ _ R ?_ h
  intro x ρ1 v F1 H1 R1 s1 rv q1
  cases h1 : rdR ρ1 x with
  | none => rw [h1] at q1; exact q1.elim
  | some dx =>
    rw [h1] at q1
    exact hr c hX σ F1 H1 ρ1 v dx Q _ R1 (rv.rn R1 h1) (fun d u F' H' R' s r q => hq (.val d) _ _ _ _ R' (tr s1 s) r q) q1
/-! ### built-ins -/
abbrev OL := List D → (D → Prop) → Prop
def LiC (X : Sx) (r : List V → Hp → VK → Prop) (r3 : OL) : Prop := ∀ (c : Ct), c.X = X → ∀ (σ : L2.St) (F H : Hp) (ρ : PSt) (xs : List V) (dxs : List D) (Q : VK) (Q3 : D → Prop), Rel c F H σ ρ → RnL c.K F H dxs xs →
  (∀ d v F' H', Rel c F' H' σ ρ → Same F F' → Rp c.K F' d v → Q3 d → Q v H') → r3 dxs Q3 → r xs H Q
def qCB (r3 : OL) (pa : QA) : QE := fun ρ Q => pa ρ fun xs ρ1 => some1 (fun ds => r3 ds fun d => Q (.val d) ρ1) (rdL ρ1 xs)
theorem li_cb {X : Sx} {r : List V → Hp → VK → Prop} {r3 : OL} {ta : TA} {pa : QA} (hr : LiC X r r3) (ha : LiA X ta pa) : LiE X (tCB r ta) (qCB r3 pa) := by
  intro c hX σ F H ρ Q Q3 R hq h
  refine ha c hX σ F H ρ _ _ R ?_ h
  intro x ρ1 v F1 H1 R1 s1 rv q1
  cases h1 : rdL ρ1 x with
  | none => rw [h1] at q1; exact q1.elim
  | some dx =>
    rw [h1] at q1
    exact hr c hX σ F1 H1 ρ1 v dx Q _ R1 (rv.rn R1 h1) (fun d u F' H' R' s r q => hq (.val d) _ _ _ _ R' (tr s1 s) r q) q1
abbrev OLN := List D → (List D → Prop) → Prop
def LiCN (X : Sx) (r : List V → Hp → VK → Prop) (r3 : OLN) : Prop := ∀ (c : Ct), c.X = X → ∀ (σ : L2.St) (F H : Hp) (ρ : PSt) (xs : List V) (dxs : List D) (Q : VK) (Q3 : List D → Prop), Rel c F H σ ρ → RnL c.K F H dxs xs →
  (∀ d p F' H', Rel c F' H' σ ρ → Same F F' → NewL c F' H' σ ρ p d → Q3 d → Q (.ref p) H') → r3 dxs Q3 → r xs H Q
def qCBN (r3 : OLN) (pa : QA) : QN := fun ρ Q => pa ρ fun xs ρ1 => some1 (fun ds => r3 ds fun d => Q d ρ1) (rdL ρ1 xs)
theorem li_cbN {X : Sx} {r : List V → Hp → VK → Prop} {r3 : OLN} {ta : TA} {pa : QA} (hr : LiCN X r r3) (ha : LiA X ta pa) : LiN X (tCB r ta) (qCBN r3 pa) := by
  intro c hX σ F H ρ Q Q3 R hq h
  refine ha c hX σ F H ρ _ _ R ?_ h
  intro x ρ1 v F1 H1 R1 s1 rv q1
  cases h1 : rdL ρ1 x with
  | none => rw [h1] at q1; exact q1.elim
  | some dx =>
    rw [h1] at q1
    exact hr c hX σ F1 H1 ρ1 v dx Q _ R1 (rv.rn R1 h1) (fun d u F' H' R' s r q => hq d _ _ _ _ R' (tr s1 s) r q) q1
/-! ### tests -/
def isBl (Q : Bool → Prop) : Rv → Prop
  | .val (.bl b) => Q b
  | _ => False
def isInt (Q : Int → Prop) : Rv → Prop
  | .val (.int b) => Q b
  | _ => False
theorem isBl_is {Q : Bool → Prop} : ∀ {r : Rv}, isBl Q r → ∃ b, r = .val (.bl b) ∧ Q b
  | .val (.bl b), h => ⟨b, rfl, h⟩
theorem isInt_is {Q : Int → Prop} : ∀ {r : Rv}, isInt Q r → ∃ b, r = .val (.int b) ∧ Q b
  | .val (.int b), h => ⟨b, rfl, h⟩
def qTest (pe : QE) : QT := fun ρ Q => pe ρ fun r ρ' => isBl (fun b => Q b ρ') r
theorem li_tB {X : Sx} {te : TE} {pe : QE} (h : LiE X te pe) : LiT X (tB te) (qTest pe) := by
  intro c hX σ F H ρ Q Q3 R hq hp
  refine h c hX σ F H ρ _ _ R ?_ hp
  intro r ρ' v F' H' R' s rv q
  obtain ⟨b, rfl, q⟩ := isBl_is q
  exact ⟨b, rv, hq b ρ' F' H' R' s q⟩
theorem li_test {X : Sx} {te : TE} {pe : QE} (h : LiE X te pe) : LiT X (tTest te) (qTest pe) := li_tB h
def qAnd (p q : QT) : QT := fun ρ Q => p ρ fun b ρ1 => if b = true then q ρ1 Q else Q false ρ1
def qOr (p q : QT) : QT := fun ρ Q => p ρ fun b ρ1 => if b = true then Q true ρ1 else q ρ1 Q
def qNot (p : QT) : QT := fun ρ Q => p ρ fun b ρ1 => Q (!b) ρ1
def qYes : QT := fun ρ Q => Q true ρ
theorem li_and {X : Sx} {t u : TT} {p q : QT} (h1 : LiT X t p) (h2 : LiT X u q) : LiT X (tAnd t u) (qAnd p q) := by
  intro c hX σ F H ρ Q Q3 R hq hp
  refine h1 c hX σ F H ρ _ _ R ?_ hp
  intro b ρ1 F1 H1 R1 s1 q1
  cases b with
  | true => exact h2 c hX σ F1 H1 ρ1 _ _ R1 (fun b ρ2 F2 H2 R2 s2 q2 => hq b ρ2 F2 H2 R2 (tr s1 s2) q2) q1
  | false => exact hq false ρ1 F1 H1 R1 s1 q1
theorem li_or {X : Sx} {t u : TT} {p q : QT} (h1 : LiT X t p) (h2 : LiT X u q) : LiT X (tOr t u) (qOr p q) := by
  intro c hX σ F H ρ Q Q3 R hq hp
  refine h1 c hX σ F H ρ _ _ R ?_ hp
  intro b ρ1 F1 H1 R1 s1 q1
  cases b with
  | true => exact hq true ρ1 F1 H1 R1 s1 q1
  | false => exact h2 c hX σ F1 H1 ρ1 _ _ R1 (fun b ρ2 F2 H2 R2 s2 q2 => hq b ρ2 F2 H2 R2 (tr s1 s2) q2) q1
theorem li_not {X : Sx} {t : TT} {p : QT} (h1 : LiT X t p) : LiT X (tNot t) (qNot p) := by
  intro c hX σ F H ρ Q Q3 R hq hp
  exact h1 c hX σ F H ρ _ _ R (fun b ρ1 F1 H1 R1 s1 q1 => hq _ ρ1 F1 H1 R1 s1 q1) hp
theorem li_yes {X : Sx} : LiT X tYes qYes := by
  intro c hX σ F H ρ Q Q3 R hq hp
  exact hq _ ρ F H R (Same.refl F) hp
def qIf (p : QT) (a b : QE) : QE := fun ρ Q => p ρ fun k ρ1 => if k = true then a ρ1 Q else b ρ1 Q
theorem li_if {X : Sx} {t : TT} {ta tb : TE} {p : QT} {a b : QE} (h1 : LiT X t p) (h2 : LiE X ta a) (h3 : LiE X tb b) : LiE X (tIf t ta tb) (qIf p a b) := by
  intro c hX σ F H ρ Q Q3 R hq hp
  refine h1 c hX σ F H ρ _ _ R ?_ hp
  intro k ρ1 F1 H1 R1 s1 q1
  cases k with
  | true => exact h2 c hX σ F1 H1 ρ1 _ _ R1 (fun r ρ2 v F2 H2 R2 s2 rv q2 => hq r ρ2 v F2 H2 R2 (tr s1 s2) rv q2) q1
  | false => exact h3 c hX σ F1 H1 ρ1 _ _ R1 (fun r ρ2 v F2 H2 R2 s2 rv q2 => hq r ρ2 v F2 H2 R2 (tr s1 s2) rv q2) q1
def qAndV (a b : QE) : QE := fun ρ Q => a ρ fun r ρ1 => isBl (fun k => if k = true then b ρ1 Q else Q (.val (.bl false)) ρ1) r
def qOrV (a b : QE) : QE := fun ρ Q => a ρ fun r ρ1 => isBl (fun k => if k = true then Q (.val (.bl true)) ρ1 else b ρ1 Q) r
def qNotV (a : QE) : QE := fun ρ Q => a ρ fun r ρ1 => isBl (fun k => Q (.val (.bl (!k))) ρ1) r
theorem li_andV {X : Sx} {ta tb : TE} {a b : QE} (h1 : LiE X ta a) (h2 : LiE X tb b) : LiE X (tAndV ta tb) (qAndV a b) := by
  intro c hX σ F H ρ Q Q3 R hq hp
  refine h1 c hX σ F H ρ _ _ R ?_ hp
  intro r ρ1 v F1 H1 R1 s1 rv q1
  obtain ⟨k, rfl, q1⟩ := isBl_is q1
  match k, rv, q1 with
  | true, rv, q1 => exact ⟨true, rv, h2 c hX σ F1 H1 ρ1 _ _ R1 (fun r ρ2 v F2 H2 R2 s2 rv q2 => hq r ρ2 v F2 H2 R2 (tr s1 s2) rv q2) q1⟩
  | false, rv, q1 => exact ⟨false, rv, hq (.val (.bl false)) ρ1 _ F1 H1 R1 s1 rfl q1⟩
theorem li_orV {X : Sx} {ta tb : TE} {a b : QE} (h1 : LiE X ta a) (h2 : LiE X tb b) : LiE X (tOrV ta tb) (qOrV a b) := by
  intro c hX σ F H ρ Q Q3 R hq hp
  refine h1 c hX σ F H ρ _ _ R ?_ hp
  intro r ρ1 v F1 H1 R1 s1 rv q1
  obtain ⟨k, rfl, q1⟩ := isBl_is q1
  match k, rv, q1 with
  | false, rv, q1 => exact ⟨false, rv, h2 c hX σ F1 H1 ρ1 _ _ R1 (fun r ρ2 v F2 H2 R2 s2 rv q2 => hq r ρ2 v F2 H2 R2 (tr s1 s2) rv q2) q1⟩
  | true, rv, q1 => exact ⟨true, rv, hq (.val (.bl true)) ρ1 _ F1 H1 R1 s1 rfl q1⟩
theorem li_notV {X : Sx} {ta : TE} {a : QE} (h1 : LiE X ta a) : LiE X (tNotV ta) (qNotV a) := by
  intro c hX σ F H ρ Q Q3 R hq hp
  refine h1 c hX σ F H ρ _ _ R ?_ hp
  intro r ρ1 v F1 H1 R1 s1 rv q1
  obtain ⟨k, rfl, q1⟩ := isBl_is q1
  exact ⟨k, rv, hq (.val (.bl (!k))) ρ1 _ F1 H1 R1 s1 rfl q1⟩
/-! ### slices -/
def qNoPart : QO := fun ρ Q => Q none ρ
def qPart (pe : QE) : QO := fun ρ Q => pe ρ fun r ρ' => isInt (fun i => Q (some i) ρ') r
theorem li_nopart {X : Sx} : LiO X tNoPart qNoPart := by
  intro c hX σ F H ρ Q Q3 R hq hp
  exact hq _ ρ F H R (Same.refl F) hp
theorem li_part {X : Sx} {te : TE} {pe : QE} (h : LiE X te pe) : LiO X (tPart te) (qPart pe) := by
  intro c hX σ F H ρ Q Q3 R hq hp
  refine h c hX σ F H ρ _ _ R ?_ hp
  intro r ρ1 v F1 H1 R1 s1 rv q1
  obtain ⟨k, rfl, q1⟩ := isInt_is q1
  exact ⟨k, rv, hq _ ρ1 F1 H1 R1 s1 q1⟩
def LiSl (X : Sx) (r : V → Option Int → Option Int → Hp → VK → Prop) (r3 : D → Option Int → Option Int → (D → Prop) → Prop) : Prop := ∀ (c : Ct), c.X = X → ∀ (σ : L2.St) (F H : Hp) (ρ : PSt) (x : V) (dx : D) (lo hi : Option Int) (Q : VK) (Q3 : D → Prop), Rel c F H σ ρ → Rn c.K F H dx x →
  (∀ d v F' H', Rel c F' H' σ ρ → Same F F' → Rp c.K F' d v → Q3 d → Q v H') → r3 dx lo hi Q3 → r x lo hi H Q
def LiSlN (X : Sx) (r : V → Option Int → Option Int → Hp → VK → Prop) (r3 : D → Option Int → Option Int → (List D → Prop) → Prop) : Prop := ∀ (c : Ct), c.X = X → ∀ (σ : L2.St) (F H : Hp) (ρ : PSt) (x : V) (dx : D) (lo hi : Option Int) (Q : VK) (Q3 : List D → Prop), Rel c F H σ ρ → Rn c.K F H dx x →
  (∀ d p F' H', Rel c F' H' σ ρ → Same F F' → NewL c F' H' σ ρ p d → Q3 d → Q (.ref p) H') → r3 dx lo hi Q3 → r x lo hi H Q
def qSl (r3 : D → Option Int → Option Int → (D → Prop) → Prop) (pe : QE) (pl ph : QO) : QE := fun ρ Q => pe ρ fun x ρ1 => pl ρ1 fun lo ρ2 => ph ρ2 fun hi ρ3 => some1 (fun dx => r3 dx lo hi fun d => Q (.val d) ρ3) (rdR ρ3 x)
def qSlN (r3 : D → Option Int → Option Int → (List D → Prop) → Prop) (pe : QE) (pl ph : QO) : QN := fun ρ Q => pe ρ fun x ρ1 => pl ρ1 fun lo ρ2 => ph ρ2 fun hi ρ3 => some1 (fun dx => r3 dx lo hi fun d => Q d ρ3) (rdR ρ3 x)
theorem li_sl {X : Sx} {r : V → Option Int → Option Int → Hp → VK → Prop} {r3 : D → Option Int → Option Int → (D → Prop) → Prop} {te : TE} {tl th : TO} {pe : QE} {pl ph : QO} (hr : LiSl X r r3) (h1 : LiE X te pe) (h2 : LiO X tl pl) (h3 : LiO X th ph) : LiE X (L2.tSl r te tl th) (qSl r3 pe pl ph) := by
  intro c hX σ F H ρ Q Q3 R hq hp
  refine h1 c hX σ F H ρ _ _ R ?_ hp
  intro x ρ1 v F1 H1 R1 s1 rv q1
  refine h2 c hX σ F1 H1 ρ1 _ _ R1 ?_ q1
  intro lo ρ2 F2 H2 R2 s2 q2
  refine h3 c hX σ F2 H2 ρ2 _ _ R2 ?_ q2
  intro hi ρ3 F3 H3 R3 s3 q3
  cases hx : rdR ρ3 x with
  | none => rw [hx] at q3; exact q3.elim
  | some dx =>
    rw [hx] at q3
    exact hr c hX σ F3 H3 ρ3 v dx lo hi Q _ R3 (((rv.mono s2).mono s3).rn R3 hx) (fun d u F' H' R' s r q => hq (.val d) _ _ _ _ R' (tr (tr (tr s1 s2) s3) s) r q) q3
theorem li_slN {X : Sx} {r : V → Option Int → Option Int → Hp → VK → Prop} {r3 : D → Option Int → Option Int → (List D → Prop) → Prop} {te : TE} {tl th : TO} {pe : QE} {pl ph : QO} (hr : LiSlN X r r3) (h1 : LiE X te pe) (h2 : LiO X tl pl) (h3 : LiO X th ph) : LiN X (L2.tSl r te tl th) (qSlN r3 pe pl ph) := by
  intro c hX σ F H ρ Q Q3 R hq hp
  refine h1 c hX σ F H ρ _ _ R ?_ hp
  intro x ρ1 v F1 H1 R1 s1 rv q1
  refine h2 c hX σ F1 H1 ρ1 _ _ R1 ?_ q1
  intro lo ρ2 F2 H2 R2 s2 q2
  refine h3 c hX σ F2 H2 ρ2 _ _ R2 ?_ q2
  intro hi ρ3 F3 H3 R3 s3 q3
  cases hx : rdR ρ3 x with
  | none => rw [hx] at q3; exact q3.elim
  | some dx =>
    rw [hx] at q3
    exact hr c hX σ F3 H3 ρ3 v dx lo hi Q _ R3 (((rv.mono s2).mono s3).rn R3 hx) (fun d u F' H' R' s r q => hq d _ _ _ _ R' (tr (tr (tr s1 s2) s3) s) r q) q3
end L3
/-! Plain readings: targets, statements, loops, comprehensions. -/
namespace L3
open PySem PySem.Spec PyProof.Rows L2 TB LamX
open C8 (tCut)
/-! ### targets -/
def gqName (i : Nat) : QG := fun d ρ Q => Q (ρ.set i (.val d))
def gqNil : QGs := fun ds ρ Q => ds = [] ∧ Q ρ
def gqCons (g : QG) (gs : QGs) : QGs := fun ds ρ Q => ∃ d r, ds = d :: r ∧ g d ρ fun ρ' => gs r ρ' Q
def gqTup (n : Nat) (gs : QGs) : QG := fun d ρ Q => ∃ ds, d = .tup ds ∧ ds.length = n ∧ gs ds ρ Q
def gqUnl (n : Nat) (gs : QGs) : QG := fun d ρ Q => ∃ ds, d = .lst ds ∧ ds.length = n ∧ gs ds ρ Q
section
variable {X : Sx}
theorem lg_name {i : Nat} : LiG X (gName i) (gqName i) [i] := by
  intro c hX σ F H ρ d v R Q3 Re h hq hp
  refine hq _ _ F H (Re.setVal (i := i) h) (Same.refl F) (List.length_set) (fun j hj => ?_) hp
  rw [List.getElem?_set_ne (fun e => hj (by rw [e]; exact List.mem_singleton.mpr rfl))]
theorem lg_nil : LiGs X gNil gqNil [] := by
  intro c hX σ F H ρ ds vs R Q3 Re h hq hp
  obtain ⟨rfl, q⟩ := hp
  have e : vs = [] := h
  exact ⟨e, hq _ _ F H Re (Same.refl F) rfl (fun _ _ => rfl) q⟩
theorem lg_cons {g : TG} {gs : TGs} {p : QG} {ps : QGs} {t1 t2 : List Nat} (h1 : LiG X g p t1) (h2 : LiGs X gs ps t2) : LiGs X (gCons g gs) (gqCons p ps) (t1 ++ t2) := by
  intro c hX σ F H ρ ds vs R Q3 Re h hq hp
  obtain ⟨d, r, rfl, q⟩ := hp
  obtain ⟨v, ws, rfl, k1, k2⟩ := h
  refine ⟨v, ws, rfl, ?_⟩
  refine h1 c hX σ F H ρ d v _ _ Re k1 ?_ q
  intro ρ1 σ1 F1 H1 R1 s1 l1 e1 q1
  refine h2 c hX σ1 F1 H1 ρ1 r ws _ _ R1 (k2.mono s1) ?_ q1
  intro ρ2 σ2 F2 H2 R2 s2 l2 e2 q2
  refine hq ρ2 σ2 F2 H2 R2 (tr s1 s2) (l2.trans l1) (fun i hi => ?_) q2
  rw [e2 i (fun z => hi (List.mem_append_right _ z)), e1 i (fun z => hi (List.mem_append_left _ z))]
theorem lg_tup {n : Nat} {gs : TGs} {ps : QGs} {t : List Nat} (h1 : LiGs X gs ps t) : LiG X (gTup X.K n gs) (gqTup n ps) t := by
  intro c hX σ F H ρ d v R Q3 Re h hq hp
  obtain ⟨ds, rfl, hn, q⟩ := hp
  obtain ⟨a, vs, rfl, sq, r⟩ := h
  subst hX
  exact ⟨a, vs, rfl, sqT_mono Re.sub sq, by rw [r.len]; exact hn, h1 c rfl σ F H ρ ds vs R Q3 Re r hq q⟩
theorem lg_unl {n : Nat} {gs : TGs} {ps : QGs} {t : List Nat} (h1 : LiGs X gs ps t) : LiG X (gUnl X.K n gs) (gqUnl n ps) t := by
  intro c hX σ F H ρ d v R Q3 Re h hq hp
  obtain ⟨ds, rfl, hn, q⟩ := hp
  obtain ⟨a, vs, rfl, sq, r⟩ := h
  subst hX
  exact ⟨a, vs, rfl, sqL_of (Re.sub _ _ sq), by rw [r.len]; exact hn, h1 c rfl σ F H ρ ds vs R Q3 Re r hq q⟩
/-! ### statements -/
def sNext : QS := fun P ρ => P.nx ρ
def sSeq (p q : QS) : QS := fun P ρ => p { P with nx := q P } ρ
def sCut (p q : QS) : QS := fun P ρ => ∃ M : PSt → Prop, p { P with nx := M } ρ ∧ ∀ ρ', M ρ' → q P ρ'
def sDrop (pe : QE) : QS := fun P ρ => pe ρ fun _ ρ' => P.nx ρ'
def sRet (pd : QD) : QS := fun P ρ => pd ρ fun d ρ' => P.rt (.val d) ρ'
def sRetNew (pn : QN) : QS := fun P ρ => pn ρ fun ds ρ' => P.rt (.new ds) ρ'
def retP (ρ : PSt) (i : Nat) (P : PEnds) : Option PV → Prop
  | some (.val d) => P.rt (.val d) ρ
  | some (.own true ds) => P.rt (.new ds) (ρ.set i .un)
  | _ => False
def sRetV (i : Nat) : QS := fun P ρ => retP ρ i P ρ[i]?
def sRetN : QS := fun P ρ => P.rt (.val .non) ρ
def sIf (pt : QT) (p q : QS) : QS := fun P ρ => pt ρ fun b ρ1 => if b = true then p P ρ1 else q P ρ1
def sAsg (pd : QD) (g : QG) : QS := fun P ρ => pd ρ fun d ρ1 => g d ρ1 P.nx
def sOwn (pn : QN) (i : Nat) : QS := fun P ρ => pn ρ fun ds ρ1 => P.nx (ρ1.set i (.own true ds))
def sPar (i j : Nat) (pa : QAD) : QS := fun P ρ => pa ρ fun ds ρ1 => ∃ d e, ds = [d, e] ∧ P.nx ((ρ1.set i (.val d)).set j (.val e))
/-- the reading of an assignment to a name whose list will be changed -/
def tAsgN (te : TE) (i : Nat) : TS := tAsg te (gName i)
theorem ls_next : LiS X tNext sNext := fun c hX σ F H ρ D P R a h => a.nx σ F H ρ R (Same.refl F) h
theorem ls_never : LiS X tNever (fun _ _ => False) := fun c hX σ F H ρ D P R a h => h.elim
theorem ls_seq {t u : TS} {p q : QS} (h1 : LiS X t p) (h2 : LiS X u q) : LiS X (tSeq t u) (sSeq p q) := by
  intro c hX σ F H ρ D P R a h
  exact h1 c hX σ F H ρ _ { P with nx := q P } R ⟨fun σ' F' H' ρ' R' s z => h2 c hX σ' F' H' ρ' D P R' (a.mono s) z, a.rt, a.bk, a.ct⟩ h
theorem ls_cut {t u : TS} {p q : QS} (h1 : LiS X t p) (h2 : LiS X u q) : LiS X (tCut t u) (sCut p q) := by
  intro c hX σ F H ρ D P R a h
  obtain ⟨M, hm, hu⟩ := h
  refine ⟨fun σ' H' => ∃ F' ρ', Rel c F' H' σ' ρ' ∧ Same F F' ∧ M ρ', ?_, ?_⟩
  · exact h1 c hX σ F H ρ _ { P with nx := M } R ⟨fun σ' F' H' ρ' R' s q => ⟨F', ρ', R', s, q⟩, a.rt, a.bk, a.ct⟩ hm
  · rintro σ' H' ⟨F', ρ', R', s, q⟩
    exact h2 c hX σ' F' H' ρ' D P R' (a.mono s) (hu ρ' q)
theorem ls_drop {te : TE} {pe : QE} (h1 : LiE X te pe) : LiS X (tDrop te) (sDrop pe) := by
  intro c hX σ F H ρ D P R a h
  exact h1 c hX σ F H ρ _ _ R (fun r ρ' v F' H' R' s rv q => a.nx σ F' H' ρ' R' s q) h
theorem ls_ret {te : TE} {pd : QD} (h1 : LiD X te pd) : LiS X (tRet te) (sRet pd) := by
  intro c hX σ F H ρ D P R a h
  exact h1 c hX σ F H ρ _ _ R (fun d ρ' v F' H' R' s rv q => a.rt σ F' H' ρ' v (.val d) R' s rv q) h
theorem ls_retNew {te : TE} {pn : QN} (h1 : LiN X te pn) : LiS X (tRet te) (sRetNew pn) := by
  intro c hX σ F H ρ D P R a h
  exact h1 c hX σ F H ρ _ _ R (fun ds ρ' p F' H' R' s rv q => a.rt σ F' H' ρ' (.ref p) (.new ds) R' s ⟨p, rfl, rv⟩ q) h
theorem ls_retV {i : Nat} : LiS X (tRet (tVar i)) (sRetV i) := by
  intro c hX σ F H ρ D P R a h
  have h : retP ρ i P ρ[i]? := h
  cases hi : ρ[i]? with
  | none => rw [hi] at h; exact h.elim
  | some pv =>
    rw [hi] at h
    match pv, hi, h with
    | .un, hi, h => exact h.elim
    | .val d, hi, h =>
      obtain ⟨v, e, r⟩ := R.slot i _ hi
      exact ⟨v, e, a.rt σ F H ρ v (.val d) R (Same.refl F) r h⟩
    | .own false ds, hi, h => exact h.elim
    | .own true ds, hi, h =>
      obtain ⟨p, vs, e, hF, hp, hr, hN, hb⟩ := R.slot i _ hi
      refine ⟨.ref p, e, a.rt σ F H (ρ.set i .un) (.ref p) (.new ds) (R.forget i) (Same.refl F) ⟨p, rfl, ⟨vs, hp, hr⟩, hF, hN.1 rfl, hb.elim (fun z => Or.inr ⟨z, hN.1 rfl⟩) Or.inl, fun j f2 d2 h2 e2 => ?_⟩ h⟩
      by_cases q : i = j
      · subst q
        have hl := (List.getElem?_eq_some_iff.mp h2).1
        rw [List.length_set] at hl
        rw [List.getElem?_set_self hl] at h2
        exact nomatch h2
      · rw [List.getElem?_set_ne q] at h2
        exact q (R.sep i j _ _ _ _ p hi h2 e e2)
theorem ls_retN : LiS X tRetN sRetN := fun c hX σ F H ρ D P R a h => a.rt σ F H ρ .non (.val .non) R (Same.refl F) rfl h
theorem ls_if {tc : TT} {t u : TS} {pt : QT} {p q : QS} (h0 : LiT X tc pt) (h1 : LiS X t p) (h2 : LiS X u q) : LiS X (tIfS tc t u) (sIf pt p q) := by
  intro c hX σ F H ρ D P R a h
  refine h0 c hX σ F H ρ _ _ R ?_ h
  intro b ρ' F' H' R' s q
  cases b with
  | true => exact h1 c hX σ F' H' ρ' D P R' (a.mono s) q
  | false => exact h2 c hX σ F' H' ρ' D P R' (a.mono s) q
theorem ls_asg {te : TE} {g : TG} {pd : QD} {pg : QG} {t : List Nat} (h1 : LiD X te pd) (h2 : LiG X g pg t) : LiS X (tAsg te g) (sAsg pd pg) := by
  intro c hX σ F H ρ D P R a h
  refine h1 c hX σ F H ρ _ _ R ?_ h
  intro d ρ' v F' H' R' s rv q
  exact h2 c hX σ F' H' ρ' d v _ _ R' rv (fun ρ2 σ2 F2 H2 R2 s2 _ _ q2 => a.nx σ2 F2 H2 ρ2 R2 (tr s s2) q2) q
theorem ls_own {te : TE} {i : Nat} {pn : QN} (h1 : LiN X te pn) : LiS X (tAsgN te i) (sOwn pn i) := by
  intro c hX σ F H ρ D P R a h
  refine h1 c hX σ F H ρ _ _ R ?_ h
  intro ds ρ' p F' H' R' s n q
  obtain ⟨vs, hp, hr⟩ := n.l
  exact a.nx _ F' H' _ (R'.setOwn hp n.f hr n.n n.b2 n.o) s q
theorem ls_par {i j : Nat} {ta : TA} {pa : QAD} (h1 : LiAD X ta pa) : LiS X (tPar i j ta) (sPar i j pa) := by
  intro c hX σ F H ρ D P R a h
  refine h1 c hX σ F H ρ _ _ R ?_ h
  rintro ds ρ' vs F' H' R' s rv ⟨d, e, rfl, q⟩
  obtain ⟨v, t, rfl, r1, r2⟩ := rv
  obtain ⟨w, t2, rfl, r3, r4⟩ := r2
  obtain rfl : t2 = [] := r4
  exact ⟨v, w, rfl, a.nx _ F' H' _ ((R'.setVal r1).setVal r3) s q⟩
/-! ### while -/
def sWhile (pt : QT) (p : QS) : QS := fun P ρ => ∃ W : Nat → PSt → Prop, (∃ m, W m ρ) ∧ ∀ m ρ, W m ρ → pt ρ fun b ρ1 => if b = true then p { P with nx := fun ρ' => ∃ m', m' < m ∧ W m' ρ', ct := fun ρ' => ∃ m', m' < m ∧ W m' ρ', bk := P.nx } ρ1 else P.nx ρ1
theorem ls_while {tc : TT} {t : TS} {pt : QT} {p : QS} (h0 : LiT X tc pt) (h1 : LiS X t p) : LiS X (tWhile tc t) (sWhile pt p) := by
  intro c hX σ F H ρ D P R a h
  obtain ⟨W, ⟨m, w0⟩, turn⟩ := h
  refine ⟨fun m σ' H' => ∃ F' ρ', Rel c F' H' σ' ρ' ∧ Same F F' ∧ W m ρ', ⟨m, F, ρ, R, Same.refl F, w0⟩, ?_⟩
  rintro m σ1 H1 ⟨F1, ρ1, R1, s1, w1⟩
  refine h0 c hX σ1 F1 H1 ρ1 _ _ R1 ?_ (turn m ρ1 w1)
  intro b ρ2 F2 H2 R2 s2 q
  cases b with
  | false => exact a.nx σ1 F2 H2 ρ2 R2 (tr s1 s2) q
  | true =>
    refine ⟨fun σ' H' => ∃ F' ρ', Rel c F' H' σ' ρ' ∧ Same F F' ∧ ∃ m', m' < m ∧ W m' ρ', fun σ' H' ⟨F', ρ', R', s', m', hm, w'⟩ => ⟨m', hm, F', ρ', R', s', w'⟩, ?_⟩
    refine h1 c hX σ1 F2 H2 ρ2 _ _ R2 ⟨?_, ?_, ?_, ?_⟩ q
    · intro σ' F' H' ρ' R' s' q'
      exact ⟨F', ρ', R', tr (tr s1 s2) s', q'⟩
    · intro σ' F' H' ρ' v r R' s' ro q'
      exact a.rt σ' F' H' ρ' v r R' (tr (tr s1 s2) s') ro q'
    · intro σ' F' H' ρ' R' s' q'
      exact a.nx σ' F' H' ρ' R' (tr (tr s1 s2) s') q'
    · intro σ' F' H' ρ' R' s' q'
      exact ⟨F', ρ', R', tr (tr s1 s2) s', q'⟩
/-! ### for -/
def ForP (ds : List D) (g : QG) (p : QS) (P : PEnds) (ρ : PSt) : Prop := ∃ W : Nat → PSt → Prop, W 0 ρ ∧ ∀ i ρ, W i ρ → (ds[i]? = none → P.nx ρ) ∧ ∀ d, ds[i]? = some d → g d ρ fun ρ1 => p { P with nx := W (i + 1), ct := W (i + 1), bk := P.nx } ρ1
def sFor (pi : QI) (g : QG) (p : QS) : QS := fun P ρ => pi ρ fun ds ρ1 => ForP ds g p P ρ1
theorem ls_for {wi : TI} {g : TG} {tb : TS} {pi : QI} {pg : QG} {p : QS} {t : List Nat} (h0 : LiI X wi pi) (h1 : LiG X g pg t) (h2 : LiS X tb p) : LiS X (tFor wi g tb) (sFor pi pg p) := by
  intro c hX σ F H ρ D P R a h
  refine h0 c hX σ F H ρ _ _ R ?_ h
  rintro ds ρ1 J F1 H1 R1 s1 wd ⟨W, w0, turn⟩
  refine ⟨fun i m σ' H' => m = ds.length - i ∧ ∃ F' ρ', Rel c F' H' σ' ρ' ∧ Same F1 F' ∧ W i ρ', ⟨_, rfl, F1, ρ1, R1, Same.refl F1, w0⟩, ?_⟩
  rintro i m σ2 H2 ⟨rfl, F2, ρ2, R2, s2, q2⟩
  obtain ⟨w1, w2⟩ := wd i c σ2 ρ2 F2 H2 hX s2 R2
  obtain ⟨t1, t2⟩ := turn i ρ2 q2
  cases e1 : ds[i]? with
  | none => exact Or.inl ⟨w2 e1, a.nx σ2 F2 H2 ρ2 R2 (tr s1 s2) (t1 e1)⟩
  | some d =>
    obtain ⟨go, yl⟩ := w1 d e1
    have hlt := (List.getElem?_eq_some_iff.mp e1).1
    refine Or.inr ⟨go, fun σ' H' => ∃ F' ρ', Rel c F' H' σ' ρ' ∧ Same F1 F' ∧ W (i + 1) ρ', fun σ' H' ⟨F', ρ', R', s', q'⟩ => ⟨ds.length - (i + 1), by omega, rfl, F', ρ', R', s', q'⟩, ?_⟩
    intro x H3 hy
    obtain ⟨_, F3, R3, s3, rp⟩ := yl x H3 hy
    refine h1 c hX σ2 F3 H3 ρ2 d x _ _ R3 (by rw [← hX] at rp; exact rp) ?_ (t2 d e1)
    intro ρ4 σ4 F4 H4 R4 s4 _ _ q4
    have sA : Same F F4 := tr (tr (tr s1 s2) s3) s4
    refine h2 c hX σ4 F4 H4 ρ4 _ _ R4 ⟨?_, ?_, ?_, ?_⟩ q4
    · intro σ' F' H' ρ' R' s' q'
      exact ⟨F', ρ', R', tr (tr (tr s2 s3) s4) s', q'⟩
    · intro σ' F' H' ρ' v r R' s' ro q'
      exact a.rt σ' F' H' ρ' v r R' (tr sA s') ro q'
    · intro σ' F' H' ρ' R' s' q'
      exact a.nx σ' F' H' ρ' R' (tr sA s') q'
    · intro σ' F' H' ρ' R' s' q'
      exact ⟨F', ρ', R', tr (tr (tr s2 s3) s4) s', q'⟩
/-! ### iterables -/
def iqSeq (pe : QE) : QI := fun ρ Q => qEsc pe ρ fun d ρ' => ∃ ds, d = .lst ds ∧ Q ds ρ'
def iqTup (pe : QE) : QI := fun ρ Q => qEsc pe ρ fun d ρ' => ∃ ds, d = .tup ds ∧ Q ds ρ'
theorem list_inj {c : Ct} {F H : Hp} {σ : L2.St} {ρ : PSt} (R : Rel c F H σ ρ) : True := trivial
theorem wd_list {a : Addr} {vs : List V} {ds : List D} {F : Hp} (h : SqL X.K F a vs) (r : RpL X.K F ds vs) : Wd X (Itl X.K a) F ds := by
  intro i c' σ ρ F1 H1 hX s R
  have hs := sqL_mono (tr s R.sub) h
  refine ⟨fun d e => ?_, fun e => ?_⟩
  · obtain ⟨v, e2, rp⟩ := r.get' e
    refine ⟨⟨vs, v, hs, e2⟩, ?_⟩
    rintro x H' ⟨rfl, hx⟩
    have ex := hx vs hs
    rw [e2] at ex
    obtain rfl := Option.some.inj ex
    exact ⟨Same.refl _, F1, R, Same.refl _, rp.mono s⟩
  · refine ⟨vs, hs, ?_⟩
    rw [r.len]
    exact List.getElem?_eq_none_iff.mp e
theorem wd_tup {a : Addr} {vs : List V} {ds : List D} {F : Hp} (h : SqT X.K F a vs) (r : RpL X.K F ds vs) : Wd X (Itt X.K a) F ds := by
  intro i c' σ ρ F1 H1 hX s R
  have hs := sqT_mono (tr s R.sub) h
  refine ⟨fun d e => ?_, fun e => ?_⟩
  · obtain ⟨v, e2, rp⟩ := r.get' e
    refine ⟨⟨vs, v, hs, e2⟩, ?_⟩
    rintro x H' ⟨rfl, hx⟩
    have ex := hx vs hs
    rw [e2] at ex
    obtain rfl := Option.some.inj ex
    exact ⟨Same.refl _, F1, R, Same.refl _, rp.mono s⟩
  · refine ⟨vs, hs, ?_⟩
    rw [r.len]
    exact List.getElem?_eq_none_iff.mp e
theorem wd_range {lo : Int} {n : Nat} {F : Hp} : Wd X (Itr lo n) F ((List.range n).map fun (i : Nat) => D.int (lo + i)) := by
  intro i c' σ ρ F1 H1 hX s R
  refine ⟨fun d e => ?_, fun e => ?_⟩
  · have hl := (List.getElem?_eq_some_iff.mp e).1
    rw [List.length_map, List.length_range] at hl
    rw [List.getElem?_map, List.getElem?_range hl] at e
    obtain rfl := Option.some.inj e
    refine ⟨hl, ?_⟩
    rintro x H' ⟨rfl, rfl⟩
    exact ⟨Same.refl _, F1, R, Same.refl _, rfl⟩
  · have := List.getElem?_eq_none_iff.mp e
    rw [List.length_map, List.length_range] at this
    exact this
theorem wd_str {z : Str} {F : Hp} : Wd X (Its z) F (z.cps.toList.map fun k => D.str ⟨#[k]⟩) := by
  intro i c' σ ρ F1 H1 hX s R
  refine ⟨fun d e => ?_, fun e => ?_⟩
  · have hl := (List.getElem?_eq_some_iff.mp e).1
    rw [List.length_map] at hl
    rw [List.getElem?_map, Array.getElem?_toList] at e
    refine ⟨(by show i < z.cps.size; simpa using hl), ?_⟩
    rintro x H' ⟨rfl, k, hk, rfl⟩
    rw [hk] at e
    obtain rfl := Option.some.inj e
    exact ⟨Same.refl _, F1, R, Same.refl _, rfl⟩
  · have := List.getElem?_eq_none_iff.mp e
    rw [List.length_map] at this
    show z.cps.size ≤ i
    simpa using this
theorem wd_enum {a : Addr} {vs : List V} {ds : List D} {F : Hp} (h : SqL X.K F a vs) (r : RpL X.K F ds vs) : Wd X (Ite X.K a) F (ds.zipIdx.map fun p => D.tup [.int (p.2 : Nat), p.1]) := by
  intro i c' σ ρ F1 H1 hX s R
  have hs := sqL_mono (tr s R.sub) h
  refine ⟨fun d e => ?_, fun e => ?_⟩
  · rw [List.getElem?_map, List.getElem?_zipIdx] at e
    cases e3 : ds[i]? with
    | none => rw [e3] at e; exact nomatch e
    | some d0 =>
      rw [e3] at e
      obtain rfl := Option.some.inj e
      obtain ⟨v, e2, rp⟩ := r.get' e3
      refine ⟨⟨vs, v, hs, e2⟩, ?_⟩
      rintro x H' ⟨T, y, rfl, nT, rfl, hx⟩
      have ex := hx vs hs
      rw [e2] at ex
      obtain rfl := Option.some.inj ex
      have sF : Same F1 (upd F1 T (.tup [.int (i : Nat), v])) := fun _ _ e => old_upd (R.fnone nT) e
      refine ⟨fun _ _ e => old_upd nT e, _, R.alloc nT trivial, sF, T, _, rfl, sqT_of upd_same, ?_⟩
      refine ⟨_, _, rfl, ?_, _, _, rfl, (rp.mono s).mono sF, rfl⟩
      show V.int _ = V.int _
      rw [Nat.zero_add]
  · refine ⟨vs, hs, ?_⟩
    rw [r.len]
    have := List.getElem?_eq_none_iff.mp e
    rw [List.length_map, List.length_zipIdx] at this
    exact this
theorem lii_list {te : TE} {pe : QE} (h1 : LiE X te pe) : LiI X (iList X.K te) (iqSeq pe) := by
  intro c hX σ F H ρ R Q3 Re hq hp
  refine li_esc h1 c hX σ F H ρ _ _ Re ?_ hp
  rintro d ρ' v F' H' R' s rp ⟨ds, rfl, q⟩
  subst hX
  obtain ⟨a, vs, rfl, sq, r⟩ := rp
  exact ⟨a, rfl, ⟨vs, sqL_of (R'.sub _ _ sq)⟩, hq ds ρ' _ F' H' R' s (wd_list (sqL_of sq) r) q⟩
theorem lii_tup {te : TE} {pe : QE} (h1 : LiE X te pe) : LiI X (iTup X.K te) (iqTup pe) := by
  intro c hX σ F H ρ R Q3 Re hq hp
  refine li_esc h1 c hX σ F H ρ _ _ Re ?_ hp
  rintro d ρ' v F' H' R' s rp ⟨ds, rfl, q⟩
  subst hX
  obtain ⟨a, vs, rfl, sq, r⟩ := rp
  exact ⟨a, rfl, ⟨vs, sqT_mono R'.sub sq⟩, hq ds ρ' _ F' H' R' s (wd_tup sq r) q⟩
def iqEnum (pa : QAD) : QI := fun ρ Q => pa ρ fun as ρ' => ∃ ds, as = [.lst ds] ∧ Q (ds.zipIdx.map fun p => D.tup [.int (p.2 : Nat), p.1]) ρ'
theorem lii_enum {ta : TA} {pa : QAD} (h1 : LiAD X ta pa) : LiI X (iEnum X.K ta) (iqEnum pa) := by
  intro c hX σ F H ρ R Q3 Re hq hp
  refine h1 c hX σ F H ρ _ _ Re ?_ hp
  rintro ds ρ' vs F' H' R' s rp ⟨es, rfl, q⟩
  subst hX
  obtain ⟨v, t, rfl, ⟨a, ws, rfl, sq, r⟩, e⟩ := rp
  obtain rfl : t = [] := e
  exact ⟨a, ws, rfl, sqL_of (R'.sub _ _ sq), hq _ ρ' _ F' H' R' s (wd_enum (sqL_of sq) r) q⟩
def iqRng1 (pa : QA) : QI := fun ρ Q => pa ρ fun as ρ' => ∃ j : Int, rdL ρ' as = some [.int j] ∧ -(2 ^ 62) ≤ j ∧ j < 2 ^ 62 ∧ Q ((List.range j.toNat).map fun (i : Nat) => D.int (0 + i)) ρ'
def iqRng2 (pa : QA) : QI := fun ρ Q => pa ρ fun as ρ' => ∃ i j : Int, rdL ρ' as = some [.int i, .int j] ∧ (-(2 ^ 62) ≤ i ∧ i < 2 ^ 62 ∧ -(2 ^ 62) ≤ j ∧ j < 2 ^ 62) ∧ Q ((List.range (j - i).toNat).map fun (k : Nat) => D.int (i + k)) ρ'
theorem lii_rng1 {ta : TA} {pa : QA} (h1 : LiA X ta pa) : LiI X (iRng1 ta) (iqRng1 pa) := by
  intro c hX σ F H ρ R Q3 Re hq hp
  refine h1 c hX σ F H ρ _ _ Re ?_ hp
  rintro rs ρ' vs F' H' R' s rv ⟨j, e, b1, b2, q⟩
  obtain ⟨v, t, rfl, r1, r2⟩ := rv.rn R' e
  obtain rfl : t = [] := r2
  obtain rfl : v = .int j := r1
  exact ⟨j, rfl, b1, b2, hq _ ρ' _ F' H' R' s wd_range q⟩
theorem lii_rng2 {ta : TA} {pa : QA} (h1 : LiA X ta pa) : LiI X (iRng2 ta) (iqRng2 pa) := by
  intro c hX σ F H ρ R Q3 Re hq hp
  refine h1 c hX σ F H ρ _ _ Re ?_ hp
  rintro rs ρ' vs F' H' R' s rv ⟨i, j, e, b, q⟩
  obtain ⟨v, t, rfl, r1, t2, r2, rfl, r3, r4⟩ := rv.rn R' e
  obtain rfl : r2 = [] := r4
  obtain rfl : v = .int i := r1
  obtain rfl : t2 = .int j := r3
  exact ⟨i, j, rfl, b, hq _ ρ' _ F' H' R' s wd_range q⟩
def iqStr (pe : QE) : QI := fun ρ Q => qEsc pe ρ fun d ρ' => ∃ z, d = .str z ∧ Q (z.cps.toList.map fun k => D.str ⟨#[k]⟩) ρ'
theorem lii_str {te : TE} {pe : QE} (h1 : LiE X te pe) : LiI X (iStr te) (iqStr pe) := by
  intro c hX σ F H ρ R Q3 Re hq hp
  refine li_esc h1 c hX σ F H ρ _ _ Re ?_ hp
  rintro d ρ' v F' H' R' s rp ⟨z, rfl, q⟩
  exact ⟨z, rp, hq _ ρ' _ F' H' R' s wd_str q⟩
end
end L3
/-! Plain readings: comprehensions, calls, whole defs. -/
namespace L3
open PySem PySem.Spec PyProof.Rows L2 TB LamX
def wipeP (ρ : PSt) : List Nat → PSt
  | [] => ρ
  | v :: vs => (wipeP ρ vs).set v .un
def dropO : Option PV → PV
  | some (.val d) => .val d
  | _ => .un
def backP (ρ ρ' : PSt) : List Nat → PSt
  | [] => ρ'
  | v :: vs => (backP ρ ρ' vs).set v (dropO ρ[v]?)
theorem wipeP_len (ρ : PSt) : ∀ vs, (wipeP ρ vs).length = ρ.length
  | [] => rfl
  | v :: vs => by rw [wipeP, List.length_set, wipeP_len ρ vs]
theorem backP_len (ρ ρ' : PSt) : ∀ vs, (backP ρ ρ' vs).length = ρ'.length
  | [] => rfl
  | v :: vs => by rw [backP, List.length_set, backP_len ρ ρ' vs]
theorem wipeP_get {ρ : PSt} {i : Nat} {pv : PV} : ∀ {vs : List Nat}, (wipeP ρ vs)[i]? = some pv → pv = .un ∨ (ρ[i]? = some pv ∧ i ∉ vs)
  | [], h => Or.inr ⟨h, by simp⟩
  | v :: vs, h => by
    unfold wipeP at h
    by_cases hi : v = i
    · subst hi
      by_cases hv : v < (wipeP ρ vs).length
      · rw [List.getElem?_set_self hv] at h
        exact Or.inl (Option.some.inj h).symm
      · rw [List.getElem?_eq_none (by simpa using hv)] at h; cases h
    · rw [List.getElem?_set_ne hi] at h
      rcases wipeP_get h with e | ⟨h1, h2⟩
      · exact Or.inl e
      · exact Or.inr ⟨h1, by simp only [List.mem_cons, not_or]; exact ⟨fun e => hi e.symm, h2⟩⟩
theorem backP_get {ρ ρ' : PSt} {i : Nat} {pv : PV} : ∀ {vs : List Nat}, (backP ρ ρ' vs)[i]? = some pv → (i ∈ vs ∧ pv = dropO ρ[i]?) ∨ (ρ'[i]? = some pv ∧ i ∉ vs)
  | [], h => Or.inr ⟨h, by simp⟩
  | v :: vs, h => by
    unfold backP at h
    by_cases hi : v = i
    · subst hi
      by_cases hv : v < (backP ρ ρ' vs).length
      · rw [List.getElem?_set_self hv] at h
        exact Or.inl ⟨List.mem_cons_self, (Option.some.inj h).symm⟩
      · rw [List.getElem?_eq_none (by simpa using hv)] at h; cases h
    · rw [List.getElem?_set_ne hi] at h
      rcases backP_get h with ⟨e1, e2⟩ | ⟨h1, h2⟩
      · exact Or.inl ⟨List.mem_cons_of_mem _ e1, e2⟩
      · exact Or.inr ⟨h1, by simp only [List.mem_cons, not_or]; exact ⟨fun e => hi e.symm, h2⟩⟩
theorem wipe_out' {σ : L2.St} {i : Nat} : ∀ {vs : List Nat}, i ∉ vs → (wipe σ vs)[i]? = σ[i]?
  | [], _ => rfl
  | v :: vs, h => by
    unfold wipe
    rw [List.getElem?_set_ne (fun e => h (by rw [e]; exact List.mem_cons_self))]
    exact wipe_out' (fun e => h (List.mem_cons_of_mem _ e))
theorem wipe_in {σ : L2.St} {i : Nat} : ∀ {vs : List Nat}, i ∈ vs → i < σ.length → (wipe σ vs)[i]? = some none
  | [], h, _ => nomatch h
  | v :: vs, h, hl => by
    unfold wipe
    by_cases e : v = i
    · subst e
      rw [List.getElem?_set_self (by rw [wipe_length]; exact hl)]
    · rw [List.getElem?_set_ne e]
      exact wipe_in ((List.mem_cons.mp h).resolve_left (fun z => e z.symm)) hl
/-- slots apart from vs alike -/
theorem wipe_eq {σ σ' : L2.St} {vs : List Nat} (hl : σ'.length = σ.length) (h : ∀ i, i ∉ vs → σ'[i]? = (wipe σ vs)[i]?) : wipe σ' vs = wipe σ vs := by
  apply List.ext_getElem?
  intro i
  by_cases hi : i ∈ vs
  · by_cases hb : i < σ.length
    · rw [wipe_in hi (by rw [hl]; exact hb), wipe_in hi hb]
    · rw [List.getElem?_eq_none (by rw [wipe_length, hl]; omega), List.getElem?_eq_none (by rw [wipe_length]; omega)]
  · rw [wipe_out' hi]
    exact h i hi
section
variable {X : Sx} {c : Ct} {F H F' H' : Hp} {σ : L2.St} {ρ : PSt}
theorem Rel.wipe (R : Rel c F H σ ρ) (vs : List Nat) : Rel c F H (L2.wipe σ vs) (wipeP ρ vs) := by
  refine ⟨by rw [wipe_length, wipeP_len]; exact R.len, R.sub, fun i pv h => ?_, fun i j f1 o1 f2 o2 p h1 h2 e1 e2 => ?_, R.nt, R.tab, R.tabF, R.fr, R.kp, R.dom, R.nw, R.new⟩
  · rcases wipeP_get h with rfl | ⟨h1, h2⟩
    · exact trivial
    · rw [wipe_out' h2]
      exact R.slot i pv h1
  · rcases wipeP_get h1 with e | ⟨h3, h4⟩
    · exact nomatch e
    · rcases wipeP_get h2 with e | ⟨h5, h6⟩
      · exact nomatch e
      · rw [wipe_out' h4] at e1
        rw [wipe_out' h6] at e2
        exact R.sep i j _ _ _ _ p h3 h5 e1 e2
theorem Rel.backS {σ2 : L2.St} {ρ2 : PSt} {vs : List Nat} (R : Rel c F H σ ρ) (s : Same F F') (R2 : Rel c F' H' σ2 ρ2) (hw : L2.wipe σ2 vs = L2.wipe σ vs) : Rel c F' H' σ (backP ρ ρ2 vs) := by
  have hl : σ2.length = σ.length := by
    have := congrArg List.length hw
    rw [wipe_length, wipe_length] at this
    exact this
  have hs : ∀ i, i ∉ vs → σ2[i]? = σ[i]? := fun i hi => by
    have : (L2.wipe σ2 vs)[i]? = (L2.wipe σ vs)[i]? := by rw [hw]
    rw [wipe_out' hi, wipe_out' hi] at this
    exact this
  refine ⟨by rw [backP_len, ← R2.len]; exact hl.symm, R2.sub, fun i pv h => ?_, fun i j f1 o1 f2 o2 p h1 h2 e1 e2 => ?_, R2.nt, R2.tab, R2.tabF, R2.fr, R2.kp, R2.dom, R2.nw, R2.new⟩
  · rcases backP_get h with ⟨hi, rfl⟩ | ⟨h1, h2⟩
    · cases e : ρ[i]? with
      | none => exact trivial
      | some q =>
        match q, e with
        | .un, _ => exact trivial
        | .own _ _, _ => exact trivial
        | .val d, e =>
          obtain ⟨v, e1, r⟩ := R.slot i _ e
          exact ⟨v, e1, r.mono s⟩
    · rw [← hs i h2]
      exact R2.slot i pv h1
  · have g : ∀ (i : Nat) (f : Bool) (o : List D), (backP ρ ρ2 vs)[i]? = some (PV.own f o) → ρ2[i]? = some (PV.own f o) ∧ i ∉ vs := by
      intro i f o h
      rcases backP_get h with ⟨hi, e⟩ | z
      · cases e2 : ρ[i]? with
        | none => rw [e2] at e; exact nomatch e
        | some q =>
          rw [e2] at e
          cases q <;> exact nomatch e
      · exact z
    obtain ⟨g1, n1⟩ := g _ _ _ h1
    obtain ⟨g2, n2⟩ := g _ _ _ h2
    rw [← hs i n1] at e1
    rw [← hs j n2] at e2
    exact R2.sep i j _ _ _ _ p g1 g2 e1 e2
/-! ### comprehensions -/
def LcP (ds : List D) (g : QG) (pt : QT) (pe : QD) (vs : List Nat) (ρ0 : PSt) (Q : List D → PSt → Prop) : Prop := ∃ W : Nat → List D → PSt → Prop, W 0 [] ρ0 ∧ ∀ i acc ρ, W i acc ρ → (ds[i]? = none → Q acc ρ) ∧
  ∀ d, ds[i]? = some d → g d (wipeP ρ vs) fun ρ2 => pt ρ2 fun b ρ3 => if b = true then pe ρ3 fun e ρ4 => acc.length < sizeLine ∧ W (i + 1) (acc ++ [e]) (backP ρ ρ4 vs) else W (i + 1) acc (backP ρ ρ3 vs)
def qLc (pi : QI) (g : QG) (pt : QT) (pe : QD) (vs : List Nat) : QN := fun ρ Q => pi ρ fun ds ρ1 => LcP ds g pt pe vs ρ1 Q
theorem li_lc {wi : TI} {g : TG} {tt : TT} {te : TE} {vs : List Nat} {pi : QI} {pg : QG} {pt : QT} {pe : QD} {t : List Nat} (h0 : LiI X wi pi) (h1 : LiG X g pg t) (h2 : LiT X tt pt) (h3 : LiD X te pe) (ht : ∀ i ∈ t, i ∈ vs) : LiN X (tLc wi g tt te vs) (qLc pi pg pt pe vs) := by
  intro c hX σ F H ρ Q Q3 R hq h
  refine h0 c hX σ F H ρ _ _ R ?_ h
  rintro ds ρ1 J F1 H1 R1 s1 wd ⟨W, w0, turn⟩
  intro A nA
  obtain ⟨RA, nwA⟩ := NewL.made (vs := []) (ds := []) R1 nA rfl
  refine ⟨fun i m H' => m = ds.length - i ∧ ∃ F' ρ' acc, Rel c F' H' σ ρ' ∧ Same F1 F' ∧ NewL c F' H' σ ρ' A acc ∧ W i acc ρ', ⟨_, rfl, F1, ρ1, [], RA, Same.refl F1, nwA, w0⟩, ?_⟩
  rintro i m H2 ⟨rfl, F2, ρ2, acc, R2, s2, n2, w2⟩
  have nobA : A ∉ ownB σ ρ2 := by
    intro z
    obtain ⟨j, f, o, g1, g2⟩ := mem_ownB.mp z
    exact n2.o j f o g1 g2
  have R2h := R2.here
  have hXh : (c.at F2 H2 (ownB σ ρ2)).X = X := hX
  obtain ⟨ws, hA2, rA2⟩ := n2.l
  have ntb : NoTb c A := R2.notab hA2 (fun ps => by simp)
  obtain ⟨d1, d2⟩ := wd i _ σ ρ2 F2 H2 hXh s2 R2h
  obtain ⟨t1, t2⟩ := turn i acc ρ2 w2
  cases e1 : ds[i]? with
  | none => exact Or.inl ⟨d2 e1, hq acc ρ2 A F2 H2 R2 (tr s1 s2) n2 (t1 e1)⟩
  | some d =>
    obtain ⟨go, yl⟩ := d1 d e1
    have hlt := (List.getElem?_eq_some_iff.mp e1).1
    refine Or.inr ⟨go, fun H' => ∃ F' ρ' acc, Rel c F' H' σ ρ' ∧ Same F1 F' ∧ NewL c F' H' σ ρ' A acc ∧ W (i + 1) acc ρ', fun H' ⟨F', ρ', acc', R', s', n', w'⟩ => ⟨ds.length - (i + 1), by omega, rfl, F', ρ', acc', R', s', n', w'⟩, ?_⟩
    intro x H3 hy
    obtain ⟨sH3, F3, R3, s3, rp⟩ := yl x H3 hy
    have Rw := R3.wipe vs
    -- what holds behind an evaluation
    have after : ∀ {F4 H4 : Hp} {σ4 : L2.St} {ρ4 : PSt}, Rel (c.at F2 H2 (ownB σ ρ2)) F4 H4 σ4 ρ4 → L2.wipe σ4 vs = L2.wipe σ vs → Rel c F4 H4 σ (backP ρ2 ρ4 vs) ∧ NewL c F4 H4 σ (backP ρ2 ρ4 vs) A acc ∧ Same F2 F4 := by
      intro F4 H4 σ4 ρ4 R4 hw
      have sF : Same F2 F4 := R4.fr
      have RR := R2.backS sF (R2.trans R4) hw
      have hA4 : H4 A = some (.lst ws) := R4.kp A _ hA2 nobA ntb
      refine ⟨RR, ⟨⟨ws, hA4, rA2.mono sF⟩, ?_, n2.n, n2.b, fun j f o hj ej => ?_⟩, sF⟩
      · cases e : F4 A with
        | none => rfl
        | some o =>
          rcases R4.nw A o e with z | z | ⟨z, _⟩ | z
          · have z2 : F2 A = some o := z
            rw [n2.f] at z2
            exact nomatch z2
          · have z2 : H2 A = none := z
            rw [hA2] at z2
            exact nomatch z2
          · exact absurd z nobA
          · have z2 := R4.sub _ _ e
            rw [hA4] at z2
            cases z2
            exact z.elim
      · rcases backP_get hj with ⟨_, e⟩ | ⟨h4, h5⟩
        · cases e2 : ρ2[j]? with
          | none => rw [e2] at e; exact nomatch e
          | some q =>
            rw [e2] at e
            cases q <;> exact nomatch e
        · have e4 : σ4[j]? = some (some (.ref A)) := by
            have : (L2.wipe σ4 vs)[j]? = (L2.wipe σ vs)[j]? := by rw [hw]
            rw [wipe_out' h5, wipe_out' h5] at this
            rw [this]
            exact ej
          obtain ⟨p, us, ep, _, _, _, _, hb⟩ := R4.slot j _ h4
          rw [e4] at ep
          obtain rfl : A = p := by injection ep with ep; injection ep with ep; injection ep
          rcases hb with z | z
          · exact nobA z
          · have z2 : H2 A = none := z
            rw [hA2] at z2
            exact nomatch z2
    refine h1 _ hXh (L2.wipe σ vs) F3 H3 (wipeP ρ2 vs) d x _ _ Rw (by rw [← hX] at rp; exact rp) ?_ (t2 d e1)
    intro ρ4 σ4 F4 H4 R4 s4 l4 o4 q4
    have hw4 : L2.wipe σ4 vs = L2.wipe σ vs := by
      refine wipe_eq (by rw [l4, wipe_length]) (fun j hj => ?_)
      rw [o4 j (fun z => hj (ht j z))]
    refine ⟨hw4, ?_⟩
    refine h2 _ hXh σ4 F4 H4 ρ4 _ _ R4 ?_ q4
    intro b ρ5 F5 H5 R5 s5 q5
    cases b with
    | false =>
      obtain ⟨R6, n6, s6⟩ := after R5 hw4
      exact ⟨F5, _, acc, R6, tr s2 s6, n6, q5⟩
    | true =>
      refine h3 _ hXh σ4 F5 H5 ρ5 _ _ R5 ?_ q5
      rintro e ρ6 v F6 H6 R6 s6 rv ⟨hz, q6⟩
      obtain ⟨R7, n7, s7⟩ := after R6 hw4
      obtain ⟨us, hA7, rA7⟩ := n7.l
      have rA8 : RpL c.K F6 (acc ++ [e]) (us ++ [v]) := rA7.app ⟨v, [], rfl, rv, rfl⟩
      refine ⟨us, hA7, by rw [rA7.len]; exact hz, F6, _, acc ++ [e], R7.mutH hA7 n7.f n7.b2 n7.o, tr s2 s7, ⟨⟨us ++ [v], upd_same, rA8⟩, n7.f, n7.n, n7.b, n7.o⟩, q6⟩
theorem LcP_pure {ds : List D} {g : QG} {pt : QT} {pe : QD} {vs : List Nat} {ρ0 : PSt} {Q : List D → PSt → Prop} (f : D → Option D) (hz : ds.length < sizeLine)
    (hs : ∀ d ∈ ds, ∀ (Y : D → PSt → Prop) (N : PSt → Prop), (∀ e ρ4, f d = some e → backP ρ0 ρ4 vs = ρ0 → Y e ρ4) → (∀ ρ3, f d = none → backP ρ0 ρ3 vs = ρ0 → N ρ3) → g d (wipeP ρ0 vs) fun ρ2 => pt ρ2 fun b ρ3 => if b = true then pe ρ3 Y else N ρ3)
    (hq : Q (ds.filterMap f) ρ0) : LcP ds g pt pe vs ρ0 Q := by
  refine ⟨fun i acc ρ => ρ = ρ0 ∧ acc = (ds.take i).filterMap f, ⟨rfl, rfl⟩, ?_⟩
  rintro i acc ρ ⟨rfl, rfl⟩
  refine ⟨fun e => ?_, fun d e => ?_⟩
  · rw [List.take_of_length_le (List.getElem?_eq_none_iff.mp e)]
    exact hq
  · refine hs d (List.mem_of_getElem? e) _ _ (fun y ρ4 hf hb => ⟨?_, hb, ?_⟩) (fun ρ3 hf hb => ⟨hb, ?_⟩)
    · have h1 := List.length_filterMap_le f (ds.take i)
      rw [List.length_take] at h1
      omega
    · rw [take_next e, List.filterMap_append]
      simp [hf]
    · rw [take_next e, List.filterMap_append]
      simp [hf]
/-! ### calls -/
abbrev PSp := List D → (Rs → Option (List D) → Prop) → Prop
def ioB (io : Option Nat) (vs : List V) : List Addr := match io with
  | none => []
  | some j => match vs[j]? with
    | some (.ref p) => [p]
    | _ => []
structure Entry (X : Sx) (io : Option Nat) (F H : Hp) (vs : List V) (ds : List D) : Prop where
  sub : Same F H
  nt : NoT H
  tab : ∀ x ∈ X.tb, TabS H x.1 x.2
  tabF : ∀ x ∈ X.tb, F x.1 = none
  len : vs.length = ds.length
  arg : ∀ (j : Nat) (d : D) (v : V), ds[j]? = some d → vs[j]? = some v → io ≠ some j → Rp X.K F d v
  ioA : ∀ j, io = some j → ∃ p ws es, vs[j]? = some (.ref p) ∧ ds[j]? = some (.lst es) ∧ F p = none ∧ H p = some (.lst ws) ∧ RpL X.K F es ws
def RsX (X : Sx) (H F' H' : Hp) : Rs → V → Prop
  | .val d, v => Rp X.K F' d v
  | .new es, v => ∃ p ws, v = .ref p ∧ F' p = none ∧ H p = none ∧ H' p = some (.lst ws) ∧ RpL X.K F' es ws
structure Exit (X : Sx) (io : Option Nat) (F H : Hp) (vs : List V) (F' H' : Hp) (r : Rs) (out : Option (List D)) (v : V) : Prop where
  step : Step X (ioB io vs) F H F' H'
  res : RsX X H F' H' r v
  out : ∀ j p, io = some j → vs[j]? = some (.ref p) → ∃ es ws, out = some es ∧ H' p = some (.lst ws) ∧ RpL X.K F' es ws
def lsp (X : Sx) (io : Option Nat) (P : PSp) : Sp := fun vs H Q _ => ∃ F ds Q3, Entry X io F H vs ds ∧ P ds Q3 ∧ ∀ r out v F' H', Exit X io F H vs F' H' r out v → Q3 r out → Q v H'
def st0 (N : List Str) (ds : List D) : PSt := ds.map PV.val ++ List.replicate (N.length - ds.length) PV.un
def own0 (ρ : PSt) (j : Nat) : Option D → PSt
  | some (.lst es) => ρ.set j (.own false es)
  | _ => ρ
def start3 (N : List Str) (ds : List D) : Option Nat → PSt
  | none => st0 N ds
  | some j => own0 (st0 N ds) j ds[j]?
def endO (Q : Option (List D) → Prop) : Option PV → Prop
  | some (.own false es) => Q (some es)
  | _ => False
def endP (io : Option Nat) (r : Rs) (ρ : PSt) (Q3 : Rs → Option (List D) → Prop) : Prop := match io with
  | none => Q3 r none
  | some j => endO (Q3 r) ρ[j]?
def ends3 (io : Option Nat) (Q3 : Rs → Option (List D) → Prop) : PEnds := { nx := fun ρ => endP io (.val .non) ρ Q3, rt := fun r ρ => endP io r ρ Q3 }
theorem Rel.empty {N : Addr → Prop} {I I' : List Addr} {F0 H0 : Hp} {B0 : List Addr} (R : Rel ⟨X, N, I, F0, H0, B0⟩ F H σ ρ) : Rel ⟨X, N, I', F0, H0, B0⟩ F H [] [] := ⟨rfl, R.sub, fun i pv h => by simp at h, fun i j f1 o1 f2 o2 p h => by simp at h, R.nt, R.tab, R.tabF, R.fr, R.kp, R.dom, R.nw, R.new⟩
theorem start_get {N : List Str} {vs : List V} {j : Nat} (h : j < vs.length) : (L2.start N vs)[j]? = (vs[j]?).map some := by
  unfold L2.start
  rw [List.getElem?_append_left (by rw [List.length_map]; exact h), List.getElem?_map]
theorem st0_get {N : List Str} {ds : List D} {j : Nat} {pv : PV} (h : (st0 N ds)[j]? = some pv) : pv = .un ∨ ∃ d, ds[j]? = some d ∧ pv = .val d := by
  unfold st0 at h
  by_cases hj : j < ds.length
  · rw [List.getElem?_append_left (by rw [List.length_map]; exact hj), List.getElem?_map] at h
    rw [List.getElem?_eq_getElem hj] at h ⊢
    exact Or.inr ⟨_, rfl, (Option.some.inj h).symm⟩
  · rw [List.getElem?_append_right (by rw [List.length_map]; omega)] at h
    exact Or.inl (List.eq_of_mem_replicate (List.mem_of_getElem? h))
theorem entry_rel {N : List Str} {io : Option Nat} {vs : List V} {ds : List D} (e : Entry X io F H vs ds) : Rel ⟨X, fun p => H p = none, ioB io vs, F, H, ioB io vs⟩ F H (L2.start N vs) (start3 N ds io) := by
  have l0 : (L2.start N vs).length = (st0 N ds).length := by
    unfold L2.start st0
    rw [List.length_append, List.length_append, List.length_map, List.length_map, List.length_replicate, List.length_replicate, e.len]
  have l1 : (start3 N ds io).length = (st0 N ds).length := by
    match io with
    | none => rfl
    | some j =>
      show (own0 (st0 N ds) j ds[j]?).length = _
      cases h : ds[j]? with
      | none => rfl
      | some d =>
        cases d <;> first
          | rfl
          | exact List.length_set
  have get : ∀ (j : Nat) (pv : PV), (start3 N ds io)[j]? = some pv → pv = .un ∨ (∃ d, ds[j]? = some d ∧ pv = .val d ∧ io ≠ some j) ∨ ∃ es, io = some j ∧ ds[j]? = some (.lst es) ∧ pv = .own false es := by
    intro j pv h
    match hio : io with
    | none =>
      rcases st0_get h with z | ⟨d, z1, z2⟩
      · exact Or.inl z
      · exact Or.inr (Or.inl ⟨d, z1, z2, (fun q => nomatch q)⟩)
    | some k =>
      obtain ⟨p, ws, es, v1, v2, _⟩ := e.ioA k rfl
      have h2 : (own0 (st0 N ds) k ds[k]?)[j]? = some pv := h
      rw [v2] at h2
      have h3 : ((st0 N ds).set k (.own false es))[j]? = some pv := h2
      by_cases q : k = j
      · subst q
        have hl := (List.getElem?_eq_some_iff.mp h3).1
        rw [List.length_set] at hl
        rw [List.getElem?_set_self hl] at h3
        exact Or.inr (Or.inr ⟨es, rfl, v2, (Option.some.inj h3).symm⟩)
      · rw [List.getElem?_set_ne q] at h3
        rcases st0_get h3 with z | ⟨d, z1, z2⟩
        · exact Or.inl z
        · exact Or.inr (Or.inl ⟨d, z1, z2, fun w => q (Option.some.inj w)⟩)
  have vget : ∀ (j : Nat) (d : D), ds[j]? = some d → ∃ v, vs[j]? = some v ∧ (L2.start N vs)[j]? = some (some v) := by
    intro j d h
    have hj : j < vs.length := by
      rw [e.len]
      exact (List.getElem?_eq_some_iff.mp h).1
    refine ⟨vs[j], List.getElem?_eq_getElem hj, ?_⟩
    rw [start_get hj, List.getElem?_eq_getElem hj]
    rfl
  refine ⟨l0.trans l1.symm, e.sub, fun j pv h => ?_, fun i j f1 o1 f2 o2 p h1 h2 e1 e2 => ?_, e.nt, e.tab, e.tabF, Same.refl F, fun b o z _ _ => z, fun b z => z, fun b o z => Or.inl z, fun p z => z⟩
  · rcases get j pv h with rfl | ⟨d, z1, rfl, z3⟩ | ⟨es, z1, z2, rfl⟩
    · exact trivial
    · obtain ⟨v, v1, v2⟩ := vget j d z1
      exact ⟨v, v2, e.arg j d v z1 v1 z3⟩
    · obtain ⟨p, ws, es', v1, v2, v3, v4, v5⟩ := e.ioA j z1
      rw [z2] at v2
      obtain rfl : es = es' := by injection v2 with v2; injection v2
      obtain ⟨v, w1, w2⟩ := vget j _ z2
      rw [v1] at w1
      obtain rfl := Option.some.inj w1
      have hin : p ∈ ioB io vs := by
        subst z1
        unfold ioB
        simp only [v1]
        exact List.mem_singleton.mpr rfl
      exact ⟨p, ws, w2, v3, v4, v5, ⟨(fun q => nomatch q), fun _ => hin⟩, Or.inl hin⟩
  · rcases get i _ h1 with z | ⟨d, _, z, _⟩ | ⟨es, z1, _, _⟩
    · exact nomatch z
    · exact nomatch z
    · rcases get j _ h2 with z | ⟨d, _, z, _⟩ | ⟨es', z3, _, _⟩
      · exact nomatch z
      · exact nomatch z
      · rw [z1] at z3
        exact Option.some.inj z3
/-- a whole def -/
theorem run3 {t : TS} {p : QS} {N : List Str} {io : Option Nat} {P : PSp} {vs : List V} {Q : VK} {E : XK} (hl : LiS X t p) (hp : ∀ ds Q3, P ds Q3 → p (ends3 io Q3) (start3 N ds io)) (h : lsp X io P vs H Q E) : t { nx := fun _ H' => Q .non H', rt := Q } (L2.start N vs) H := by
  obtain ⟨F, ds, Q3, en, hP, hQ⟩ := h
  have R := entry_rel (N := N) en
  have fin : ∀ σ' F' H' ρ' v r, Rel ⟨X, fun p => H p = none, ioB io vs, F, H, ioB io vs⟩ F' H' σ' ρ' → RsOk ⟨X, fun p => H p = none, ioB io vs, F, H, ioB io vs⟩ F' H' σ' ρ' r v → endP io r ρ' Q3 → Q v H' := by
    intro σ' F' H' ρ' v r R' ro q
    have res : RsX X H F' H' r v := by
      match r, ro with
      | .val d, ro => exact ro
      | .new es, ⟨p, e, n⟩ =>
        obtain ⟨ws, h1, h2⟩ := n.l
        exact ⟨p, ws, e, n.f, n.n, h1, h2⟩
    cases hio : io with
    | none =>
      subst hio
      exact hQ r none v F' H' ⟨R'.empty, res, (fun j p z => nomatch z)⟩ q
    | some j =>
      subst hio
      have q2 : endO (Q3 r) ρ'[j]? := q
      cases hj : ρ'[j]? with
      | none => rw [hj] at q2; exact q2.elim
      | some pv =>
        rw [hj] at q2
        match pv, hj, q2 with
        | .un, _, q2 => exact q2.elim
        | .val _, _, q2 => exact q2.elim
        | .own true _, _, q2 => exact q2.elim
        | .own false es, hj, q2 =>
          refine hQ r (some es) v F' H' ⟨R'.empty, res, fun j' p z1 z2 => ?_⟩ q2
          obtain rfl : j = j' := Option.some.inj z1
          obtain ⟨p', ws, e1, e2, e3, e4, e5, _⟩ := R'.slot j _ hj
          have e6 : p' ∈ ioB (some j) vs := e5.2 rfl
          unfold ioB at e6
          simp only [z2] at e6
          obtain rfl := List.mem_singleton.mp e6
          exact ⟨es, ws, rfl, e3, e4⟩
  refine hl _ rfl (L2.start N vs) F H (start3 N ds io) _ (ends3 io Q3) R ⟨?_, ?_, fun _ _ _ _ _ _ z => z.elim, fun _ _ _ _ _ _ z => z.elim⟩ (hp ds Q3 hP)
  · intro σ' F' H' ρ' R' _ q
    exact fin σ' F' H' ρ' .non (.val .non) R' rfl q
  · intro σ' F' H' ρ' v r R' _ ro q
    exact fin σ' F' H' ρ' v r R' ro q
theorem lsp_len {io : Option Nat} {P : PSp} {n : Nat} (h : ∀ ds Q3, P ds Q3 → ds.length = n) : ∀ vs H Q E, lsp X io P vs H Q E → vs.length = n := by
  rintro vs H Q E ⟨F, ds, Q3, en, hP, _⟩
  rw [en.len]
  exact h ds Q3 hP
/-! ### a call, its end -/
def isCell : Rv → Bool
  | .cell _ => true
  | .val _ => false
def resOk (hc : Bool) : Rs → (D → Prop) → Prop
  | .val d, Q => (hc = false ∨ d.flat = true) ∧ Q d
  | .new es, Q => (hc = false ∨ ∀ e ∈ es, e.flat = true) ∧ Q (.lst es)
def newOk (hc : Bool) : Rs → (List D → Prop) → Prop
  | .val d, Q => False
  | .new es, Q => (hc = false ∨ ∀ e ∈ es, e.flat = true) ∧ Q es
def qCall (P : PSp) (pa : QA) : QE := fun ρ Q => pa ρ fun rs ρ1 => some1 (fun ds => P ds fun r _ => resOk (rs.any isCell) r fun d => Q (.val d) ρ1) (rdL ρ1 rs)
def qCallN (P : PSp) (pa : QA) : QN := fun ρ Q => pa ρ fun rs ρ1 => some1 (fun ds => P ds fun r _ => newOk (rs.any isCell) r fun d => Q d ρ1) (rdL ρ1 rs)
/-- all own lists as they stand, for a while -/
def snap (F H : Hp) (σ : L2.St) (ρ : PSt) : Hp := open Classical in fun b => if b ∈ ownB σ ρ then H b else F b
theorem snap_sub (R : Rel c F H σ ρ) : Same F (snap F H σ ρ) := by
  intro b o e
  unfold snap
  split
  · exact R.sub _ _ e
  · exact e
theorem snap_le (R : Rel c F H σ ρ) : Same (snap F H σ ρ) H := by
  intro b o e
  unfold snap at e
  split at e
  · exact e
  · exact R.sub _ _ e
theorem snap_rp (R : Rel c F H σ ρ) {r : Rv} {v : V} {d : D} (h : RV c F σ r v) (e : rdR ρ r = some d) : Rp c.K (snap F H σ ρ) d v := by
  match r, h, e with
  | .val d', h, e =>
    obtain rfl : d' = d := Option.some.inj e
    exact Rp.mono (snap_sub R) h
  | .cell i, h, e =>
    have h2 : σ[i]? = some (some v) := h
    have e2 : rdP ρ[i]? = some d := e
    cases hi : ρ[i]? with
    | none => rw [hi] at e2; exact nomatch e2
    | some pv =>
      rw [hi] at e2
      match pv, hi, e2 with
      | .un, _, e2 => exact nomatch e2
      | .val d', hi, e2 =>
        obtain rfl : d' = d := Option.some.inj e2
        obtain ⟨w, e3, r⟩ := R.slot i _ hi
        rw [h2] at e3
        obtain rfl : v = w := Option.some.inj (Option.some.inj e3)
        exact r.mono (snap_sub R)
      | .own f ds, hi, e2 =>
        obtain rfl : D.lst ds = d := Option.some.inj e2
        obtain ⟨p, vs, e3, hF, hp, hr, _⟩ := R.slot i _ hi
        rw [h2] at e3
        obtain rfl : v = .ref p := Option.some.inj (Option.some.inj e3)
        refine ⟨p, vs, rfl, ?_, hr.mono (snap_sub R)⟩
        unfold snap
        rw [if_pos (mem_ownB.mpr ⟨i, f, ds, hi, h2⟩)]
        exact hp
theorem rdL_len {ρ : PSt} : ∀ {rs : List Rv} {ds : List D}, rdL ρ rs = some ds → rs.length = ds.length
  | [], ds, e => by
    obtain rfl : [] = ds := Option.some.inj e
    rfl
  | r :: rs, ds, e => by
    have e : cons2 (rdR ρ r) (rdL ρ rs) = some ds := e
    cases h1 : rdR ρ r with
    | none => rw [h1] at e; exact nomatch e
    | some d =>
      cases h2 : rdL ρ rs with
      | none => rw [h1, h2] at e; exact nomatch e
      | some ds' =>
        rw [h1, h2] at e
        obtain rfl : d :: ds' = ds := Option.some.inj e
        rw [List.length_cons, List.length_cons, rdL_len h2]
theorem rdL_get {ρ : PSt} : ∀ {rs : List Rv} {vs : List V} {ds : List D} {j : Nat} {d : D} {v : V}, rdL ρ rs = some ds → RVL c F σ rs vs → ds[j]? = some d → vs[j]? = some v → ∃ r, rs[j]? = some r ∧ rdR ρ r = some d ∧ RV c F σ r v
  | [], vs, ds, j, d, v, e, h, h1, h2 => by
    obtain rfl : [] = ds := Option.some.inj e
    simp at h1
  | r :: rs, vs, ds, j, d, v, e, h, h1, h2 => by
    obtain ⟨w, t, rfl, q, k⟩ := h
    have e : cons2 (rdR ρ r) (rdL ρ rs) = some ds := e
    cases g1 : rdR ρ r with
    | none => rw [g1] at e; exact nomatch e
    | some d' =>
      cases g2 : rdL ρ rs with
      | none => rw [g1, g2] at e; exact nomatch e
      | some ds' =>
        rw [g1, g2] at e
        obtain rfl : d' :: ds' = ds := Option.some.inj e
        cases j with
        | zero =>
          obtain rfl : d' = d := by simpa using h1
          obtain rfl : w = v := by simpa using h2
          exact ⟨r, rfl, g1, q⟩
        | succ j => exact rdL_get (j := j) g2 k (by simpa using h1) (by simpa using h2)
theorem RVL.len : ∀ {rs : List Rv} {vs : List V}, RVL c F σ rs vs → vs.length = rs.length
  | [], vs, h => by
    obtain rfl : vs = [] := h
    rfl
  | r :: rs, vs, h => by
    obtain ⟨w, t, rfl, q, k⟩ := h
    rw [List.length_cons, List.length_cons, RVL.len k]
theorem noCell : ∀ {rs : List Rv}, rs.any isCell = false → ∀ r ∈ rs, isCell r = false := by
  intro rs h r hr
  rw [List.any_eq_false] at h
  simpa using h r hr
/-- entering a call -/
theorem enter (R : Rel c F H σ ρ) {rs : List Rv} {vs : List V} {ds : List D} (rv : RVL c F σ rs vs) (e : rdL ρ rs = some ds) : Entry c.X none (snap F H σ ρ) H vs ds :=
  ⟨snap_le R, R.nt, R.tab, fun x hx => by
    unfold snap
    rw [if_neg, R.tabF x hx]
    intro z
    obtain ⟨i, f, o, h1, h2⟩ := mem_ownB.mp z
    obtain ⟨_, ws, l⟩ := R.ownAt h1 h2
    obtain ⟨tb, e2, _⟩ := R.tab x hx
    rw [l] at e2
    exact (nomatch e2), by rw [rv.len, rdL_len e], fun j d v h1 h2 _ => by
    obtain ⟨r, _, g1, g2⟩ := rdL_get e rv h1 h2
    exact snap_rp R g2 g1, fun j z => nomatch z⟩
theorem enterV (R : Rel c F H σ ρ) {rs : List Rv} {vs : List V} {ds : List D} (rv : RVL c F σ rs vs) (e : rdL ρ rs = some ds) (nc : rs.any isCell = false) : Entry c.X none F H vs ds :=
  ⟨R.sub, R.nt, R.tab, R.tabF, by rw [rv.len, rdL_len e], fun j d v h1 h2 _ => by
    obtain ⟨r, g0, g1, g2⟩ := rdL_get e rv h1 h2
    match r, g0, g1, g2 with
    | .val d', _, g1, g2 =>
      obtain rfl : d' = d := Option.some.inj g1
      exact g2
    | .cell i, g0, _, _ => exact (nomatch (noCell nc _ (List.mem_of_getElem? g0))), fun j z => nomatch z⟩
theorem new_of (R : Rel c F H σ ρ) (R2 : Rel c F' H' σ ρ) {p : Addr} {ws : List V} {es : List D} (hn : H p = none) (hp : H' p = some (.lst ws)) (hF : F' p = none) (hr : RpL c.K F' es ws) : NewL c F' H' σ ρ p es :=
  ⟨⟨ws, hp, hr⟩, hF, R.new p hn, Or.inl (R.dom p hn), R.noOwn hn⟩
theorem li_call {P : PSp} {ta : TA} {pa : QA} {E : XK} (h1 : LiA X ta pa) : LiE X (tCall (lsp X none P) [] E ta) (qCall P pa) := by
  intro c hX σ F H ρ Q Q3 R hq h
  subst hX
  refine h1 c rfl σ F H ρ _ _ R ?_ h
  intro rs ρ1 vs F1 H1 R1 s1 rv q1
  rw [List.append_nil]
  cases e : rdL ρ1 rs with
  | none => rw [e] at q1; exact q1.elim
  | some ds =>
    rw [e] at q1
    have q1 : P ds fun r _ => resOk (rs.any isCell) r fun d => Q3 (.val d) ρ1 := q1
    by_cases nc : rs.any isCell = false
    · refine ⟨F1, ds, _, enterV R1 rv e nc, q1, ?_⟩
      intro r out v F' H' ex q
      have R2 := Step.own ex.step R1
      match r, ex.res, q with
      | .val d, rx, ⟨_, q⟩ => exact hq (.val d) ρ1 v F' H' R2 (tr s1 ex.step.fr) rx q
      | .new es, ⟨p, ws, ev, hF, hn, hp, hr⟩, ⟨_, q⟩ =>
        subst ev
        obtain ⟨vs2, R3, s3, r3⟩ := (new_of R1 R2 hn hp hF hr).keep R2
        exact hq (.val (.lst es)) ρ1 _ _ H' R3 (tr (tr s1 ex.step.fr) s3) r3 q
    · refine ⟨_, ds, _, enter R1 rv e, q1, ?_⟩
      intro r out v F' H' ex q
      have R2 := Step.back ex.step R1
      match r, ex.res, q with
      | .val d, rx, ⟨fl, q⟩ => exact hq (.val d) ρ1 v F1 H' R2 s1 (Rp.flat (fl.resolve_left nc) rx) q
      | .new es, ⟨p, ws, ev, hF, hn, hp, hr⟩, ⟨fl, q⟩ =>
        subst ev
        obtain ⟨vs2, R3, s3, r3⟩ := (new_of R1 R2 hn hp (R1.fnone hn) (RpL.flat (fl.resolve_left nc) hr)).keep R2
        exact hq (.val (.lst es)) ρ1 _ _ H' R3 (tr s1 s3) r3 q
theorem li_callN {P : PSp} {ta : TA} {pa : QA} {E : XK} (h1 : LiA X ta pa) : LiN X (tCall (lsp X none P) [] E ta) (qCallN P pa) := by
  intro c hX σ F H ρ Q Q3 R hq h
  subst hX
  refine h1 c rfl σ F H ρ _ _ R ?_ h
  intro rs ρ1 vs F1 H1 R1 s1 rv q1
  rw [List.append_nil]
  cases e : rdL ρ1 rs with
  | none => rw [e] at q1; exact q1.elim
  | some ds =>
    rw [e] at q1
    have q1 : P ds fun r _ => newOk (rs.any isCell) r fun d => Q3 d ρ1 := q1
    by_cases nc : rs.any isCell = false
    · refine ⟨F1, ds, _, enterV R1 rv e nc, q1, ?_⟩
      intro r out v F' H' ex q
      have R2 := Step.own ex.step R1
      match r, ex.res, q with
      | .new es, ⟨p, ws, ev, hF, hn, hp, hr⟩, ⟨_, q⟩ =>
        subst ev
        exact hq es ρ1 p F' H' R2 (tr s1 ex.step.fr) (new_of R1 R2 hn hp hF hr) q
    · refine ⟨_, ds, _, enter R1 rv e, q1, ?_⟩
      intro r out v F' H' ex q
      have R2 := Step.back ex.step R1
      match r, ex.res, q with
      | .new es, ⟨p, ws, ev, hF, hn, hp, hr⟩, ⟨fl, q⟩ =>
        subst ev
        exact hq es ρ1 p F1 H' R2 s1 (new_of R1 R2 hn hp (R1.fnone hn) (RpL.flat (fl.resolve_left nc) hr)) q
/-! ### methods -/
/-- d is an instance of the class at C, without an own thing m -/
def IsI (K : PySem.W.Frag) (C : Addr) (m : Str) (d : D) : Prop := ∀ (F : Hp) (v : V), Rp K F d v → ∃ a dx fs, v = .ref a ∧ F a = some (.ins C dx fs) ∧ fs.lookup m = none
def qMeth (K : PySem.W.Frag) (C : Addr) (m : Str) (P : PSp) (pe : QE) (pa : QA) : QE := fun ρ Q => pe ρ fun x ρ0 => ∃ d, x = .val d ∧ IsI K C m d ∧ pa ρ0 fun rs ρ1 => some1 (fun ds => P (d :: ds) fun r _ => resOk (rs.any isCell) r fun d => Q (.val d) ρ1) (rdL ρ1 rs)
def qMethN (K : PySem.W.Frag) (C : Addr) (m : Str) (P : PSp) (pe : QE) (pa : QA) : QN := fun ρ Q => pe ρ fun x ρ0 => ∃ d, x = .val d ∧ IsI K C m d ∧ pa ρ0 fun rs ρ1 => some1 (fun ds => P (d :: ds) fun r _ => newOk (rs.any isCell) r fun d => Q d ρ1) (rdL ρ1 rs)
theorem li_meth {C : Addr} {m : Str} {P : PSp} {te : TE} {ta : TA} {pe : QE} {pa : QA} {E : XK} (h0 : LiE X te pe) (h1 : LiA X ta pa) : LiE X (tMeth C m (lsp X none P) [] E te ta) (qMeth X.K C m P pe pa) := by
  intro c hX σ F H ρ Q Q3 R hq h
  subst hX
  refine h0 c rfl σ F H ρ _ _ R ?_ h
  rintro x ρ0 v F0 H0 R0 s0 rv0 ⟨d, rfl, ii, h⟩
  obtain ⟨a, dx, fs, rfl, ia, il⟩ := ii F0 v rv0
  refine ⟨a, dx, fs, rfl, R0.sub _ _ ia, il, ?_⟩
  refine h1 c rfl σ F0 H0 ρ0 _ _ R0 ?_ h
  intro rs ρ1 vs F1 H1 R1 s1 rv q1
  rw [List.append_nil]
  have rv2 : RVL c F1 σ (.val d :: rs) (.ref a :: vs) := ⟨_, _, rfl, Rp.mono s1 rv0, rv⟩
  cases e : rdL ρ1 rs with
  | none => rw [e] at q1; exact q1.elim
  | some ds =>
    have e2 : rdL ρ1 (.val d :: rs) = some (d :: ds) := by
      show cons2 (some d) (rdL ρ1 rs) = _
      rw [e]
      rfl
    rw [e] at q1
    have q1 : P (d :: ds) fun r _ => resOk (rs.any isCell) r fun d => Q3 (.val d) ρ1 := q1
    by_cases nc : rs.any isCell = false
    · refine ⟨F1, d :: ds, _, enterV R1 rv2 e2 (by rw [List.any_cons, nc]; rfl), q1, ?_⟩
      intro r out v F' H' ex q
      have R2 := Step.own ex.step R1
      match r, ex.res, q with
      | .val d, rx, ⟨_, q⟩ => exact hq (.val d) ρ1 v F' H' R2 (tr (tr s0 s1) ex.step.fr) rx q
      | .new es, ⟨p, ws, ev, hF, hn, hp, hr⟩, ⟨_, q⟩ =>
        subst ev
        obtain ⟨vs2, R3, s3, r3⟩ := (new_of R1 R2 hn hp hF hr).keep R2
        exact hq (.val (.lst es)) ρ1 _ _ H' R3 (tr (tr (tr s0 s1) ex.step.fr) s3) r3 q
    · refine ⟨_, d :: ds, _, enter R1 rv2 e2, q1, ?_⟩
      intro r out v F' H' ex q
      have R2 := Step.back ex.step R1
      match r, ex.res, q with
      | .val d, rx, ⟨fl, q⟩ => exact hq (.val d) ρ1 v F1 H' R2 (tr s0 s1) (Rp.flat (fl.resolve_left nc) rx) q
      | .new es, ⟨p, ws, ev, hF, hn, hp, hr⟩, ⟨fl, q⟩ =>
        subst ev
        obtain ⟨vs2, R3, s3, r3⟩ := (new_of R1 R2 hn hp (R1.fnone hn) (RpL.flat (fl.resolve_left nc) hr)).keep R2
        exact hq (.val (.lst es)) ρ1 _ _ H' R3 (tr (tr s0 s1) s3) r3 q
theorem li_methN {C : Addr} {m : Str} {P : PSp} {te : TE} {ta : TA} {pe : QE} {pa : QA} {E : XK} (h0 : LiE X te pe) (h1 : LiA X ta pa) : LiN X (tMeth C m (lsp X none P) [] E te ta) (qMethN X.K C m P pe pa) := by
  intro c hX σ F H ρ Q Q3 R hq h
  subst hX
  refine h0 c rfl σ F H ρ _ _ R ?_ h
  rintro x ρ0 v F0 H0 R0 s0 rv0 ⟨d, rfl, ii, h⟩
  obtain ⟨a, dx, fs, rfl, ia, il⟩ := ii F0 v rv0
  refine ⟨a, dx, fs, rfl, R0.sub _ _ ia, il, ?_⟩
  refine h1 c rfl σ F0 H0 ρ0 _ _ R0 ?_ h
  intro rs ρ1 vs F1 H1 R1 s1 rv q1
  rw [List.append_nil]
  have rv2 : RVL c F1 σ (.val d :: rs) (.ref a :: vs) := ⟨_, _, rfl, Rp.mono s1 rv0, rv⟩
  cases e : rdL ρ1 rs with
  | none => rw [e] at q1; exact q1.elim
  | some ds =>
    have e2 : rdL ρ1 (.val d :: rs) = some (d :: ds) := by
      show cons2 (some d) (rdL ρ1 rs) = _
      rw [e]
      rfl
    rw [e] at q1
    have q1 : P (d :: ds) fun r _ => newOk (rs.any isCell) r fun d => Q3 d ρ1 := q1
    by_cases nc : rs.any isCell = false
    · refine ⟨F1, d :: ds, _, enterV R1 rv2 e2 (by rw [List.any_cons, nc]; rfl), q1, ?_⟩
      intro r out v F' H' ex q
      have R2 := Step.own ex.step R1
      match r, ex.res, q with
      | .new es, ⟨p, ws, ev, hF, hn, hp, hr⟩, ⟨_, q⟩ =>
        subst ev
        exact hq es ρ1 p F' H' R2 (tr (tr s0 s1) ex.step.fr) (new_of R1 R2 hn hp hF hr) q
    · refine ⟨_, d :: ds, _, enter R1 rv2 e2, q1, ?_⟩
      intro r out v F' H' ex q
      have R2 := Step.back ex.step R1
      match r, ex.res, q with
      | .new es, ⟨p, ws, ev, hF, hn, hp, hr⟩, ⟨fl, q⟩ =>
        subst ev
        exact hq es ρ1 p F1 H' R2 (tr s0 s1) (new_of R1 R2 hn hp (R1.fnone hn) (RpL.flat (fl.resolve_left nc) hr)) q
/-! ### a call that changes a list handed in -/
def ioOk (ρ : PSt) (i : Nat) (f : Bool) (Q : D → PSt → Prop) : Rs → Option (List D) → Prop
  | .val d, some es => Q d (ρ.set i (.own f es))
  | _, _ => False
def ownOf (Q : Bool → List D → Prop) : Option PV → Prop
  | some (.own f ds) => Q f ds
  | _ => False
/-- the j-th argument is the own list in slot i -/
def qCallIo (j i : Nat) (P : PSp) (pa : QA) : QE := fun ρ Q => pa ρ fun rs ρ1 => rs[j]? = some (.cell i) ∧ (∀ k r, rs[k]? = some r → k ≠ j → isCell r = false) ∧ ownOf (fun f _ => some1 (fun ds => P ds fun r out => ioOk ρ1 i f (fun d ρ2 => Q (.val d) ρ2) r out) (rdL ρ1 rs)) ρ1[i]?
theorem li_callIo {j i : Nat} {P : PSp} {ta : TA} {pa : QA} {E : XK} (h1 : LiA X ta pa) : LiE X (tCall (lsp X (some j) P) [] E ta) (qCallIo j i P pa) := by
  intro c hX σ F H ρ Q Q3 R hq h
  subst hX
  refine h1 c rfl σ F H ρ _ _ R ?_ h
  rintro rs ρ1 vs F1 H1 R1 s1 rv ⟨hj, hoth, q1⟩
  rw [List.append_nil]
  cases hi : ρ1[i]? with
  | none => rw [hi] at q1; exact q1.elim
  | some pv =>
    rw [hi] at q1
    match pv, hi, q1 with
    | .un, _, q1 => exact q1.elim
    | .val _, _, q1 => exact q1.elim
    | .own f o, hi, q1 =>
      have q1 : some1 (fun ds => P ds fun r out => ioOk ρ1 i f (fun d ρ2 => Q3 (.val d) ρ2) r out) (rdL ρ1 rs) := q1
      cases e : rdL ρ1 rs with
      | none => rw [e] at q1; exact q1.elim
      | some ds =>
        rw [e] at q1
        have q1 : P ds fun r out => ioOk ρ1 i f (fun d ρ2 => Q3 (.val d) ρ2) r out := q1
        have hjl : j < rs.length := (List.getElem?_eq_some_iff.mp hj).1
        have hvl : j < vs.length := by rw [rv.len]; exact hjl
        have hdl : j < ds.length := by rw [← rdL_len e]; exact hjl
        obtain ⟨r, g0, g1, g2⟩ := rdL_get e rv (List.getElem?_eq_getElem hdl) (List.getElem?_eq_getElem hvl)
        rw [hj] at g0
        obtain rfl := Option.some.inj g0
        obtain ⟨p, ws, ep, hF, hp, hr, hfr, hb⟩ := R1.slot i _ hi
        have g2 : σ[i]? = some (some vs[j]) := g2
        rw [ep] at g2
        have evj : vs[j] = .ref p := by
          have := Option.some.inj (Option.some.inj g2)
          exact this.symm
        have edj : ds[j] = .lst o := by
          have g1 : rdP ρ1[i]? = some ds[j] := g1
          rw [hi] at g1
          exact (Option.some.inj g1).symm
        have vj : vs[j]? = some (.ref p) := by rw [List.getElem?_eq_getElem hvl, evj]
        have iob : ioB (some j) vs = [p] := by
          unfold ioB
          simp only [vj]
        have en : Entry c.X (some j) F1 H1 vs ds := by
          refine ⟨R1.sub, R1.nt, R1.tab, R1.tabF, by rw [rv.len, rdL_len e], fun k d v z1 z2 z3 => ?_, fun k z => ?_⟩
          · obtain ⟨r, g0, g1, g2⟩ := rdL_get e rv z1 z2
            have nc := hoth k r g0 (fun q => z3 (by rw [q]))
            match r, nc, g1, g2 with
            | .val d', _, g1, g2 =>
              obtain rfl : d' = d := Option.some.inj g1
              exact g2
            | .cell i, nc, _, _ => exact nomatch nc
          · obtain rfl : j = k := Option.some.inj z
            exact ⟨p, ws, o, vj, by rw [List.getElem?_eq_getElem hdl, edj], hF, hp, hr⟩
        refine ⟨F1, ds, _, en, q1, ?_⟩
        intro r out v F' H' ex q
        obtain ⟨es, us, rfl, h5, h6⟩ := ex.out j p rfl vj
        have st := ex.step
        rw [iob] at st
        match r, ex.res, q with
        | .val d, rx, q =>
          have q : Q3 (.val d) (ρ1.set i (.own f es)) := q
          have hFp : F' p = none := by
            cases e9 : F' p with
            | none => rfl
            | some o9 =>
              rcases st.nw p o9 e9 with z | z | ⟨_, z⟩ | z
              · have z2 : F1 p = some o9 := z
                rw [hF] at z2
                exact nomatch z2
              · have z2 : H1 p = none := z
                rw [hp] at z2
                exact nomatch z2
              · have z2 : H1 p = none := z
                rw [hp] at z2
                exact nomatch z2
              · have z2 := st.sub _ _ e9
                rw [h5] at z2
                cases z2
                exact z.elim
          have kp : ∀ b o, H1 b = some o → b ≠ p → (∀ ps, o ≠ .tbl ps) → H' b = some o := fun b o z n t => st.kp b o z (fun m => n (List.mem_singleton.mp m)) (R1.notab z t)
          have R2 : Rel c F' H' σ (ρ1.set i .un) := by
            have Rf := R1.forget i
            refine ⟨Rf.len, st.sub, fun k pv hk => (Rf.slot k pv hk).mono st.fr fun fr dd q e1 e2 => ?_, Rf.sep, st.nt, st.tab, st.tabF, fun _ _ z => st.fr _ _ (R1.fr _ _ z), fun b o z n m => ?_, fun b z => R1.dom b (st.dom b z), fun b o z => ?_, fun q z => R1.new q (st.dom q z)⟩
            · subst e1
              obtain ⟨fq, vq, lq⟩ := Rf.ownAt hk e2
              have nqp : q ≠ p := by
                intro z
                subst z
                by_cases w : i = k
                · subst w
                  have hl := (List.getElem?_eq_some_iff.mp hk).1
                  rw [List.length_set] at hl
                  rw [List.getElem?_set_self hl] at hk
                  exact nomatch hk
                · rw [List.getElem?_set_ne w] at hk
                  exact w (R1.sep i k _ _ _ _ q hi hk ep e2)
              refine ⟨?_, fun ws lw => kp _ _ lw nqp (fun ps => by simp)⟩
              cases e9 : F' q with
              | none => rfl
              | some o9 =>
                rcases st.nw q o9 e9 with z | z | ⟨z, _⟩ | z
                · have z2 : F1 q = some o9 := z
                  rw [fq] at z2
                  exact nomatch z2
                · have z2 : H1 q = none := z
                  rw [lq] at z2
                  exact nomatch z2
                · exact absurd (List.mem_singleton.mp z) nqp
                · have z2 := st.sub _ _ e9
                  rw [kp _ _ lq nqp (fun ps => by simp)] at z2
                  cases z2
                  exact z.elim
            · refine st.kp b o (R1.kp b o z n m) (fun w => ?_) m
              have w2 := List.mem_singleton.mp w
              rw [w2] at z n
              rcases hb with hb | hb
              · exact n hb
              · rw [hb] at z
                exact nomatch z
            · rcases st.nw b o z with w | w | ⟨_, w⟩ | w
              · exact R1.nw b o w
              · exact Or.inr (Or.inl (R1.dom b w))
              · exact Or.inr (Or.inl (R1.dom b w))
              · exact Or.inr (Or.inr (Or.inr w))
          have hil := (List.getElem?_eq_some_iff.mp hi).1
          have R3 : Rel c F' H' σ (ρ1.set i (.own f es)) := by
            refine ⟨by rw [List.length_set]; exact R1.len, R2.sub, fun k pv hk => ?_, fun k l f1 o1 f2 o2 q h1 h2 e1 e2 => ?_, R2.nt, R2.tab, R2.tabF, R2.fr, R2.kp, R2.dom, R2.nw, R2.new⟩
            · by_cases w : i = k
              · subst w
                rw [List.getElem?_set_self hil] at hk
                obtain rfl := Option.some.inj hk
                exact ⟨p, us, ep, hFp, h5, h6, hfr, hb⟩
              · rw [List.getElem?_set_ne w] at hk
                exact R2.slot k pv (by rw [List.getElem?_set_ne w]; exact hk)
            · have g : ∀ (j : Nat) (f1 : Bool) (o : List D), (ρ1.set i (PV.own f es))[j]? = some (PV.own f1 o) → ∃ f2 o2, ρ1[j]? = some (PV.own f2 o2) := by
                intro j f1 o hj
                by_cases q : i = j
                · subst q
                  exact ⟨_, _, hi⟩
                · rw [List.getElem?_set_ne q] at hj
                  exact ⟨_, _, hj⟩
              obtain ⟨_, _, g1⟩ := g _ _ _ h1
              obtain ⟨_, _, g2⟩ := g _ _ _ h2
              exact R1.sep k l _ _ _ _ q g1 g2 e1 e2
          exact hq (.val d) _ v F' H' R3 (tr s1 st.fr) rx q
        | .new _, _, q => exact q.elim
end
end L3
/-! Plain readings of operators and built-ins. -/
namespace L3
open PySem PySem.Spec PyProof.Rows L2 TB LamX
section
variable {X : Sx}
/-! ### numbers, truths, texts -/
def oI0 (g : Int → Int → V) : O2 := fun dx dy Q => ∃ i j, dx = .int i ∧ dy = .int j ∧ some1 Q (vD (g i j))
def oI (C : Int → Int → Prop) (g : Int → Int → V) : O2 := fun dx dy Q => ∃ i j, dx = .int i ∧ dy = .int j ∧ C i j ∧ some1 Q (vD (g i j))
theorem vD_rp {K : PySem.W.Frag} {F : Hp} {v : V} {d : D} (h : vD v = some d) : Rp K F d v := by
  cases v <;> first
    | (obtain rfl := Option.some.inj h; exact rfl)
    | exact nomatch h
theorem some1_is {α : Type} {Q : α → Prop} {o : Option α} (h : some1 Q o) : ∃ d, o = some d ∧ Q d := by
  cases o with
  | none => exact h.elim
  | some d => exact ⟨d, rfl, h⟩
theorem lr_I0 {g : Int → Int → V} : LiR X (rI0 g) (oI0 g) := by
  intro c hX σ F H ρ x y dx dy Q Q3 R rx ry hq h
  obtain ⟨i, j, rfl, rfl, h⟩ := h
  obtain ⟨d, e, q⟩ := some1_is h
  exact ⟨i, j, rx, ry, hq d _ F H R (Same.refl F) (vD_rp e) q⟩
theorem lr_I {C : Int → Int → Prop} {g : Int → Int → V} : LiR X (rI C g) (oI C g) := by
  intro c hX σ F H ρ x y dx dy Q Q3 R rx ry hq h
  obtain ⟨i, j, rfl, rfl, hc, h⟩ := h
  obtain ⟨d, e, q⟩ := some1_is h
  exact ⟨i, j, rx, ry, hc, hq d _ F H R (Same.refl F) (vD_rp e) q⟩
/-- flat data as a value -/
def dV : D → V
  | .non => .non
  | .bl b => .bl b
  | .int i => .int i
  | .str z => .str z
  | .ty n => .ty n
  | _ => .non
theorem rn_flat {K : PySem.W.Frag} {F H : Hp} {d : D} {v : V} (f : d.flat = true) (h : Rn K F H d v) : v = dV d := by
  cases d <;> first
    | exact h
    | exact nomatch f
theorem rp_flat {K : PySem.W.Frag} {F : Hp} {d : D} {v : V} (f : d.flat = true) (h : Rp K F d v) : v = dV d := by
  cases d <;> first
    | exact h
    | exact nomatch f
def oEq (neg : Bool) : O2 := fun dx dy Q => dx.flat = true ∧ dy.flat = true ∧ scal (dV dx) (dV dy) = true ∧ Q (.bl (if neg then !decide (dV dx = dV dy) else decide (dV dx = dV dy)))
theorem w_eqS {a b : Str} {Q : D → Prop} (h : Q (.bl (decide (a = b)))) : oEq false (.str a) (.str b) Q := by
  refine ⟨rfl, rfl, rfl, ?_⟩
  have e : decide (dV (.str a) = dV (.str b)) = decide (a = b) := decide_eq_decide.mpr ⟨fun z => V.str.inj z, fun z => by rw [z]⟩
  rw [e]
  exact h
theorem w_neS {a b : Str} {Q : D → Prop} (h : Q (.bl (!decide (a = b)))) : oEq true (.str a) (.str b) Q := by
  refine ⟨rfl, rfl, rfl, ?_⟩
  have e : decide (dV (.str a) = dV (.str b)) = decide (a = b) := decide_eq_decide.mpr ⟨fun z => V.str.inj z, fun z => by rw [z]⟩
  rw [e]
  exact h
theorem w_eqI {a b : Int} {Q : D → Prop} (h : Q (.bl (decide (a = b)))) : oEq false (.int a) (.int b) Q := by
  refine ⟨rfl, rfl, rfl, ?_⟩
  have e : decide (dV (.int a) = dV (.int b)) = decide (a = b) := decide_eq_decide.mpr ⟨fun z => V.int.inj z, fun z => by rw [z]⟩
  rw [e]
  exact h
theorem w_neI {a b : Int} {Q : D → Prop} (h : Q (.bl (!decide (a = b)))) : oEq true (.int a) (.int b) Q := by
  refine ⟨rfl, rfl, rfl, ?_⟩
  have e : decide (dV (.int a) = dV (.int b)) = decide (a = b) := decide_eq_decide.mpr ⟨fun z => V.int.inj z, fun z => by rw [z]⟩
  rw [e]
  exact h
theorem w_eqB {a b : Bool} {Q : D → Prop} (h : Q (.bl (decide (a = b)))) : oEq false (.bl a) (.bl b) Q := by
  refine ⟨rfl, rfl, rfl, ?_⟩
  have e : decide (dV (.bl a) = dV (.bl b)) = decide (a = b) := decide_eq_decide.mpr ⟨fun z => V.bl.inj z, fun z => by rw [z]⟩
  rw [e]
  exact h
theorem w_neB {a b : Bool} {Q : D → Prop} (h : Q (.bl (!decide (a = b)))) : oEq true (.bl a) (.bl b) Q := by
  refine ⟨rfl, rfl, rfl, ?_⟩
  have e : decide (dV (.bl a) = dV (.bl b)) = decide (a = b) := decide_eq_decide.mpr ⟨fun z => V.bl.inj z, fun z => by rw [z]⟩
  rw [e]
  exact h
theorem lr_eq : LiR X rEq (oEq false) := by
  intro c hX σ F H ρ x y dx dy Q Q3 R rx ry hq h
  obtain ⟨f1, f2, sc, q⟩ := h
  obtain rfl := rn_flat f1 rx
  obtain rfl := rn_flat f2 ry
  exact ⟨sc, hq (.bl _) _ F H R (Same.refl F) rfl q⟩
theorem lr_ne : LiR X rNe (oEq true) := by
  intro c hX σ F H ρ x y dx dy Q Q3 R rx ry hq h
  obtain ⟨f1, f2, sc, q⟩ := h
  obtain rfl := rn_flat f1 rx
  obtain rfl := rn_flat f2 ry
  exact ⟨sc, hq (.bl _) _ F H R (Same.refl F) rfl q⟩
/-! ### items -/
def oIxL : O2 := fun dx dy Q => ∃ ds i, dx = .lst ds ∧ dy = .int i ∧ some1 Q (atI ds i)
def oIxT : O2 := fun dx dy Q => ∃ ds i, dx = .tup ds ∧ dy = .int i ∧ some1 Q (atI ds i)
def oIxS : O2 := fun dx dy Q => ∃ z i, dx = .str z ∧ dy = .int i ∧ z.length ≤ sizeLine ∧ some1 (fun k : Nat => Q (.str ⟨#[k]⟩)) (atI z.cps.toList i)
theorem atI_rp {K : PySem.W.Frag} {F : Hp} {ds : List D} {vs : List V} {i : Int} {d : D} (r : RpL K F ds vs) (h : atI ds i = some d) : ∃ v, atI vs i = some v ∧ Rp K F d v := by
  unfold atI at h ⊢
  rw [r.len]
  cases e : ixN ds.length i with
  | none => rw [e] at h; exact nomatch h
  | some j =>
    rw [e] at h
    exact r.get' h
theorem lr_ixL : LiR X (rIxL X.K) oIxL := by
  intro c hX σ F H ρ x y dx dy Q Q3 R rx ry hq h
  obtain ⟨ds, i, rfl, rfl, h⟩ := h
  obtain ⟨p, vs, e, hp, r⟩ := rx
  obtain ⟨d, e2, q⟩ := some1_is h
  obtain ⟨v, e3, rv⟩ := atI_rp r e2
  exact ⟨p, vs, i, v, e, ry, sqL_of hp, e3, hq d v F H R (Same.refl F) rv q⟩
theorem lr_ixT : LiR X (rIxT X.K) oIxT := by
  intro c hX σ F H ρ x y dx dy Q Q3 R rx ry hq h
  subst hX
  obtain ⟨ds, i, rfl, rfl, h⟩ := h
  obtain ⟨p, vs, e, hp, r⟩ := rx
  obtain ⟨d, e2, q⟩ := some1_is h
  obtain ⟨v, e3, rv⟩ := atI_rp r e2
  exact ⟨p, vs, i, v, e, ry, sqT_mono R.sub hp, e3, hq d v F H R (Same.refl F) rv q⟩
theorem lr_ixS : LiR X rIxS oIxS := by
  intro c hX σ F H ρ x y dx dy Q Q3 R rx ry hq h
  obtain ⟨z, i, rfl, rfl, hz, h⟩ := h
  obtain ⟨k, e2, q⟩ := some1_is h
  exact ⟨z, i, k, rx, ry, hz, e2, hq (.str _) _ F H R (Same.refl F) rfl q⟩
/-! ### slices -/
def cutD (ds : List D) (lo hi : Option Int) : List D := (ds.drop (HT.sIx ds.length 0 lo)).take (HT.sIx ds.length ds.length hi - HT.sIx ds.length 0 lo)
theorem cut_rp {K : PySem.W.Frag} {F : Hp} {ds : List D} {vs : List V} {lo hi : Option Int} (r : RpL K F ds vs) : RpL K F (cutD ds lo hi) (cutV vs lo hi) := by
  unfold cutD cutV
  rw [r.len]
  exact (r.drop _).take _
def oSlL : D → Option Int → Option Int → (List D → Prop) → Prop := fun d lo hi Q => ∃ ds, d = .lst ds ∧ Q (cutD ds lo hi)
def oSlT : D → Option Int → Option Int → (D → Prop) → Prop := fun d lo hi Q => ∃ ds, d = .tup ds ∧ Q (.tup (cutD ds lo hi))
theorem lsl_L : LiSlN X (rSlL X.K) oSlL := by
  intro c hX σ F H ρ x dx lo hi Q Q3 R rx hq h
  obtain ⟨ds, rfl, h⟩ := h
  obtain ⟨p, vs, e, hp, r⟩ := rx
  refine ⟨p, vs, e, sqL_of hp, fun q nq => ?_⟩
  obtain ⟨R2, n2⟩ := NewL.made R nq (cut_rp (lo := lo) (hi := hi) r)
  exact hq _ q F _ R2 (Same.refl F) n2 h
theorem lsl_T : LiSl X (rSlA X.K) oSlT := by
  intro c hX σ F H ρ x dx lo hi Q Q3 R rx hq h
  subst hX
  obtain ⟨ds, rfl, h⟩ := h
  obtain ⟨p, vs, rfl, hp, r⟩ := rx
  have e : V.ref p = V.ref p := rfl
  · refine ⟨p, vs, e, sqT_mono R.sub hp, fun hw => ?_, fun hw q nq => ?_⟩
    · refine hq (.tup _) _ F H R (Same.refl F) ⟨p, vs, rfl, hp, ?_⟩ h
      have e1 : cutD ds lo hi = ds := by
        unfold cutD
        rw [r.len] at hw
        rw [hw.1, hw.2]
        simp
      rw [e1]
      exact r
    · have s2 : Same F (upd F q (.tup (cutV vs lo hi))) := fun _ _ z => old_upd (R.fnone nq) z
      exact hq (.tup _) _ _ _ (R.alloc nq trivial) s2 ⟨q, _, rfl, sqT_of upd_same, (cut_rp r).mono s2⟩ h
/-! ### joined -/
def oCatL : O2N := fun dx dy Q => ∃ ds es, dx = .lst ds ∧ dy = .lst es ∧ ds.length + es.length ≤ sizeLine ∧ Q (ds ++ es)
theorem lr_catL : LiRN X rCat oCatL := by
  intro c hX σ F H ρ x y dx dy Q Q3 R rx ry hq h
  obtain ⟨ds, es, rfl, rfl, hz, h⟩ := h
  obtain ⟨p, vs, e, hp, r⟩ := rx
  obtain ⟨p2, vs2, e2, hp2, r2⟩ := ry
  · refine ⟨p, p2, vs, vs2, e, e2, hp, hp2, by rw [r.len, r2.len]; exact hz, fun q nq => ?_⟩
    obtain ⟨R2, n2⟩ := NewL.made R nq (r.app r2)
    exact hq _ q F _ R2 (Same.refl F) n2 h
def oCatT : O2 := fun dx dy Q => ∃ ds es, dx = .tup ds ∧ dy = .tup es ∧ ds.length + es.length ≤ sizeLine ∧ Q (.tup (ds ++ es))
theorem lr_catT : LiR X (rCatA X.K) oCatT := by
  intro c hX σ F H ρ x y dx dy Q Q3 R rx ry hq h
  subst hX
  obtain ⟨ds, es, rfl, rfl, hz, h⟩ := h
  obtain ⟨p, vs, rfl, hp, r⟩ := rx
  obtain ⟨p2, vs2, rfl, hp2, r2⟩ := ry
  have e : V.ref p = V.ref p := rfl
  have e2 : V.ref p2 = V.ref p2 := rfl
  · refine ⟨p, p2, vs, vs2, e, e2, sqT_mono R.sub hp, sqT_mono R.sub hp2, by rw [r.len, r2.len]; exact hz, fun z => ?_, fun _ z => ?_, fun _ _ q nq => ?_⟩
    · refine hq (.tup _) _ F H R (Same.refl F) ⟨p2, vs2, rfl, hp2, ?_⟩ h
      rw [z] at r
      have z2 : ds = [] := List.eq_nil_of_length_eq_zero (by rw [← r.len]; rfl)
      rw [z2]
      exact r2
    · refine hq (.tup _) _ F H R (Same.refl F) ⟨p, vs, rfl, hp, ?_⟩ h
      rw [z] at r2
      have z2 : es = [] := List.eq_nil_of_length_eq_zero (by rw [← r2.len]; rfl)
      rw [z2, List.append_nil]
      exact r
    · have s2 : Same F (upd F q (.tup (vs ++ vs2))) := fun _ _ z => old_upd (R.fnone nq) z
      exact hq (.tup _) _ _ _ (R.alloc nq trivial) s2 ⟨q, _, rfl, sqT_of upd_same, (r.app r2).mono s2⟩ h
/-! ### in -/
def flatD : D → Bool
  | .non => true
  | .bl _ => true
  | .int _ => true
  | .str _ => true
  | _ => false
theorem flatD_flat {d : D} (h : flatD d = true) : d.flat = true := by
  cases d <;> first
    | rfl
    | exact nomatch h
theorem flatV_dV {d : D} (h : flatD d = true) : flatV (dV d) = true := by
  cases d <;> first
    | rfl
    | exact nomatch h
def eqD (a b : D) : Bool := eqV (dV a) (dV b)
def inD (x : D) (ds : List D) : Bool := ds.any fun y => eqD y x
def oIn (neg : Bool) : O2 := fun dx dy Q => ∃ ds, (dy = .lst ds ∨ dy = .tup ds) ∧ flatD dx = true ∧ ds.all flatD = true ∧ Q (.bl (if neg then !inD dx ds else inD dx ds))
theorem flatL {K : PySem.W.Frag} {F : Hp} : ∀ {ds : List D} {vs : List V}, ds.all flatD = true → RpL K F ds vs → vs = ds.map dV
  | [], vs, _, h => h
  | d :: ds, vs, f, h => by
    obtain ⟨v, r, rfl, q, t⟩ := h
    rw [List.all_cons, Bool.and_eq_true] at f
    rw [rp_flat (flatD_flat f.1) q, flatL f.2 t]
    rfl
theorem inD_inV (x : D) (ds : List D) : inV (dV x) (ds.map dV) = inD x ds := by
  unfold inV inD eqD
  rw [List.any_map]
  rfl
theorem lr_in (neg : Bool) : LiR X (rIn X.K neg) (oIn neg) := by
  intro c hX σ F H ρ x y dx dy Q Q3 R rx ry hq h
  subst hX
  obtain ⟨ds, hd, f1, f2, q⟩ := h
  obtain rfl := rn_flat (flatD_flat f1) rx
  have fv : ((ds.map dV).all flatV) = true := by
    rw [List.all_map, List.all_eq_true]
    intro d hd
    exact flatV_dV (List.all_eq_true.mp f2 d hd)
  rcases hd with rfl | rfl
  · obtain ⟨p, vs, rfl, hp, r⟩ := ry
    obtain rfl := flatL f2 r
    refine ⟨p, _, rfl, Or.inl (sqL_of hp), flatV_dV f1, fv, ?_⟩
    rw [inD_inV]
    exact hq (.bl _) _ F H R (Same.refl F) rfl q
  · obtain ⟨p, vs, rfl, hp, r⟩ := ry
    obtain rfl := flatL f2 r
    refine ⟨p, _, rfl, Or.inr (sqT_mono R.sub hp), flatV_dV f1, fv, ?_⟩
    rw [inD_inV]
    exact hq (.bl _) _ F H R (Same.refl F) rfl q
/-- a text among texts -/
theorem inD_strs (z : Str) (ws : List Str) : inD (.str z) (ws.map D.str) = decide (z ∈ ws) := by
  rw [← inD_inV, List.map_map]
  exact inV_strs z ws
theorem flat_strs3 (ws : List Str) : (ws.map D.str).all flatD = true := by
  rw [List.all_eq_true]
  intro v hv
  obtain ⟨z, _, rfl⟩ := List.mem_map.mp hv
  rfl
/-! ### pairs among pairs -/
abbrev prD (p : Pr) : D := .tup [.str p.1, .str p.2]
def oInP : O2 := fun dx dy Q => ∃ (p : Pr) (ps : List Pr), dx = prD p ∧ dy = .lst (ps.map prD) ∧ NmP p ∧ (∀ z ∈ ps, NmP z) ∧ Q (.bl (decide (p ∈ ps)))
/-! ### built-ins -/
def oLen : OL := fun as Q => ∃ ds, (as = [.lst ds] ∨ as = [.tup ds]) ∧ Q (.int ds.length)
theorem lc_len : LiC X (rLenL X.K) oLen := by
  intro c hX σ F H ρ xs dxs Q Q3 R rx hq h
  subst hX
  obtain ⟨ds, rfl | rfl, h⟩ := h
  · obtain ⟨v, t, rfl, ⟨p, vs, rfl, hp, r⟩, e⟩ := rx
    obtain rfl : t = [] := e
    refine ⟨p, vs, rfl, Or.inl (sqL_of hp), hq (.int _) _ F H R (Same.refl F) ?_ h⟩
    show V.int _ = V.int _
    rw [r.len]
  · obtain ⟨v, t, rfl, ⟨p, vs, rfl, hp, r⟩, e⟩ := rx
    obtain rfl : t = [] := e
    refine ⟨p, vs, rfl, Or.inr (sqT_mono R.sub hp), hq (.int _) _ F H R (Same.refl F) ?_ h⟩
    show V.int _ = V.int _
    rw [r.len]
def oList : OLN := fun as Q => ∃ ds, (as = [.lst ds] ∨ as = [.tup ds]) ∧ Q ds
theorem lc_list : LiCN X (rListL X.K) oList := by
  intro c hX σ F H ρ xs dxs Q Q3 R rx hq h
  subst hX
  obtain ⟨ds, rfl | rfl, h⟩ := h
  · obtain ⟨v, t, rfl, ⟨p, vs, rfl, hp, r⟩, e⟩ := rx
    obtain rfl : t = [] := e
    refine ⟨p, vs, rfl, Or.inl (sqL_of hp), fun l nl => ?_⟩
    obtain ⟨R2, n2⟩ := NewL.made R nl r
    exact hq _ l F _ R2 (Same.refl F) n2 h
  · obtain ⟨v, t, rfl, ⟨p, vs, rfl, hp, r⟩, e⟩ := rx
    obtain rfl : t = [] := e
    refine ⟨p, vs, rfl, Or.inr (sqT_mono R.sub hp), fun l nl => ?_⟩
    obtain ⟨R2, n2⟩ := NewL.made R nl r
    exact hq _ l F _ R2 (Same.refl F) n2 h
def oTuple : OL := fun as Q => ∃ ds, (as = [.lst ds] ∨ as = [.tup ds]) ∧ Q (.tup ds)
theorem lc_tuple : LiC X (rTupL X.K) oTuple := by
  intro c hX σ F H ρ xs dxs Q Q3 R rx hq h
  subst hX
  obtain ⟨ds, rfl | rfl, h⟩ := h
  · obtain ⟨v, t, rfl, ⟨p, vs, rfl, hp, r⟩, e⟩ := rx
    obtain rfl : t = [] := e
    refine ⟨p, vs, rfl, Or.inl ⟨sqL_of hp, fun l nl => ?_⟩⟩
    have s2 : Same F (upd F l (.tup vs)) := fun _ _ z => old_upd (R.fnone nl) z
    exact hq (.tup _) _ _ _ (R.alloc nl trivial) s2 ⟨l, _, rfl, sqT_of upd_same, r.mono s2⟩ h
  · obtain ⟨v, t, rfl, ⟨p, vs, rfl, hp, r⟩, e⟩ := rx
    obtain rfl : t = [] := e
    exact ⟨p, vs, rfl, Or.inr ⟨sqT_mono R.sub hp, hq (.tup _) _ F H R (Same.refl F) ⟨p, vs, rfl, hp, r⟩ h⟩⟩
def oInt : OL := fun as Q => (∃ b, as = [.bl b] ∧ Q (.int (if b then 1 else 0))) ∨ ∃ i, as = [.int i] ∧ Q (.int i)
theorem lc_int : LiC X rInt1 oInt := by
  intro c hX σ F H ρ xs dxs Q Q3 R rx hq h
  rcases h with ⟨b, rfl, h⟩ | ⟨i, rfl, h⟩
  · obtain ⟨v, t, rfl, rv, e⟩ := rx
    obtain rfl : t = [] := e
    obtain rfl : v = .bl b := rv
    exact Or.inr ⟨b, rfl, hq (.int _) _ F H R (Same.refl F) rfl h⟩
  · obtain ⟨v, t, rfl, rv, e⟩ := rx
    obtain rfl : t = [] := e
    obtain rfl : v = .int i := rv
    exact Or.inl ⟨i, rfl, hq (.int _) _ F H R (Same.refl F) rfl h⟩
def oAll (all : Bool) : OL := fun as Q => ∃ bs : List Bool, as = [.lst (bs.map D.bl)] ∧ Q (.bl (if all then bs.all id else bs.any id))
theorem lc_all : LiC X (rAll X.K) (oAll true) := by
  intro c hX σ F H ρ xs dxs Q Q3 R rx hq h
  obtain ⟨bs, rfl, h⟩ := h
  obtain ⟨v, t, rfl, ⟨p, vs, rfl, hp, r⟩, e⟩ := rx
  obtain rfl : t = [] := e
  obtain rfl := r.bls
  exact ⟨p, bs, rfl, sqL_of hp, hq (.bl _) _ F H R (Same.refl F) rfl h⟩
theorem lc_any : LiC X (rAny X.K) (oAll false) := by
  intro c hX σ F H ρ xs dxs Q Q3 R rx hq h
  obtain ⟨bs, rfl, h⟩ := h
  obtain ⟨v, t, rfl, ⟨p, vs, rfl, hp, r⟩, e⟩ := rx
  obtain rfl : t = [] := e
  obtain rfl := r.bls
  exact ⟨p, bs, rfl, sqL_of hp, hq (.bl _) _ F H R (Same.refl F) rfl h⟩
def oSortS : OLN := fun as Q => ∃ ws : List Str, as = [.lst (ws.map D.str)] ∧ ws.length < 64 ∧ ∀ ys : List Str, ys.Perm ws → sortedS ys = true → Q (ys.map D.str)
theorem lc_sortS : LiCN X (rSortedS X.K) oSortS := by
  intro c hX σ F H ρ xs dxs Q Q3 R rx hq h
  obtain ⟨ws, rfl, hz, h⟩ := h
  obtain ⟨v, t, rfl, ⟨p, vs, rfl, hp, r⟩, e⟩ := rx
  obtain rfl : t = [] := e
  obtain rfl := r.strs
  refine ⟨p, ws, rfl, sqL_of hp, hz, fun ys l pm sr nl => ?_⟩
  obtain ⟨R2, n2⟩ := NewL.made (ds := ys.map D.str) R nl (RpL.map (f := D.str) (g := V.str) (fun _ => rfl) ys)
  exact hq _ l F _ R2 (Same.refl F) n2 (h ys pm sr)
/-! ### data for repr and == -/
def consO : Option PyData → Option (List PyData) → Option (List PyData)
  | some x, some xs => some (x :: xs)
  | _, _ => none
mutual
def pd : D → Option PyData
  | .non => some .none
  | .bl b => some (.bool b)
  | .int i => some (.int i)
  | .str z => some (.str z)
  | .lst ds => (pdL ds).map .list
  | .tup ds => (pdL ds).map .tuple
  | _ => none
def pdL : List D → Option (List PyData)
  | [] => some []
  | d :: ds => consO (pd d) (pdL ds)
end
mutual
theorem pd_dp {K : PySem.W.Frag} {F H : Hp} (s : Same F H) : ∀ {d : D} {v : V} {x : PyData}, Rp K F d v → pd d = some x → Dp K H v x
  | .non, v, x, h, e => by
    obtain rfl : PyData.none = x := Option.some.inj e
    obtain rfl : v = .non := h
    exact .non
  | .bl b, v, x, h, e => by
    obtain rfl : PyData.bool b = x := Option.some.inj e
    obtain rfl : v = .bl b := h
    exact .bl b
  | .int b, v, x, h, e => by
    obtain rfl : PyData.int b = x := Option.some.inj e
    obtain rfl : v = .int b := h
    exact .int b
  | .str b, v, x, h, e => by
    obtain rfl : PyData.str b = x := Option.some.inj e
    obtain rfl : v = .str b := h
    exact .str b
  | .lst ds, v, x, h, e => by
    obtain ⟨a, vs, rfl, q, r⟩ := h
    have e : (pdL ds).map PyData.list = some x := e
    cases e2 : pdL ds with
    | none => rw [e2] at e; exact nomatch e
    | some xs =>
      rw [e2] at e
      obtain rfl : PyData.list xs = x := Option.some.inj e
      exact .lst (sqL_of (s _ _ q)) (pdL_dp s r e2)
  | .tup ds, v, x, h, e => by
    obtain ⟨a, vs, rfl, q, r⟩ := h
    have e : (pdL ds).map PyData.tuple = some x := e
    cases e2 : pdL ds with
    | none => rw [e2] at e; exact nomatch e
    | some xs =>
      rw [e2] at e
      obtain rfl : PyData.tuple xs = x := Option.some.inj e
      exact .tup (sqT_mono s q) (pdL_dp s r e2)
  | .ty _, v, x, h, e => nomatch e
  | .ins _ _ _, v, x, h, e => nomatch e
  | .dic _ _, v, x, h, e => nomatch e
  | .op _, v, x, h, e => nomatch e
theorem pdL_dp {K : PySem.W.Frag} {F H : Hp} (s : Same F H) : ∀ {ds : List D} {vs : List V} {xs : List PyData}, RpL K F ds vs → pdL ds = some xs → DpAll K H vs xs
  | [], vs, xs, h, e => by
    obtain rfl : [] = xs := Option.some.inj e
    obtain rfl : vs = [] := h
    exact .nil
  | d :: ds, vs, xs, h, e => by
    obtain ⟨v, r, rfl, q, t⟩ := h
    have e : consO (pd d) (pdL ds) = some xs := e
    cases e1 : pd d with
    | none => rw [e1] at e; exact nomatch e
    | some y =>
      cases e2 : pdL ds with
      | none => rw [e1, e2] at e; exact nomatch e
      | some ys =>
        rw [e1, e2] at e
        obtain rfl : y :: ys = xs := Option.some.inj e
        exact .cons (pd_dp s q e1) (pdL_dp s t e2)
end
theorem pd_rn {K : PySem.W.Frag} {F H : Hp} (s : Same F H) {d : D} {v : V} {x : PyData} (h : Rn K F H d v) (e : pd d = some x) : Dp K H v x := by
  cases d with
  | lst ds =>
    obtain ⟨a, vs, rfl, q, r⟩ := h
    have e : (pdL ds).map PyData.list = some x := e
    cases e2 : pdL ds with
    | none => rw [e2] at e; exact nomatch e
    | some xs =>
      rw [e2] at e
      obtain rfl : PyData.list xs = x := Option.some.inj e
      exact .lst (sqL_of q) (pdL_dp s r e2)
  | _ => exact pd_dp s h e
def oRepr : OL := fun as Q => ∃ d x, as = [d] ∧ pd d = some x ∧ x.showable = true ∧ x.depth ≤ 50 ∧ x.shown.length ≤ sizeLine ∧ Q (.str x.shown)
theorem lc_repr : LiC X (rReprD X.K) oRepr := by
  intro c hX σ F H ρ xs dxs Q Q3 R rx hq h
  subst hX
  obtain ⟨d, x, rfl, e, h1, h2, h3, q⟩ := h
  obtain ⟨v, t, rfl, rv, et⟩ := rx
  obtain rfl : t = [] := et
  exact ⟨v, x, rfl, pd_rn R.sub rv e, h1, h2, h3, hq (.str _) _ F H R (Same.refl F) rfl q⟩
def oEqD (neg : Bool) : O2 := fun dx dy Q => ∃ x y, pd dx = some x ∧ pd dy = some y ∧ SeqAt.shaped x = true ∧ SeqAt.shaped y = true ∧ Q (.bl (if neg then !PyData.eqv x y else PyData.eqv x y))
theorem lr_eqD : LiR X (rEqD X.K) (oEqD false) := by
  intro c hX σ F H ρ x y dx dy Q Q3 R rx ry hq h
  subst hX
  obtain ⟨a, b, e1, e2, s1, s2, q⟩ := h
  exact ⟨a, b, pd_rn R.sub rx e1, pd_rn R.sub ry e2, s1, s2, hq (.bl _) _ F H R (Same.refl F) rfl q⟩
theorem lr_neD : LiR X (rNeD X.K) (oEqD true) := by
  intro c hX σ F H ρ x y dx dy Q Q3 R rx ry hq h
  subst hX
  obtain ⟨a, b, e1, e2, s1, s2, q⟩ := h
  exact ⟨a, b, pd_rn R.sub rx e1, pd_rn R.sub ry e2, s1, s2, hq (.bl _) _ F H R (Same.refl F) rfl q⟩
/-! ### an own list's methods -/
def ownP (Q : Bool → List D → Prop) : Option PV → Prop
  | some (.own f ds) => Q f ds
  | _ => False
theorem ownP_is {Q : Bool → List D → Prop} {o : Option PV} (h : ownP Q o) : ∃ f ds, o = some (.own f ds) ∧ Q f ds := by
  match o, h with
  | some (.own f ds), h => exact ⟨f, ds, rfl, h⟩
def qAppend (i : Nat) (pe : QD) : QE := fun ρ Q => ownP (fun _ _ => pe ρ fun d ρ1 => ownP (fun f ds => ds.length < sizeLine ∧ Q (.val .non) (ρ1.set i (.own f (ds ++ [d])))) ρ1[i]?) ρ[i]?
theorem li_append {i : Nat} {te : TE} {pe : QD} (h1 : LiD X te pe) : LiE X (tBM X.K "list" rAppend (tVar i) (tCons te tNil)) (qAppend i pe) := by
  intro c hX σ F H ρ Q Q3 R hq h
  obtain ⟨f0, ds0, hi0, h⟩ := ownP_is h
  obtain ⟨p, vs0, ep, hF0, hp0, _⟩ := R.slot i _ hi0
  refine ⟨.ref p, ep, Or.inl ⟨rfl, _, sqL_of hp0⟩, ?_⟩
  refine h1 c hX σ F H ρ _ _ R ?_ h
  intro d ρ1 v F1 H1 R1 s1 rv q1
  obtain ⟨f, ds, hi, hz, q⟩ := ownP_is q1
  obtain ⟨p1, vs, ep1, hF, hp, hr, _⟩ := R1.slot i _ hi
  rw [ep] at ep1
  obtain rfl : p = p1 := by injection ep1 with ep1; injection ep1 with ep1; injection ep1
  have hr2 : RpL c.K F1 (ds ++ [d]) (vs ++ [v]) := hr.app ⟨v, [], rfl, rv, rfl⟩
  exact ⟨p, vs, v, rfl, rfl, hp, by rw [hr.len]; exact hz, hq (.val .non) _ .non F1 _ (R1.mutOwn hi ep hr2) s1 rfl q⟩
/-- xs.extend(ys) -/
def qExtend (i : Nat) (pe : QE) : QE := fun ρ Q => ownP (fun _ _ => pe ρ fun r ρ1 => ownP (fun f ds => ∃ es, rdR ρ1 r = some (.lst es) ∧ ds.length + es.length ≤ sizeLine ∧ Q (.val .non) (ρ1.set i (.own f (ds ++ es)))) ρ1[i]?) ρ[i]?
theorem li_extend {i : Nat} {te : TE} {pe : QE} (h1 : LiE X te pe) : LiE X (tBM X.K "list" rExtend (tVar i) (tCons te tNil)) (qExtend i pe) := by
  intro c hX σ F H ρ Q Q3 R hq h
  obtain ⟨f0, ds0, hi0, h⟩ := ownP_is h
  obtain ⟨p, vs0, ep, hF0, hp0, _⟩ := R.slot i _ hi0
  refine ⟨.ref p, ep, Or.inl ⟨rfl, _, sqL_of hp0⟩, ?_⟩
  refine h1 c hX σ F H ρ _ _ R ?_ h
  intro r ρ1 v F1 H1 R1 s1 rv q1
  obtain ⟨f, ds, hi, es, er, hz, q⟩ := ownP_is q1
  obtain ⟨p1, vs, ep1, hF, hp, hr, _⟩ := R1.slot i _ hi
  rw [ep] at ep1
  obtain rfl : p = p1 := by injection ep1 with ep1; injection ep1 with ep1; injection ep1
  obtain ⟨p2, vs2, rfl, hp2, hr2⟩ := rv.rn R1 er
  exact ⟨p, p2, vs, vs2, rfl, rfl, hp, hp2, by rw [hr.len, hr2.len]; exact hz, hq (.val .non) _ .non F1 _ (R1.mutOwn hi ep (hr.app hr2)) s1 rfl q⟩
def qPop (i : Nat) : QE := fun ρ Q => ownP (fun f ds => ∃ ds' d, ds = ds' ++ [d] ∧ Q (.val d) (ρ.set i (.own f ds'))) ρ[i]?
theorem dropLast_rp {K : PySem.W.Frag} {F : Hp} {ds : List D} {d : D} {vs : List V} (h : RpL K F (ds ++ [d]) vs) : ∃ ws v, vs = ws ++ [v] ∧ RpL K F ds ws ∧ Rp K F d v := by
  have h1 := h.take ds.length
  have h2 := h.drop ds.length
  rw [List.take_left] at h1
  rw [List.drop_left] at h2
  obtain ⟨v, t, e, r1, r2⟩ := h2
  obtain rfl : t = [] := r2
  exact ⟨_, v, by rw [← e, List.take_append_drop], h1, r1⟩
theorem li_pop {i : Nat} : LiE X (tBM0 X.K "list" rPop (tVar i)) (qPop i) := by
  intro c hX σ F H ρ Q Q3 R hq h
  obtain ⟨f, ds, hi, ds', d, rfl, q⟩ := ownP_is h
  obtain ⟨p, vs, ep, hF, hp, hr, _⟩ := R.slot i _ hi
  obtain ⟨ws, v, rfl, r1, r2⟩ := dropLast_rp hr
  refine ⟨.ref p, ep, Or.inl ⟨rfl, _, sqL_of hp⟩, p, ws ++ [v], v, rfl, rfl, hp, by simp, ?_⟩
  rw [List.dropLast_concat]
  exact hq (.val d) _ v F _ (R.mutOwn hi ep r1) (Same.refl F) r2 q
def qPopAt (i : Nat) (pe : QE) : QE := fun ρ Q => ownP (fun _ _ => pe ρ fun r ρ1 => ownP (fun f ds => ∃ (k : Int) (j : Nat) (d : D), r = .val (.int k) ∧ -(2 ^ 63) ≤ k ∧ k < 2 ^ 63 ∧ seqIndex? k ds.length = some j ∧ ds[j]? = some d ∧ Q (.val d) (ρ1.set i (.own f (ds.eraseIdx j)))) ρ1[i]?) ρ[i]?
theorem li_popAt {i : Nat} {te : TE} {pe : QE} (h1 : LiE X te pe) : LiE X (tBM X.K "list" rPopAt (tVar i) (tCons te tNil)) (qPopAt i pe) := by
  intro c hX σ F H ρ Q Q3 R hq h
  obtain ⟨f0, ds0, hi0, h⟩ := ownP_is h
  obtain ⟨p, vs0, ep, hF0, hp0, _⟩ := R.slot i _ hi0
  refine ⟨.ref p, ep, Or.inl ⟨rfl, _, sqL_of hp0⟩, ?_⟩
  refine h1 c hX σ F H ρ _ _ R ?_ h
  intro r ρ1 v F1 H1 R1 s1 rv q1
  obtain ⟨f, ds, hi, k, j, d, rfl, b1, b2, e1, e2, q⟩ := ownP_is q1
  obtain rfl : v = .int k := rv
  obtain ⟨p1, vs, ep1, hF, hp, hr, _⟩ := R1.slot i _ hi
  rw [ep] at ep1
  obtain rfl : p = p1 := by injection ep1 with ep1; injection ep1 with ep1; injection ep1
  obtain ⟨u, e3, ru⟩ := hr.get' e2
  exact ⟨p, vs, k, j, u, rfl, rfl, hp, b1, b2, by rw [hr.len]; exact e1, e3, hq (.val d) _ u F1 _ (R1.mutOwn hi ep (hr.erase j)) s1 ru q⟩
/-- xs[i] = e -/
def sSet (i : Nat) (pi : QE) (pe : QD) : QS := fun P ρ => pe ρ fun d ρ1 => ownP (fun _ _ => pi ρ1 fun r ρ2 => ownP (fun f ds => ∃ (k : Int) (j : Nat), r = .val (.int k) ∧ ixN ds.length k = some j ∧ P.nx (ρ2.set i (.own f (ds.set j d)))) ρ2[i]?) ρ1[i]?
theorem ls_set {i : Nat} {ti te : TE} {pi : QE} {pe : QD} (h1 : LiE X ti pi) (h2 : LiD X te pe) : LiS X (tAsg te (gSub (tVar i) ti rSetL)) (sSet i pi pe) := by
  intro c hX σ F H ρ D P R a h
  refine h2 c hX σ F H ρ _ _ R ?_ h
  intro d ρ1 v F1 H1 R1 s1 rv q1
  obtain ⟨f0, ds0, hi0, h⟩ := ownP_is q1
  obtain ⟨p, vs0, ep, hF0, hp0, _⟩ := R1.slot i _ hi0
  refine ⟨.ref p, ep, ?_⟩
  refine h1 c hX σ F1 H1 ρ1 _ _ R1 ?_ h
  intro r ρ2 w F2 H2 R2 s2 rw2 q2
  obtain ⟨f, ds, hi, k, j, rfl, e1, q⟩ := ownP_is q2
  obtain rfl : w = .int k := rw2
  obtain ⟨p1, vs, ep1, hF, hp, hr, _⟩ := R2.slot i _ hi
  rw [ep] at ep1
  obtain rfl : p = p1 := by injection ep1 with ep1; injection ep1 with ep1; injection ep1
  exact ⟨p, vs, k, j, rfl, rfl, hp, by rw [hr.len]; exact e1, a.nx σ F2 _ _ (R2.mutOwn hi ep (hr.set j (rv.mono s2))) (tr s1 s2) q⟩
end
end L3
/-! Promises known already, told in plain data. -/
namespace L3
open PySem PySem.Spec PyProof.Rows L2 TB LamX
open C8 (Cal Met Mak)
section
variable {P : Program} {w : World} {K : PySem.W.Frag} {mg : Str → Option Value} {base : Heap} {k : Nat} {x m : Str} {C : Addr} {sp sp' : Sp} {dvs : List V}
theorem cal_imp (c : Cal P w K mg base k x sp dvs) (h : ∀ vs H Q E, sp' vs H Q E → sp vs H Q E) : Cal P w K mg base k x sp' dvs := by
  obtain ⟨f, fd, ps, ds, F, r⟩ := c.ex
  exact ⟨f, fd, ps, ds, F.imp h, r⟩
theorem met_imp (c : Met P w K mg base k C m sp dvs) (h : ∀ vs H Q E, sp' vs H Q E → sp vs H Q E) : Met P w K mg base k C m sp' dvs := by
  obtain ⟨f, fd, ps, ds, c1, c2, F, r⟩ := c.ex
  exact ⟨f, fd, ps, ds, c1, c2, F.imp h, r⟩
end
section
variable {X : Sx} {F H : Hp} {vs : List V} {ds : List D}
theorem RpL.of_get {K : PySem.W.Frag} {F : Hp} : ∀ {ds : List D} {vs : List V}, vs.length = ds.length → (∀ (j : Nat) d v, ds[j]? = some d → vs[j]? = some v → Rp K F d v) → RpL K F ds vs
  | [], vs, e, _ => List.eq_nil_of_length_eq_zero e
  | d :: ds, [], e, _ => nomatch e
  | d :: ds, v :: vs, e, h => ⟨v, vs, rfl, h 0 d v rfl rfl, RpL.of_get (Nat.succ.inj e) fun j d v h1 h2 => h (j + 1) d v (by simpa using h1) (by simpa using h2)⟩
theorem Entry.rpl (e : Entry X none F H vs ds) : RpL X.K F ds vs := RpL.of_get e.len fun j d v h1 h2 => e.arg j d v h1 h2 (fun z => nomatch z)
theorem Entry.rel {io : Option Nat} (e : Entry X io F H vs ds) (B : List Addr) : Rel ⟨X, fun p => H p = none, [], F, H, B⟩ F H [] [] :=
  ⟨rfl, e.sub, fun i pv h => by simp at h, fun i j f1 o1 f2 o2 p h => by simp at h, e.nt, e.tab, e.tabF, Same.refl F, fun _ _ z _ _ => z, fun _ z => z, fun _ _ z => Or.inl z, fun _ z => z⟩
theorem Exit.same (e : Entry X none F H vs ds) {r : Rs} {v : V} (h : RsX X H F H r v) : Exit X none F H vs F H r none v := ⟨e.rel [], h, fun _ _ z => nomatch z⟩
theorem Exit.newL (e : Entry X none F H vs ds) {p : Addr} {ws : List V} {es : List D} (np : H p = none) (r : RpL X.K F es ws) : Exit X none F H vs F (upd H p (.lst ws)) (.new es) none (.ref p) :=
  ⟨(e.rel []).allocH np trivial, ⟨p, ws, rfl, (e.rel []).fnone np, np, upd_same, r⟩, fun _ _ z => nomatch z⟩
def potD : D := .op ⟨fun F v => ∃ p, v = .ref p ∧ F p = some (PotO p), fun s h => by
  obtain ⟨p, e, h⟩ := h
  exact ⟨p, e, s _ _ h⟩⟩
def ordD (C : Addr) (ls : List Str) (ps : List Pr) : D := .op ⟨fun F v => ∃ x, v = .ref x ∧ OrdAt C F x ls ps, fun s h => by
  obtain ⟨p, e, h⟩ := h
  exact ⟨p, e, h.same s⟩⟩
/-- some object -/
def anyD : D := .op ⟨fun _ v => ∃ a, v = .ref a, fun _ h => h⟩
abbrev strsD (ws : List Str) : List D := ws.map D.str
theorem rpl1 {K : PySem.W.Frag} {d : D} (h : RpL K F [d] vs) : ∃ v, vs = [v] ∧ Rp K F d v := by
  obtain ⟨v, t, rfl, q, e⟩ := h
  obtain rfl : t = [] := e
  exact ⟨v, rfl, q⟩
theorem rpl2 {K : PySem.W.Frag} {d d2 : D} (h : RpL K F [d, d2] vs) : ∃ v v2, vs = [v, v2] ∧ Rp K F d v ∧ Rp K F d2 v2 := by
  obtain ⟨v, t, rfl, q, h⟩ := h
  obtain ⟨v2, rfl, q2⟩ := rpl1 h
  exact ⟨v, v2, rfl, q, q2⟩
theorem rpl3 {K : PySem.W.Frag} {d d2 d3 : D} (h : RpL K F [d, d2, d3] vs) : ∃ v v2 v3, vs = [v, v2, v3] ∧ Rp K F d v ∧ Rp K F d2 v2 ∧ Rp K F d3 v3 := by
  obtain ⟨v, t, rfl, q, h⟩ := h
  obtain ⟨v2, v3, rfl, q2, q3⟩ := rpl2 h
  exact ⟨v, v2, v3, rfl, q, q2, q3⟩
/-! ### the promises -/
def pDraw : PSp := fun ds Q => ∃ m : Int, ds = [potD, .int m] ∧ 0 < m ∧ m < 2 ^ 64 ∧ ∀ d : Int, 0 ≤ d → d < m → Q (.val (.int d)) none
def pNumber : PSp := fun ds Q => ds = [potD] ∧ ∀ d : Int, -(10 ^ 18) ≤ d → d ≤ 10 ^ 18 → Q (.val (.int d)) none
def pName : PSp := fun ds Q => ∃ ws : List Str, ds = [potD, .lst (strsD ws)] ∧ ws.length < 26 ∧ ∀ z : Str, Nm z → z ∉ ws → Q (.val (.str z)) (some (strsD (ws ++ [z])))
def pLatches : PSp := fun ds Q => ds = [potD] ∧ ∀ ws : List Str, ws.Nodup → (∀ z ∈ ws, Nm z) → 1 ≤ ws.length → ws.length ≤ 7 → Q (.new (strsD ws)) none
def pHas (C : Addr) : PSp := fun ds Q => ∃ ls ps a b, ds = [ordD C ls ps, .str a, .str b] ∧ OrdOk ls ps ∧ a ∈ ls ∧ b ∈ ls ∧ Q (.val (.bl (decide ((a, b) ∈ ps)))) none
def pBehind (C : Addr) : PSp := fun ds Q => ∃ ls ps a, ds = [ordD C ls ps, .str a] ∧ OrdOk ls ps ∧ a ∈ ls ∧ ∀ fs : List Str, (∀ z, z ∈ fs ↔ Rch ps a z) → Q (.new (strsD (ls.filter fun z => decide (z ∈ fs)))) none
def pAfter (C : Addr) : PSp := fun ds Q => ∃ ls ps a, ds = [ordD C ls ps, .str a] ∧ OrdOk ls ps ∧ Q (.new (strsD (afterP ps a))) none
def pLeads (C : Addr) : PSp := fun ds Q => ∃ ls ps a b, ds = [ordD C ls ps, .str a, .str b] ∧ OrdOk ls ps ∧ a ∈ ls ∧ b ∈ ls ∧ ∀ k : Bool, (k = true ↔ Rch ps a b) → Q (.val (.bl k)) none
def pLocks (C : Addr) : PSp := fun ds Q => ∃ ls ps, ds = [ordD C ls ps] ∧ Q (.new (strsD ls)) none
def pPairs (C : Addr) : PSp := fun ds Q => ∃ ls ps, ds = [ordD C ls ps] ∧ Q (.new (ps.map prD)) none
def pAdded (C : Addr) : PSp := fun ds Q => ∃ ls ps a b, ds = [ordD C ls ps, .str a, .str b] ∧ OrdOk ls ps ∧ a ∈ ls ∧ b ∈ ls ∧ a ≠ b ∧ ¬ Rch ps b a ∧ ∀ qs, OrdOk ls qs → (∀ z, z ∈ qs ↔ z ∈ ps ∨ z = (a, b)) → Q (.val (ordD C ls qs)) none
theorem i_draw {spD : Sp} (hs : ∀ (p : Addr) (m : Int) (H : Hp) (Q : VK) (E : XK), H p = some (PotO p) → NoT H → 0 < m → m < 2 ^ 64 → (∀ d : Int, 0 ≤ d → d < m → Q (.int d) H) → spD [.ref p, .int m] H Q E) : ∀ vs H Q E, lsp X none pDraw vs H Q E → spD vs H Q E := by
  rintro vs H Q E ⟨F, ds, Q3, en, ⟨m, rfl, h0, h1, h⟩, hQ⟩
  obtain ⟨v1, v2, rfl, ⟨p, rfl, hp⟩, e2⟩ := rpl2 en.rpl
  obtain rfl : v2 = .int m := e2
  exact hs p m H Q E (en.sub _ _ hp) en.nt h0 h1 fun d a b => hQ _ _ _ F H (Exit.same (r := .val (.int d)) en rfl) (h d a b)
theorem i_number {spD : Sp} (hs : ∀ (p : Addr) (H : Hp) (Q : VK) (E : XK), H p = some (PotO p) → NoT H → (∀ d : Int, -(10 ^ 18) ≤ d → d ≤ 10 ^ 18 → Q (.int d) H) → spD [.ref p] H Q E) : ∀ vs H Q E, lsp X none pNumber vs H Q E → spD vs H Q E := by
  rintro vs H Q E ⟨F, ds, Q3, en, ⟨rfl, h⟩, hQ⟩
  obtain ⟨v1, rfl, p, rfl, hp⟩ := rpl1 en.rpl
  exact hs p H Q E (en.sub _ _ hp) en.nt fun d a b => hQ _ _ _ F H (Exit.same (r := .val (.int d)) en rfl) (h d a b)
theorem rp_strs {K : PySem.W.Frag} (ws : List Str) : RpL K F (strsD ws) (ws.map V.str) := RpL.map (f := D.str) (g := V.str) (fun _ => rfl) ws
theorem i_latches {spD : Sp} (hs : ∀ (p : Addr) (H : Hp) (Q : VK) (E : XK), H p = some (PotO p) → NoT H → (∀ (l : Addr) (ws : List Str), H l = none → ws.Nodup → (∀ z ∈ ws, Nm z) → 1 ≤ ws.length → ws.length ≤ 7 → Q (.ref l) (upd H l (.lst (ws.map V.str)))) → spD [.ref p] H Q E) : ∀ vs H Q E, lsp X none pLatches vs H Q E → spD vs H Q E := by
  rintro vs H Q E ⟨F, ds, Q3, en, ⟨rfl, h⟩, hQ⟩
  obtain ⟨v1, rfl, p, rfl, hp⟩ := rpl1 en.rpl
  exact hs p H Q E (en.sub _ _ hp) en.nt fun l ws nl a b c d => hQ _ _ _ F _ (Exit.newL en nl (rp_strs ws)) (h ws a b c d)
theorem i_name {spD : Sp} (hs : ∀ (p l : Addr) (ws : List Str) (H : Hp) (Q : VK) (E : XK), H p = some (PotO p) → H l = some (.lst (ws.map V.str)) → NoT H → ws.length < 26 → (∀ z : Str, Nm z → z ∉ ws → Q (.str z) (upd H l (.lst ((ws ++ [z]).map V.str)))) → spD [.ref p, .ref l] H Q E) : ∀ vs H Q E, lsp X (some 1) pName vs H Q E → spD vs H Q E := by
  rintro vs H Q E ⟨F, ds, Q3, en, ⟨ws, rfl, h0, h⟩, hQ⟩
  obtain ⟨l, us, es, e1, e2, hF, hl, hr⟩ := en.ioA 1 rfl
  obtain rfl : strsD ws = es := by
    have e3 : some (D.lst (strsD ws)) = some (.lst es) := e2
    injection e3 with e3; injection e3
  obtain rfl := hr.strs
  have hvl := en.len
  match vs, hvl, e1 with
  | [v1, v2], _, e1 =>
    obtain rfl : v2 = .ref l := Option.some.inj e1
    obtain ⟨p, rfl, hp⟩ := en.arg 0 potD v1 rfl rfl (fun z => nomatch z)
    refine hs p l ws H Q E (en.sub _ _ hp) hl en.nt h0 fun z a b => ?_
    refine hQ (.val (.str z)) (some (strsD (ws ++ [z]))) (.str z) F _ ⟨(en.rel [l]).mutH hl hF (Or.inl (List.mem_singleton.mpr rfl)) (fun i f o h => by simp at h), rfl, fun j q z1 z2 => ?_⟩ (h z a b)
    obtain rfl : 1 = j := Option.some.inj z1
    obtain rfl : l = q := by
      have z3 : some (V.ref l) = some (.ref q) := z2
      injection z3 with z3; injection z3
    exact ⟨_, _, rfl, upd_same, rp_strs _⟩
theorem i_has {C : Addr} : ∀ vs H Q E, lsp X none (pHas C) vs H Q E → spHas C vs H Q E := by
  rintro vs H Q E ⟨F, ds, Q3, en, ⟨ls, ps, a, b, rfl, ok, ha, hb, h⟩, hQ⟩
  obtain ⟨v1, v2, v3, rfl, ⟨y, rfl, hy⟩, e2, e3⟩ := rpl3 en.rpl
  obtain rfl : v2 = .str a := e2
  obtain rfl : v3 = .str b := e3
  exact ⟨y, a, b, ls, ps, rfl, hy.same en.sub, ok, ha, hb, en.nt, hQ _ _ _ F H (Exit.same (r := .val (.bl _)) en rfl) h⟩
theorem i_leads {C : Addr} : ∀ vs H Q E, lsp X none (pLeads C) vs H Q E → spLeads C vs H Q E := by
  rintro vs H Q E ⟨F, ds, Q3, en, ⟨ls, ps, a, b, rfl, ok, ha, hb, h⟩, hQ⟩
  obtain ⟨v1, v2, v3, rfl, ⟨y, rfl, hy⟩, e2, e3⟩ := rpl3 en.rpl
  obtain rfl : v2 = .str a := e2
  obtain rfl : v3 = .str b := e3
  exact ⟨y, a, b, ls, ps, rfl, hy.same en.sub, ok, ha, hb, en.nt, fun k hk => hQ _ _ _ F H (Exit.same (r := .val (.bl _)) en rfl) (h k hk)⟩
theorem i_behind {C : Addr} : ∀ vs H Q E, lsp X none (pBehind C) vs H Q E → spBehind C vs H Q E := by
  rintro vs H Q E ⟨F, ds, Q3, en, ⟨ls, ps, a, rfl, ok, ha, h⟩, hQ⟩
  obtain ⟨v1, v2, rfl, ⟨y, rfl, hy⟩, e2⟩ := rpl2 en.rpl
  obtain rfl : v2 = .str a := e2
  exact ⟨y, a, ls, ps, rfl, hy.same en.sub, ok, ha, en.nt, fun p fs np hfs => hQ _ _ _ F _ (Exit.newL en np (rp_strs _)) (h fs hfs)⟩
theorem i_after {C : Addr} : ∀ vs H Q E, lsp X none (pAfter C) vs H Q E → spAfter C vs H Q E := by
  rintro vs H Q E ⟨F, ds, Q3, en, ⟨ls, ps, a, rfl, ok, h⟩, hQ⟩
  obtain ⟨v1, v2, rfl, ⟨y, rfl, hy⟩, e2⟩ := rpl2 en.rpl
  obtain rfl : v2 = .str a := e2
  exact ⟨y, a, ls, ps, rfl, hy.same en.sub, ok, fun p np => hQ _ _ _ F _ (Exit.newL en np (rp_strs _)) h⟩
theorem i_locks {C : Addr} : ∀ vs H Q E, lsp X none (pLocks C) vs H Q E → spLocks C vs H Q E := by
  rintro vs H Q E ⟨F, ds, Q3, en, ⟨ls, ps, rfl, h⟩, hQ⟩
  obtain ⟨v1, rfl, y, rfl, hy⟩ := rpl1 en.rpl
  exact ⟨y, ls, ps, rfl, hy.same en.sub, fun p np => hQ _ _ _ F _ (Exit.newL en np (rp_strs _)) h⟩
theorem rp_prs {K : PySem.W.Frag} : ∀ {rs : List V} {ps : List Pr}, Prs F rs ps → RpL K F (ps.map prD) rs
  | _, _, .nil => rfl
  | _, _, .cons ⟨t, e, z⟩ r => ⟨_, _, rfl, ⟨t, _, e, sqT_of z, _, _, rfl, rfl, _, _, rfl, rfl, rfl⟩, rp_prs r⟩
/-- what may be added to F: things that never change, new things -/
noncomputable def addF (F H H' : Hp) : Hp := open Classical in fun b => match F b with
  | some o => some o
  | none => match H' b with
    | some o => if H b = none ∨ Imm o then some o else none
    | none => none
theorem addF_new {H' : Hp} {b : Addr} {o : HO} (s : Same F H') (e : H' b = some o) (h : H b = none ∨ Imm o) : addF F H H' b = some o := by
  unfold addF
  cases e2 : F b with
  | some u =>
    rw [s _ _ e2] at e
    exact e
  | none =>
    simp only [e]
    rw [if_pos h]
theorem addF_is {H' : Hp} {b : Addr} {o : HO} (s : Same F H') (h : addF F H H' b = some o) : H' b = some o ∧ (F b = some o ∨ H b = none ∨ Imm o) := by
  unfold addF at h
  cases e2 : F b with
  | some u =>
    rw [e2] at h
    obtain rfl : u = o := Option.some.inj h
    exact ⟨s _ _ e2, Or.inl rfl⟩
  | none =>
    rw [e2] at h
    cases e3 : H' b with
    | none => simp only [e3] at h; exact nomatch h
    | some u =>
      simp only [e3] at h
      by_cases hc : H b = none ∨ Imm u
      · rw [if_pos hc] at h
        obtain rfl : u = o := Option.some.inj h
        exact ⟨rfl, Or.inr hc⟩
      · rw [if_neg hc] at h
        exact nomatch h
/-- behind a call that may have changed a table -/
theorem step_tg {T : Addr} {q : Str} {H' : Hp} (e : Entry X none F H vs ds) (hT : X.tb = [(T, q)]) (t : Tg T q H H') : Same F H' ∧ Same F (addF F H H') ∧ Step X [] F H (addF F H H') H' := by
  have tb : TabS H T q := e.tab (T, q) (by rw [hT]; exact List.mem_singleton.mpr rfl)
  have fT : F T = none := e.tabF (T, q) (by rw [hT]; exact List.mem_singleton.mpr rfl)
  have sF : Same F H' := fun b o z => t.kp b o (e.sub _ _ z) (fun m => by
    rw [List.mem_singleton.mp m, fT] at z
    exact nomatch z)
  have sA : Same F (addF F H H') := fun b o z => by
    unfold addF
    simp only [z]
  have hmem : (T, q) ∈ X.tb := by rw [hT]; exact List.mem_singleton.mpr rfl
  have honly : ∀ x ∈ X.tb, x = (T, q) := fun x hx => by rw [hT] at hx; exact List.mem_singleton.mp hx
  refine ⟨sF, sA, rfl, fun b o z => (addF_is sF z).1, fun i pv h => by simp at h, fun i j f1 o1 f2 o2 p h => by simp at h, t.nt e.nt, fun x hx => ?_, fun x hx => ?_, sA, fun b o z _ m => t.kp b o z (fun w => m (T, q) hmem (List.mem_singleton.mp w)), fun b z => TB.Tg.none t tb z, fun b o z => ?_, fun b z => TB.Tg.none t tb z⟩
  · rw [honly x hx]
    exact t.tab
  · rw [honly x hx]
    cases w : addF F H H' T with
    | none => rfl
    | some o =>
      obtain ⟨w1, w2⟩ := addF_is sF w
      obtain ⟨ts, e2, _⟩ := t.tab
      rw [e2] at w1
      cases w1
      rcases w2 with w2 | w2 | w2
      · rw [fT] at w2
        exact nomatch w2
      · obtain ⟨ts2, e3, _⟩ := tb
        rw [e3] at w2
        exact nomatch w2
      · exact w2.elim
  · rcases (addF_is sF z).2 with w | w | w
    · exact Or.inl w
    · exact Or.inr (Or.inl w)
    · exact Or.inr (Or.inr (Or.inr w))
theorem ord_addF {C y : Addr} {H' : Hp} {ls : List Str} {ps : List Pr} (s : Same F H') (h : OrdAt C H' y ls ps) (ny : H y = none) : OrdAt C (addF F H H') y ls ps := by
  obtain ⟨dx, tl, tp, rs, h1, ⟨o, d, h2⟩, h3, h4⟩ := h
  exact ⟨dx, tl, tp, rs, addF_new s h1 (Or.inl ny), ⟨o, d, addF_new s h2 (Or.inr trivial)⟩, addF_new s h3 (Or.inr trivial), h4.keep fun b xs e => addF_new s e (Or.inr trivial)⟩
theorem i_added {C T : Addr} {q : Str} (hT : X.tb = [(T, q)]) : ∀ vs H Q E, lsp X none (pAdded C) vs H Q E → spAdded C T q vs H Q E := by
  rintro vs H Q E ⟨F, ds, Q3, en, ⟨ls, ps, a, b, rfl, ok, ha, hb, hab, hr, h⟩, hQ⟩
  obtain ⟨v1, v2, v3, rfl, ⟨y, rfl, hy⟩, e2, e3⟩ := rpl3 en.rpl
  obtain rfl : v2 = .str a := e2
  obtain rfl : v3 = .str b := e3
  have tb : TabS H T q := en.tab (T, q) (by rw [hT]; exact List.mem_singleton.mpr rfl)
  refine ⟨y, a, b, ls, ps, rfl, hy.same en.sub, ok, ha, hb, hab, hr, en.nt, tb, fun H' y2 qs t oy ok2 hm ny => ?_⟩
  obtain ⟨s1, s2, st⟩ := step_tg en hT t
  exact hQ (.val (ordD C ls qs)) none (.ref y2) _ H' ⟨st, ⟨y2, rfl, ord_addF s1 oy ny⟩, fun _ _ z => nomatch z⟩ (h qs ok2 hm)
theorem i_pairs {C : Addr} : ∀ vs H Q E, lsp X none (pPairs C) vs H Q E → spPairs C vs H Q E := by
  rintro vs H Q E ⟨F, ds, Q3, en, ⟨ls, ps, rfl, h⟩, hQ⟩
  obtain ⟨v1, rfl, y, rfl, hy⟩ := rpl1 en.rpl
  refine ⟨y, ls, ps, rfl, hy.same en.sub, fun p rs np hp => ?_⟩
  have R0 := en.rel []
  -- the pairs themselves never change: they may be told
  have s0 : Same F H := en.sub
  have sA : Same F (addF F H H) := fun b o z => by
    unfold addF
    simp only [z]
  have RA : Rel ⟨X, fun p => H p = none, [], F, H, []⟩ (addF F H H) H [] [] := by
    refine ⟨rfl, fun b o z => (addF_is s0 z).1, fun i pv h => by simp at h, R0.sep, R0.nt, R0.tab, fun x hx => ?_, sA, R0.kp, R0.dom, fun b o z => ?_, R0.new⟩
    · cases w : addF F H H x.1 with
      | none => rfl
      | some o =>
        obtain ⟨w1, w2⟩ := addF_is s0 w
        obtain ⟨ts, e2, _⟩ := en.tab x hx
        rw [e2] at w1
        cases w1
        rcases w2 with w2 | w2 | w2
        · rw [en.tabF x hx] at w2
          exact nomatch w2
        · rw [e2] at w2
          exact nomatch w2
        · exact w2.elim
    · rcases (addF_is s0 z).2 with w | w | w
      · exact Or.inl w
      · exact Or.inr (Or.inl w)
      · exact Or.inr (Or.inr (Or.inr w))
  have rr : RpL X.K (addF F H H) (ps.map prD) rs := rp_prs (hp.keep fun b xs e => addF_new s0 e (Or.inr trivial))
  exact hQ (.new (ps.map prD)) none (.ref p) _ _ ⟨RA.allocH np trivial, ⟨p, rs, rfl, RA.fnone np, np, upd_same, rr⟩, fun _ _ z => nomatch z⟩ h
theorem isI_ord {K : PySem.W.Frag} {C : Addr} {ls : List Str} {ps : List Pr} {m : Str} (h : (m == ("own_locks" : Str)) = false ∧ (m == ("own_pairs" : Str)) = false := by decide) : IsI K C m (ordD C ls ps) := by
  rintro F v ⟨y, rfl, dx, tl, tp, rs, h1, _⟩
  refine ⟨y, dx, _, rfl, h1, ?_⟩
  simp only [List.lookup, h.1, h.2]
end
end L3
/-! Steps of plain readings; the lifts with K told. -/
namespace L3
open PySem PySem.Spec PyProof.Rows L2 TB LamX
open C8 (Cal Met Mak)
section
variable {X : Sx} {K : PySem.W.Frag}
theorem lg_tup' {n : Nat} {gs : TGs} {ps : QGs} {t : List Nat} (h1 : LiGs X gs ps t) (hK : X.K = K := by rfl) : LiG X (gTup K n gs) (gqTup n ps) t := by subst hK; exact lg_tup h1
theorem lg_unl' {n : Nat} {gs : TGs} {ps : QGs} {t : List Nat} (h1 : LiGs X gs ps t) (hK : X.K = K := by rfl) : LiG X (gUnl K n gs) (gqUnl n ps) t := by subst hK; exact lg_unl h1
theorem lii_list' {te : TE} {pe : QE} (h1 : LiE X te pe) (hK : X.K = K := by rfl) : LiI X (iList K te) (iqSeq pe) := by subst hK; exact lii_list h1
theorem lii_tup' {te : TE} {pe : QE} (h1 : LiE X te pe) (hK : X.K = K := by rfl) : LiI X (iTup K te) (iqTup pe) := by subst hK; exact lii_tup h1
theorem lii_enum' {ta : TA} {pa : QAD} (h1 : LiAD X ta pa) (hK : X.K = K := by rfl) : LiI X (iEnum K ta) (iqEnum pa) := by subst hK; exact lii_enum h1
theorem li_append' {i : Nat} {te : TE} {pe : QD} (h1 : LiD X te pe) (hK : X.K = K := by rfl) : LiE X (tBM K "list" rAppend (tVar i) (tCons te tNil)) (qAppend i pe) := by subst hK; exact li_append h1
theorem li_extend' {i : Nat} {te : TE} {pe : QE} (h1 : LiE X te pe) (hK : X.K = K := by rfl) : LiE X (tBM K "list" rExtend (tVar i) (tCons te tNil)) (qExtend i pe) := by subst hK; exact li_extend h1
theorem li_pop' {i : Nat} (hK : X.K = K := by rfl) : LiE X (tBM0 K "list" rPop (tVar i)) (qPop i) := by subst hK; exact li_pop
theorem li_popAt' {i : Nat} {te : TE} {pe : QE} (h1 : LiE X te pe) (hK : X.K = K := by rfl) : LiE X (tBM K "list" rPopAt (tVar i) (tCons te tNil)) (qPopAt i pe) := by subst hK; exact li_popAt h1
theorem lr_ixL' (hK : X.K = K := by rfl) : LiR X (rIxL K) oIxL := by subst hK; exact lr_ixL
theorem lr_ixT' (hK : X.K = K := by rfl) : LiR X (rIxT K) oIxT := by subst hK; exact lr_ixT
theorem lsl_L' (hK : X.K = K := by rfl) : LiSlN X (rSlL K) oSlL := by subst hK; exact lsl_L
theorem lsl_T' (hK : X.K = K := by rfl) : LiSl X (rSlA K) oSlT := by subst hK; exact lsl_T
theorem lr_catT' (hK : X.K = K := by rfl) : LiR X (rCatA K) oCatT := by subst hK; exact lr_catT
theorem lr_in' {neg : Bool} (hK : X.K = K := by rfl) : LiR X (rIn K neg) (oIn neg) := by subst hK; exact lr_in neg
theorem lc_len' (hK : X.K = K := by rfl) : LiC X (rLenL K) oLen := by subst hK; exact lc_len
theorem lc_list' (hK : X.K = K := by rfl) : LiCN X (rListL K) oList := by subst hK; exact lc_list
theorem lc_tuple' (hK : X.K = K := by rfl) : LiC X (rTupL K) oTuple := by subst hK; exact lc_tuple
theorem lc_all' (hK : X.K = K := by rfl) : LiC X (rAll K) (oAll true) := by subst hK; exact lc_all
theorem lc_any' (hK : X.K = K := by rfl) : LiC X (rAny K) (oAll false) := by subst hK; exact lc_any
theorem lc_sortS' (hK : X.K = K := by rfl) : LiCN X (rSortedS K) oSortS := by subst hK; exact lc_sortS
theorem lc_repr' (hK : X.K = K := by rfl) : LiC X (rReprD K) oRepr := by subst hK; exact lc_repr
theorem lr_eqD' (hK : X.K = K := by rfl) : LiR X (rEqD K) (oEqD false) := by subst hK; exact lr_eqD
theorem lr_neD' (hK : X.K = K := by rfl) : LiR X (rNeD K) (oEqD true) := by subst hK; exact lr_neD
theorem li_meth' {C : Addr} {m : Str} {P : PSp} {te : TE} {ta : TA} {pe : QE} {pa : QA} {E : XK} (h0 : LiE X te pe) (h1 : LiA X ta pa) (hK : X.K = K := by rfl) : LiE X (tMeth C m (lsp X none P) [] E te ta) (qMeth K C m P pe pa) := by subst hK; exact li_meth h0 h1
theorem li_methN' {C : Addr} {m : Str} {P : PSp} {te : TE} {ta : TA} {pe : QE} {pa : QA} {E : XK} (h0 : LiE X te pe) (h1 : LiA X ta pa) (hK : X.K = K := by rfl) : LiN X (tMeth C m (lsp X none P) [] E te ta) (qMethN K C m P pe pa) := by subst hK; exact li_methN h0 h1
theorem cr_anyK {Y : Cx} (K : PySem.W.Frag) (hc : Y.calm = true := by rfl) (hK : Y.K = K := by rfl) : CallR Y (.builtin "any") (rAny K) := by subst hK; exact cr_any hc
/-- an assignment to a name whose list will be changed -/
theorem toN {Y : Cx} {st : Stmt} {te : TE} {i : Nat} (h : PS Y st (tAsg te (gName i))) : PS Y st (tAsgN te i) := h
end
section
variable {ρ : PSt} {P : PEnds} {Q : Rv → PSt → Prop} {QD1 : D → PSt → Prop} {QN1 : List D → PSt → Prop} {QT1 : Bool → PSt → Prop} {QA1 : List Rv → PSt → Prop} {QAD1 : List D → PSt → Prop} {QO1 : Option Int → PSt → Prop}
  {p q : QS} {pe pe2 : QE} {pn : QN} {pd : QD} {pt pt2 : QT} {pa : QA} {pad : QAD} {g : QG} {gs : QGs} {po po2 : QO} {pi : QI} {i j : Nat} {d : D} {ds : List D} {f : Bool}
theorem w_seq (h : p { P with nx := q P } ρ) : sSeq p q P ρ := h
theorem w_next (h : P.nx ρ) : sNext P ρ := h
theorem w_drop (h : pe ρ fun _ ρ' => P.nx ρ') : sDrop pe P ρ := h
theorem w_ret (h : pd ρ fun d ρ' => P.rt (.val d) ρ') : sRet pd P ρ := h
theorem w_retNew (h : pn ρ fun ds ρ' => P.rt (.new ds) ρ') : sRetNew pn P ρ := h
theorem w_retV (e : ρ[i]? = some (.val d)) (h : P.rt (.val d) ρ) : sRetV i P ρ := by
  show retP ρ i P ρ[i]?
  rw [e]
  exact h
theorem w_retO (e : ρ[i]? = some (.own true ds)) (h : P.rt (.new ds) (ρ.set i .un)) : sRetV i P ρ := by
  show retP ρ i P ρ[i]?
  rw [e]
  exact h
theorem w_retN (h : P.rt (.val .non) ρ) : sRetN P ρ := h
theorem w_ifs (h : pt ρ fun b ρ1 => if b = true then p P ρ1 else q P ρ1) : sIf pt p q P ρ := h
theorem w_asg (h : pd ρ fun d ρ1 => g d ρ1 P.nx) : sAsg pd g P ρ := h
theorem w_own (h : pn ρ fun ds ρ1 => P.nx (ρ1.set i (.own true ds))) : sOwn pn i P ρ := h
theorem w_par (h : pad ρ fun ds ρ1 => ∃ d e, ds = [d, e] ∧ P.nx ((ρ1.set i (.val d)).set j (.val e))) : sPar i j pad P ρ := h
theorem w_for (h : pi ρ fun ds ρ1 => ForP ds g p P ρ1) : sFor pi g p P ρ := h
theorem w_name {R : PSt → Prop} (h : R (ρ.set i (.val d))) : gqName i d ρ R := h
theorem w_gnil {R : PSt → Prop} (h : R ρ) : gqNil [] ρ R := ⟨rfl, h⟩
theorem w_gcons {R : PSt → Prop} (h : g d ρ fun ρ' => gs ds ρ' R) : gqCons g gs (d :: ds) ρ R := ⟨d, ds, rfl, h⟩
theorem w_gtup {R : PSt → Prop} {n : Nat} (e : ds.length = n) (h : gs ds ρ R) : gqTup n gs (.tup ds) ρ R := ⟨ds, rfl, e, h⟩
theorem w_gunl {R : PSt → Prop} {n : Nat} (e : ds.length = n) (h : gs ds ρ R) : gqUnl n gs (.lst ds) ρ R := ⟨ds, rfl, e, h⟩
theorem w_var (e : ρ[i]? = some (.val d)) (h : Q (.val d) ρ) : qVar i ρ Q := by
  show qVarP i (fun r => Q r ρ) ρ[i]?
  rw [e]
  exact h
theorem w_varO (e : ρ[i]? = some (.own f ds)) (h : Q (.cell i) ρ) : qVar i ρ Q := by
  show qVarP i (fun r => Q r ρ) ρ[i]?
  rw [e]
  exact h
theorem w_cI {n : Int} (h : Q (.val (.int n)) ρ) : qC (.int n) ρ Q := h
theorem w_cS {z : Str} (h : Q (.val (.str z)) ρ) : qC (.str z) ρ Q := h
theorem w_cB {b : Bool} (h : Q (.val (.bl b)) ρ) : qC (.bl b) ρ Q := h
theorem w_cN (h : Q (.val .non) ρ) : qC .non ρ Q := h
theorem w_esc (h : pe ρ fun r ρ' => escR ρ' QD1 r) : qEsc pe ρ QD1 := h
theorem w_escV (h : QD1 d ρ) : escR ρ QD1 (.val d) := h
theorem w_escC (e : ρ[i]? = some (.own true ds)) (h : QD1 (.lst ds) (ρ.set i (.val (.lst ds)))) : escR ρ QD1 (.cell i) := by
  show escP ρ i QD1 ρ[i]?
  rw [e]
  exact h
theorem w_keep (h : pn ρ fun ds ρ' => Q (.val (.lst ds)) ρ') : qKeep pn ρ Q := h
theorem w_val (h : pd ρ fun d ρ' => Q (.val d) ρ') : qVal pd ρ Q := h
theorem w_nil (h : QA1 [] ρ) : qNil ρ QA1 := h
theorem w_cons (h : pe ρ fun r ρ1 => pa ρ1 fun rs ρ2 => QA1 (r :: rs) ρ2) : qCons pe pa ρ QA1 := h
theorem w_nilD (h : QAD1 [] ρ) : qNilD ρ QAD1 := h
theorem w_consD (h : pd ρ fun d ρ1 => pad ρ1 fun ds ρ2 => QAD1 (d :: ds) ρ2) : qConsD pd pad ρ QAD1 := h
theorem w_lst (h : pad ρ fun ds ρ' => ds.length ≤ sizeLine ∧ QN1 ds ρ') : qLst pad ρ QN1 := h
theorem w_tup (h : pad ρ fun ds ρ' => ds.length ≤ sizeLine ∧ QD1 (.tup ds) ρ') : qTup pad ρ QD1 := h
theorem w_op {r3 : O2} (h : pe ρ fun x ρ1 => pe2 ρ1 fun y ρ2 => some2 (fun dx dy => r3 dx dy fun d => Q (.val d) ρ2) (rdR ρ2 x) (rdR ρ2 y)) : qOp r3 pe pe2 ρ Q := h
theorem w_opN {r3 : O2N} (h : pe ρ fun x ρ1 => pe2 ρ1 fun y ρ2 => some2 (fun dx dy => r3 dx dy fun d => QN1 d ρ2) (rdR ρ2 x) (rdR ρ2 y)) : qOpN r3 pe pe2 ρ QN1 := h
theorem w_un {r3 : O1} (h : pe ρ fun x ρ1 => some1 (fun dx => r3 dx fun d => Q (.val d) ρ1) (rdR ρ1 x)) : qUn r3 pe ρ Q := h
theorem w_cb {r3 : OL} (h : pa ρ fun xs ρ1 => some1 (fun ds => r3 ds fun d => Q (.val d) ρ1) (rdL ρ1 xs)) : qCB r3 pa ρ Q := h
theorem w_cbN {r3 : OLN} (h : pa ρ fun xs ρ1 => some1 (fun ds => r3 ds fun d => QN1 d ρ1) (rdL ρ1 xs)) : qCBN r3 pa ρ QN1 := h
theorem w_some1 {α : Type} {F : α → Prop} {o : Option α} {x : α} (e : o = some x) (h : F x) : some1 F o := by
  rw [e]
  exact h
theorem w_some2 {α β : Type} {F : α → β → Prop} {o : Option α} {u : Option β} {x : α} {y : β} (e : o = some x) (e2 : u = some y) (h : F x y) : some2 F o u := by
  rw [e, e2]
  exact h
theorem w_I0 {g : Int → Int → V} {a b : Int} {F : D → Prop} (h : some1 F (vD (g a b))) : oI0 g (.int a) (.int b) F := ⟨a, b, rfl, rfl, h⟩
theorem w_I {C : Int → Int → Prop} {g : Int → Int → V} {a b : Int} {F : D → Prop} (c : C a b) (h : some1 F (vD (g a b))) : oI C g (.int a) (.int b) F := ⟨a, b, rfl, rfl, c, h⟩
theorem w_test (h : pe ρ fun r ρ' => isBl (fun b => QT1 b ρ') r) : qTest pe ρ QT1 := h
theorem w_isBl {F : Bool → Prop} {b : Bool} (h : F b) : isBl F (.val (.bl b)) := h
theorem w_isInt {F : Int → Prop} {b : Int} (h : F b) : isInt F (.val (.int b)) := h
theorem w_and (h : pt ρ fun b ρ1 => if b = true then pt2 ρ1 QT1 else QT1 false ρ1) : qAnd pt pt2 ρ QT1 := h
theorem w_or (h : pt ρ fun b ρ1 => if b = true then QT1 true ρ1 else pt2 ρ1 QT1) : qOr pt pt2 ρ QT1 := h
theorem w_not (h : pt ρ fun b ρ1 => QT1 (!b) ρ1) : qNot pt ρ QT1 := h
theorem w_yes (h : QT1 true ρ) : qYes ρ QT1 := h
theorem w_if {a b : QE} (h : pt ρ fun k ρ1 => if k = true then a ρ1 Q else b ρ1 Q) : qIf pt a b ρ Q := h
theorem w_andV (h : pe ρ fun r ρ1 => isBl (fun k => if k = true then pe2 ρ1 Q else Q (.val (.bl false)) ρ1) r) : qAndV pe pe2 ρ Q := h
theorem w_orV (h : pe ρ fun r ρ1 => isBl (fun k => if k = true then Q (.val (.bl true)) ρ1 else pe2 ρ1 Q) r) : qOrV pe pe2 ρ Q := h
theorem w_notV (h : pe ρ fun r ρ1 => isBl (fun k => Q (.val (.bl (!k))) ρ1) r) : qNotV pe ρ Q := h
theorem w_nopart (h : QO1 none ρ) : qNoPart ρ QO1 := h
theorem w_part (h : pe ρ fun r ρ' => isInt (fun i => QO1 (some i) ρ') r) : qPart pe ρ QO1 := h
theorem w_sl {r3 : D → Option Int → Option Int → (D → Prop) → Prop} (h : pe ρ fun x ρ1 => po ρ1 fun lo ρ2 => po2 ρ2 fun hi ρ3 => some1 (fun dx => r3 dx lo hi fun d => Q (.val d) ρ3) (rdR ρ3 x)) : qSl r3 pe po po2 ρ Q := h
theorem w_slN {r3 : D → Option Int → Option Int → (List D → Prop) → Prop} (h : pe ρ fun x ρ1 => po ρ1 fun lo ρ2 => po2 ρ2 fun hi ρ3 => some1 (fun dx => r3 dx lo hi fun d => QN1 d ρ3) (rdR ρ3 x)) : qSlN r3 pe po po2 ρ QN1 := h
theorem w_slL {lo hi : Option Int} {F : List D → Prop} (h : F (cutD ds lo hi)) : oSlL (.lst ds) lo hi F := ⟨ds, rfl, h⟩
theorem w_slT {lo hi : Option Int} {F : D → Prop} (h : F (.tup (cutD ds lo hi))) : oSlT (.tup ds) lo hi F := ⟨ds, rfl, h⟩
theorem w_iseq (h : qEsc pe ρ fun d ρ' => ∃ ds, d = .lst ds ∧ QN1 ds ρ') : iqSeq pe ρ QN1 := h
theorem w_itup (h : qEsc pe ρ fun d ρ' => ∃ ds, d = .tup ds ∧ QN1 ds ρ') : iqTup pe ρ QN1 := h
theorem w_exL {F : List D → Prop} (h : F ds) : ∃ es, D.lst ds = .lst es ∧ F es := ⟨ds, rfl, h⟩
theorem w_exT {F : List D → Prop} (h : F ds) : ∃ es, D.tup ds = .tup es ∧ F es := ⟨ds, rfl, h⟩
theorem w_ienum (h : pad ρ fun as ρ' => ∃ ds, as = [.lst ds] ∧ QN1 (ds.zipIdx.map fun p => D.tup [.int (p.2 : Nat), p.1]) ρ') : iqEnum pad ρ QN1 := h
theorem w_exE {F : List D → Prop} (h : F ds) : ∃ es, [D.lst ds] = [.lst es] ∧ F es := ⟨ds, rfl, h⟩
theorem w_irng1 (h : pa ρ fun as ρ' => ∃ j : Int, rdL ρ' as = some [.int j] ∧ -(2 ^ 62) ≤ j ∧ j < 2 ^ 62 ∧ QN1 ((List.range j.toNat).map fun (i : Nat) => D.int (0 + i)) ρ') : iqRng1 pa ρ QN1 := h
theorem w_lc {vs : List Nat} (h : pi ρ fun ds ρ1 => LcP ds g pt pd vs ρ1 QN1) : qLc pi g pt pd vs ρ QN1 := h
theorem w_call {S : PSp} (h : pa ρ fun rs ρ1 => some1 (fun ds => S ds fun r _ => resOk (rs.any isCell) r fun d => Q (.val d) ρ1) (rdL ρ1 rs)) : qCall S pa ρ Q := h
theorem w_callN {S : PSp} (h : pa ρ fun rs ρ1 => some1 (fun ds => S ds fun r _ => newOk (rs.any isCell) r fun d => QN1 d ρ1) (rdL ρ1 rs)) : qCallN S pa ρ QN1 := h
theorem w_res {hc : Bool} {F : D → Prop} (e : hc = false) (h : F d) : resOk hc (.val d) F := ⟨Or.inl e, h⟩
theorem w_resF {hc : Bool} {F : D → Prop} (e : d.flat = true) (h : F d) : resOk hc (.val d) F := ⟨Or.inr e, h⟩
theorem w_resN {hc : Bool} {F : D → Prop} (e : hc = false) (h : F (.lst ds)) : resOk hc (.new ds) F := ⟨Or.inl e, h⟩
theorem w_new {hc : Bool} {F : List D → Prop} (e : hc = false) (h : F ds) : newOk hc (.new ds) F := ⟨Or.inl e, h⟩
theorem flat_strs4 (ws : List Str) : ∀ e ∈ ws.map D.str, e.flat = true := by
  intro e he
  obtain ⟨z, _, rfl⟩ := List.mem_map.mp he
  rfl
theorem w_newS {hc : Bool} {F : List D → Prop} {ws : List Str} (h : F (ws.map D.str)) : newOk hc (.new (ws.map D.str)) F := ⟨Or.inr (flat_strs4 ws), h⟩
theorem w_resNS {hc : Bool} {F : D → Prop} {ws : List Str} (h : F (.lst (ws.map D.str))) : resOk hc (.new (ws.map D.str)) F := ⟨Or.inr (flat_strs4 ws), h⟩
theorem w_meth {K : PySem.W.Frag} {C : Addr} {m : Str} {S : PSp} (h : pe ρ fun x ρ0 => ∃ d, x = .val d ∧ IsI K C m d ∧ pa ρ0 fun rs ρ1 => some1 (fun ds => S (d :: ds) fun r _ => resOk (rs.any isCell) r fun d => Q (.val d) ρ1) (rdL ρ1 rs)) : qMeth K C m S pe pa ρ Q := h
theorem w_methN {K : PySem.W.Frag} {C : Addr} {m : Str} {S : PSp} (h : pe ρ fun x ρ0 => ∃ d, x = .val d ∧ IsI K C m d ∧ pa ρ0 fun rs ρ1 => some1 (fun ds => S (d :: ds) fun r _ => newOk (rs.any isCell) r fun d => QN1 d ρ1) (rdL ρ1 rs)) : qMethN K C m S pe pa ρ QN1 := h
theorem w_ord {K : PySem.W.Frag} {C : Addr} {m : Str} {ls : List Str} {ps : List Pr} {F : D → Prop} (e : (m == ("own_locks" : Str)) = false ∧ (m == ("own_pairs" : Str)) = false) (h : F (ordD C ls ps)) : ∃ d, Rv.val (ordD C ls ps) = .val d ∧ IsI K C m d ∧ F d := ⟨_, rfl, isI_ord e, h⟩
theorem w_ixL {k : Int} {F : D → Prop} (e : atI ds k = some d) (h : F d) : oIxL (.lst ds) (.int k) F := ⟨ds, k, rfl, rfl, by rw [e]; exact h⟩
theorem w_ixT {k : Int} {F : D → Prop} (e : atI ds k = some d) (h : F d) : oIxT (.tup ds) (.int k) F := ⟨ds, k, rfl, rfl, by rw [e]; exact h⟩
theorem w_inS {z : Str} {ws : List Str} {F : D → Prop} (h : F (.bl (decide (z ∈ ws)))) : oIn false (.str z) (.lst (ws.map D.str)) F := by
  refine ⟨ws.map D.str, Or.inl rfl, rfl, flat_strs3 ws, ?_⟩
  rw [inD_strs]
  exact h
theorem w_ninS {z : Str} {ws : List Str} {F : D → Prop} (h : F (.bl (!decide (z ∈ ws)))) : oIn true (.str z) (.lst (ws.map D.str)) F := by
  refine ⟨ws.map D.str, Or.inl rfl, rfl, flat_strs3 ws, ?_⟩
  rw [inD_strs]
  exact h
theorem w_inST {z : Str} {ws : List Str} {F : D → Prop} (h : F (.bl (decide (z ∈ ws)))) : oIn false (.str z) (.tup (ws.map D.str)) F := by
  refine ⟨ws.map D.str, Or.inr rfl, rfl, flat_strs3 ws, ?_⟩
  rw [inD_strs]
  exact h
theorem w_ninST {z : Str} {ws : List Str} {F : D → Prop} (h : F (.bl (!decide (z ∈ ws)))) : oIn true (.str z) (.tup (ws.map D.str)) F := by
  refine ⟨ws.map D.str, Or.inr rfl, rfl, flat_strs3 ws, ?_⟩
  rw [inD_strs]
  exact h
theorem w_lenL {F : D → Prop} (h : F (.int ds.length)) : oLen [.lst ds] F := ⟨ds, Or.inl rfl, h⟩
theorem w_lenT {F : D → Prop} (h : F (.int ds.length)) : oLen [.tup ds] F := ⟨ds, Or.inr rfl, h⟩
theorem w_list {F : List D → Prop} (h : F ds) : oList [.lst ds] F := ⟨ds, Or.inl rfl, h⟩
theorem w_listT {F : List D → Prop} (h : F ds) : oList [.tup ds] F := ⟨ds, Or.inr rfl, h⟩
theorem w_tuple {F : D → Prop} (h : F (.tup ds)) : oTuple [.lst ds] F := ⟨ds, Or.inl rfl, h⟩
theorem w_intB {b : Bool} {F : D → Prop} (h : F (.int (if b then 1 else 0))) : oInt [.bl b] F := Or.inl ⟨b, rfl, h⟩
theorem w_all {bs : List Bool} {F : D → Prop} (h : F (.bl (bs.all id))) : oAll true [.lst (bs.map D.bl)] F := ⟨bs, rfl, h⟩
theorem w_any {bs : List Bool} {F : D → Prop} (h : F (.bl (bs.any id))) : oAll false [.lst (bs.map D.bl)] F := ⟨bs, rfl, h⟩
theorem w_catT {es : List D} {F : D → Prop} (n : ds.length + es.length ≤ sizeLine) (h : F (.tup (ds ++ es))) : oCatT (.tup ds) (.tup es) F := ⟨ds, es, rfl, rfl, n, h⟩
theorem w_catL {es : List D} {F : List D → Prop} (n : ds.length + es.length ≤ sizeLine) (h : F (ds ++ es)) : oCatL (.lst ds) (.lst es) F := ⟨ds, es, rfl, rfl, n, h⟩
theorem w_append (e : ρ[i]? = some (.own f ds)) (h : pd ρ fun d ρ1 => ownP (fun f ds => ds.length < sizeLine ∧ Q (.val .non) (ρ1.set i (.own f (ds ++ [d])))) ρ1[i]?) : qAppend i pd ρ Q := by
  show ownP _ ρ[i]?
  rw [e]
  exact h
theorem w_extend (e : ρ[i]? = some (.own f ds)) (h : pe ρ fun r ρ1 => ownP (fun f ds => ∃ es, rdR ρ1 r = some (.lst es) ∧ ds.length + es.length ≤ sizeLine ∧ Q (.val .non) (ρ1.set i (.own f (ds ++ es)))) ρ1[i]?) : qExtend i pe ρ Q := by
  show ownP _ ρ[i]?
  rw [e]
  exact h
theorem w_popAt (e : ρ[i]? = some (.own f ds)) (h : pe ρ fun r ρ1 => ownP (fun f ds => ∃ (k : Int) (j : Nat) (d : D), r = .val (.int k) ∧ -(2 ^ 63) ≤ k ∧ k < 2 ^ 63 ∧ seqIndex? k ds.length = some j ∧ ds[j]? = some d ∧ Q (.val d) (ρ1.set i (.own f (ds.eraseIdx j)))) ρ1[i]?) : qPopAt i pe ρ Q := by
  show ownP _ ρ[i]?
  rw [e]
  exact h
theorem w_ownP {F : Bool → List D → Prop} {o : Option PV} (e : o = some (.own f ds)) (h : F f ds) : ownP F o := by
  rw [e]
  exact h
theorem w_pop {d : D} (e : ρ[i]? = some (.own f (ds ++ [d]))) (h : Q (.val d) (ρ.set i (.own f ds))) : qPop i ρ Q := by
  show ownP _ ρ[i]?
  rw [e]
  exact ⟨ds, d, rfl, h⟩
theorem w_end {Q3 : Rs → Option (List D) → Prop} {r : Rs} (h : Q3 r none) : (ends3 none Q3).rt r ρ := h
theorem w_endN {Q3 : Rs → Option (List D) → Prop} (h : Q3 (.val .non) none) : (ends3 none Q3).nx ρ := h
end
end L3
/-! Two names at once; new orders, new lives. -/
namespace L3
open PySem PySem.Spec PyProof.Rows L2 TB LamX
open C8 (Cal Met Mak)
section
variable {X : Sx}
def tParNN (i j : Nat) (t u : TE) : TS := tPar i j (tCons t (tCons u tNil))
def tParVN (i j : Nat) (t u : TE) : TS := tPar i j (tCons t (tCons u tNil))
theorem toNN {Y : Cx} {st : Stmt} {i j : Nat} {t u : TE} (h : PS Y st (tPar i j (tCons t (tCons u tNil)))) : PS Y st (tParNN i j t u) := h
theorem toVN {Y : Cx} {st : Stmt} {i j : Nat} {t u : TE} (h : PS Y st (tPar i j (tCons t (tCons u tNil)))) : PS Y st (tParVN i j t u) := h
def sParNN (i j : Nat) (p q : QN) : QS := fun P ρ => p ρ fun ds ρ1 => q ρ1 fun es ρ2 => P.nx ((ρ2.set i (.own true ds)).set j (.own true es))
def sParVN (i j : Nat) (p : QD) (q : QN) : QS := fun P ρ => p ρ fun d ρ1 => q ρ1 fun es ρ2 => P.nx ((ρ2.set i (.val d)).set j (.own true es))
theorem nob_set {σ : L2.St} {ρ : PSt} {i : Nat} {v : V} {pv : PV} {p : Addr} (h : Nob σ ρ p) (hv : v ≠ .ref p ∨ ∃ d, pv = .val d) (hl : σ.length = ρ.length) : Nob (σ.set i (some v)) (ρ.set i pv) p := by
  intro j f ds hj ej
  by_cases q : i = j
  · subst q
    have h1 := (List.getElem?_eq_some_iff.mp hj).1
    rw [List.length_set] at h1
    rw [List.getElem?_set_self h1] at hj
    rw [List.getElem?_set_self (by rw [hl]; exact h1)] at ej
    rcases hv with hv | ⟨d, rfl⟩
    · exact hv (Option.some.inj (Option.some.inj ej))
    · exact nomatch hj
  · rw [List.getElem?_set_ne q] at hj ej
    exact h j f ds hj ej
theorem ls_parNN {i j : Nat} {t u : TE} {p q : QN} (h1 : LiN X t p) (h2 : LiN X u q) : LiS X (tParNN i j t u) (sParNN i j p q) := by
  intro c hX σ F H ρ D P R a h
  refine h1 c hX σ F H ρ _ _ R ?_ h
  intro ds ρ1 p1 F1 H1 R1 s1 n1 q1
  have hXh : (c.at F1 H1 (ownB σ ρ1)).X = X := hX
  obtain ⟨ws, hp1, hr1⟩ := n1.l
  have nb : p1 ∉ ownB σ ρ1 := by
    intro z
    obtain ⟨k, f, o, g1, g2⟩ := mem_ownB.mp z
    exact n1.o k f o g1 g2
  refine h2 _ hXh σ F1 H1 ρ1 _ _ R1.here ?_ q1
  intro es ρ2 p2 F2 H2 R2h s2 n2 q2
  have R2 := R1.trans R2h
  have hp12 : H2 p1 = some (.lst ws) := R2h.kp p1 _ hp1 nb (R1.notab hp1 (fun ps => by simp))
  have hF2 : F2 p1 = none := by
    cases e : F2 p1 with
    | none => rfl
    | some o =>
      rcases R2h.nw p1 o e with z | z | ⟨z, _⟩ | z
      · have z2 : F1 p1 = some o := z
        rw [n1.f] at z2
        exact nomatch z2
      · have z2 : H1 p1 = none := z
        rw [hp1] at z2
        exact nomatch z2
      · exact absurd z nb
      · have z2 := R2h.sub _ _ e
        rw [hp12] at z2
        cases z2
        exact z.elim
  have ne : p2 ≠ p1 := by
    rintro rfl
    rcases n2.b with z | ⟨z, _⟩
    · have z2 : H1 p2 = none := z
      rw [hp1] at z2
      exact nomatch z2
    · exact nb z
  have nob1 : Nob σ ρ2 p1 := by
    intro k f o hk ek
    obtain ⟨pp, us, ep, _, _, _, _, hb⟩ := R2h.slot k _ hk
    rw [ek] at ep
    obtain rfl : p1 = pp := by injection ep with ep; injection ep with ep; injection ep
    rcases hb with z | z
    · exact nb z
    · have z2 : H1 p1 = none := z
      rw [hp1] at z2
      exact nomatch z2
  obtain ⟨us, hp2, hr2⟩ := n2.l
  have b2 : p2 ∈ c.B0 ∨ c.H0 p2 = none := by
    rcases n2.b with z | ⟨z, _⟩
    · exact Or.inr (R1.dom p2 z)
    · obtain ⟨k, f, o, g1, g2⟩ := mem_ownB.mp z
      obtain ⟨pp, us, ep, _, _, _, _, hb⟩ := R1.slot k _ g1
      rw [g2] at ep
      obtain rfl : p2 = pp := by injection ep with ep; injection ep with ep; injection ep
      exact hb
  have R3 := R2.setOwn (i := i) hp12 hF2 (hr1.mono s2) n1.n n1.b2 nob1
  have R4 := R3.setOwn (i := j) hp2 n2.f hr2 n2.n b2 (nob_set n2.o (Or.inl (fun z => ne (by injection z with z; exact z.symm))) R2.len)
  exact ⟨_, _, rfl, a.nx _ F2 H2 _ R4 (tr s1 s2) q2⟩
theorem ls_parVN {i j : Nat} {t u : TE} {p : QD} {q : QN} (h1 : LiD X t p) (h2 : LiN X u q) : LiS X (tParVN i j t u) (sParVN i j p q) := by
  intro c hX σ F H ρ D P R a h
  refine h1 c hX σ F H ρ _ _ R ?_ h
  intro d ρ1 v F1 H1 R1 s1 rv q1
  refine h2 c hX σ F1 H1 ρ1 _ _ R1 ?_ q1
  intro es ρ2 p2 F2 H2 R2 s2 n2 q2
  obtain ⟨us, hp2, hr2⟩ := n2.l
  have R3 := R2.setVal (i := i) (rv.mono s2)
  have R4 := R3.setOwn (i := j) hp2 n2.f hr2 n2.n n2.b2 (nob_set n2.o (Or.inr ⟨d, rfl⟩) R2.len)
  exact ⟨_, _, rfl, a.nx _ F2 H2 _ R4 (tr s1 s2) q2⟩
/-! ### a new order -/
def qMkOrd (C : Addr) (pa : QA) : QE := fun ρ Q => pa ρ fun rs ρ1 => ∃ ws : List Str, rdL ρ1 rs = some [.lst (strsD ws)] ∧ Q (.val (ordD C ws [])) ρ1
theorem li_mkOrd {K : PySem.W.Frag} {C d : Addr} {ta : TA} {pa : QA} {E : XK} (hd : ∀ H, SqT K H d []) (h1 : LiA X ta pa) (hK : X.K = K := by rfl) : LiE X (tMake C (spInit K C) [.ref d] E ta) (qMkOrd C pa) := by
  subst hK
  intro c hX σ F H ρ Q Q3 R hq h
  subst hX
  refine h1 c rfl σ F H ρ _ _ R ?_ h
  rintro rs ρ1 vs F1 H1 R1 s1 rv ⟨ws, e, q⟩
  obtain ⟨v, t, rfl, ⟨l, us, rfl, hl, hr⟩, et⟩ := rv.rn R1 e
  obtain rfl : t = [] := et
  obtain rfl := hr.strs
  intro x dx nx ndx nxx
  have ndx2 : upd H1 dx (.own x) x = none := by
    rw [upd_ne (fun z => nxx z.symm)]
    exact nx
  have Ra := R1.allocH (o := .own x) ndx trivial
  have Rb := Ra.allocH (o := .ins C dx []) ndx2 trivial
  refine ⟨x, dx, l, d, ws, rfl, upd_same, Or.inl (sqL_of (old_upd ndx2 (old_upd ndx hl))), hd, ?_⟩
  intro H' kp nt oa
  refine ⟨rfl, ?_⟩
  have hb : ∀ b o, H1 b = some o → H' b = some o := fun b o z => kp b o (old_upd ndx2 (old_upd ndx z)) (fun m => by
    rw [List.mem_singleton.mp m, nx] at z
    exact nomatch z)
  have sF : Same F1 H' := fun b o z => hb b o (R1.sub _ _ z)
  have sA : Same F1 (addF F1 H1 H') := fun b o z => by
    unfold addF
    simp only [z]
  have dm : ∀ b, H' b = none → H1 b = none := fun b z => by
    cases w : H1 b with
    | none => rfl
    | some o => rw [hb b o w] at z; exact nomatch z
  have R2 : Rel c (addF F1 H1 H') H' σ ρ1 := by
    refine ⟨R1.len, fun b o z => (addF_is sF z).1, fun i pv hi => (R1.slot i pv hi).mono sA fun fr ds p e1 e2 => ?_, R1.sep, nt (Rb.nt), fun x hx => (R1.tab x hx).ext hb, fun x hx => ?_, fun _ _ z => sA _ _ (R1.fr _ _ z), fun b o z n m => hb b o (R1.kp b o z n m), fun b z => R1.dom b (dm b z), fun b o z => ?_, fun p z => R1.new p (dm p z)⟩
    · subst e1
      obtain ⟨fp, vs, lp⟩ := R1.ownAt hi e2
      refine ⟨?_, fun _ z => hb _ _ z⟩
      cases w : addF F1 H1 H' p with
      | none => rfl
      | some o =>
        obtain ⟨w1, w2⟩ := addF_is sF w
        rw [hb _ _ lp] at w1
        cases w1
        rcases w2 with w2 | w2 | w2
        · rw [fp] at w2
          exact nomatch w2
        · rw [lp] at w2
          exact nomatch w2
        · exact w2.elim
    · cases w : addF F1 H1 H' x.1 with
      | none => rfl
      | some o =>
        obtain ⟨w1, w2⟩ := addF_is sF w
        obtain ⟨ts, e2, _⟩ := R1.tab x hx
        rw [hb _ _ e2] at w1
        cases w1
        rcases w2 with w2 | w2 | w2
        · rw [R1.tabF x hx] at w2
          exact nomatch w2
        · rw [e2] at w2
          exact nomatch w2
        · exact w2.elim
    · rcases (addF_is sF z).2 with w | w | w
      · exact R1.nw b o w
      · exact Or.inr (Or.inl (R1.dom b w))
      · exact Or.inr (Or.inr (Or.inr w))
  exact hq (.val (ordD C ws [])) ρ1 (.ref x) _ H' R2 (tr s1 sA) ⟨x, rfl, ord_addF sF oa nx⟩ q
/-! ### a new life, of which nothing is told -/
def qMkLife (pa : QA) : QE := fun ρ Q => pa ρ fun _ ρ1 => Q (.val anyD) ρ1
theorem life_core {c : Ct} {F H : Hp} {σ : L2.St} {ρ : PSt} {C x dx : Addr} {fs : List (Str × V)} (R : Rel c F H σ ρ) (nx : H x = none) (ndx : H dx = none) (nxx : dx ≠ x) : Rel c F (upd (upd (upd H dx (.own x)) x (.ins C dx [])) x (.ins C dx fs)) σ ρ := by
  have ndx2 : upd H dx (.own x) x = none := by
    rw [upd_ne (fun z => nxx z.symm)]
    exact nx
  rw [upd_upd]
  exact (R.allocH (o := .own x) ndx trivial).allocH (o := .ins C dx fs) ndx2 trivial
theorem li_mkLife1 {n : Nat} {C : Addr} {gV : List V → List V → List V} {E : XK} {te : TE} {pe : QE} (h1 : LiE X te pe) (hg : ∀ x z, ∃ v1 v2 v3 v4, gV [x] [z] = [x, v1, v2, v3, v4]) (hn : n = 1 := by rfl) : LiE X (tMakeK C 0 n (spLifeI C) gV E tNil (tCons te tNil)) (fun ρ Q => pe ρ fun _ ρ1 => Q (.val anyD) ρ1) := by
  subst hn
  intro c hX σ F H ρ Q Q3 R hq h
  refine h1 c hX σ F H ρ _ _ R ?_ h
  intro r ρ1 v F1 H1 R1 s1 rv q
  refine ⟨rfl, rfl, fun x dx nx ndx nxx => ?_⟩
  obtain ⟨v1, v2, v3, v4, e⟩ := hg (.ref x) v
  rw [e]
  exact ⟨x, dx, v1, v2, v3, v4, rfl, upd_same, rfl, hq (.val anyD) ρ1 (.ref x) F1 _ (life_core R1 nx ndx nxx) s1 ⟨x, rfl⟩ q⟩
theorem li_mkLife0 {C : Addr} {v1 v2 v3 v4 : V} {E : XK} : LiE X (tMake C (spLifeI C) [v1, v2, v3, v4] E tNil) (fun ρ Q => Q (.val anyD) ρ) := by
  intro c hX σ F H ρ Q Q3 R hq q
  intro x dx nx ndx nxx
  exact ⟨x, dx, v1, v2, v3, v4, rfl, upd_same, rfl, hq (.val anyD) ρ (.ref x) F _ (life_core R nx ndx nxx) (Same.refl F) ⟨x, rfl⟩ q⟩
/-- a call that changes the own list in slot i -/
def tCallIo (i : Nat) (sp : Sp) (E : XK) (t : TA) : TE := tCall sp [] E t
theorem toIo {Y : Cx} {e : Expr} {sp : Sp} {E : XK} {t : TA} (i : Nat) (h : PE Y e (tCall sp [] E t)) : PE Y e (tCallIo i sp E t) := h
theorem li_io {i j : Nat} {P : PSp} {ta : TA} {pa : QA} {E : XK} (h1 : LiA X ta pa) : LiE X (tCallIo i (lsp X (some j) P) E ta) (qCallIo j i P pa) := li_callIo h1
theorem w_io {ρ : PSt} {j i : Nat} {f : Bool} {o : List D} {S : PSp} {rs : List Rv} {ds : List D} {Q : Rv → PSt → Prop} (e0 : rs[j]? = some (.cell i)) (e1 : ∀ k r, rs[k]? = some r → k ≠ j → isCell r = false) (e2 : ρ[i]? = some (.own f o)) (e3 : rdL ρ rs = some ds) (h : S ds fun r out => ioOk ρ i f (fun d ρ2 => Q (.val d) ρ2) r out) :
    rs[j]? = some (.cell i) ∧ (∀ k r, rs[k]? = some r → k ≠ j → isCell r = false) ∧ ownOf (fun f _ => some1 (fun ds => S ds fun r out => ioOk ρ i f (fun d ρ2 => Q (.val d) ρ2) r out) (rdL ρ rs)) ρ[i]? := by
  refine ⟨e0, e1, ?_⟩
  rw [e2, e3]
  exact h
theorem w_callIo {ρ : PSt} {j i : Nat} {S : PSp} {pa : QA} {Q : Rv → PSt → Prop} (h : pa ρ fun rs ρ1 => rs[j]? = some (.cell i) ∧ (∀ k r, rs[k]? = some r → k ≠ j → isCell r = false) ∧ ownOf (fun f _ => some1 (fun ds => S ds fun r out => ioOk ρ1 i f (fun d ρ2 => Q (.val d) ρ2) r out) (rdL ρ1 rs)) ρ1[i]?) : qCallIo j i S pa ρ Q := h
theorem w_parNN {ρ : PSt} {P : PEnds} {i j : Nat} {p q : QN} (h : p ρ fun ds ρ1 => q ρ1 fun es ρ2 => P.nx ((ρ2.set i (.own true ds)).set j (.own true es))) : sParNN i j p q P ρ := h
theorem w_parVN {ρ : PSt} {P : PEnds} {i j : Nat} {p : QD} {q : QN} (h : p ρ fun d ρ1 => q ρ1 fun es ρ2 => P.nx ((ρ2.set i (.val d)).set j (.own true es))) : sParVN i j p q P ρ := h
theorem w_mkOrd {ρ : PSt} {C : Addr} {pa : QA} {Q : Rv → PSt → Prop} (h : pa ρ fun rs ρ1 => ∃ ws : List Str, rdL ρ1 rs = some [.lst (strsD ws)] ∧ Q (.val (ordD C ws [])) ρ1) : qMkOrd C pa ρ Q := h
theorem w_set {ρ : PSt} {P : PEnds} {i : Nat} {pi : QE} {pe : QD} (h : pe ρ fun d ρ1 => ownP (fun _ _ => pi ρ1 fun r ρ2 => ownP (fun f ds => ∃ (k : Int) (j : Nat), r = .val (.int k) ∧ ixN ds.length k = some j ∧ P.nx (ρ2.set i (.own f (ds.set j d)))) ρ2[i]?) ρ1[i]?) : sSet i pi pe P ρ := h
end
end L3
/-! Comprehensions of two clauses. -/
namespace L3
open PySem PySem.Spec PyProof.Rows L2 TB LamX
section
variable {X : Sx} {c : Ct} {F H F' H' : Hp} {σ σ' : L2.St} {ρ ρ' : PSt} {A : Addr} {acc : List D}
theorem NewL.kept (n : NewL c F H σ ρ A acc) (R : Rel c F H σ ρ) (R' : Rel (c.at F H (ownB σ ρ)) F' H' σ' ρ') : NewL c F' H' σ' ρ' A acc := by
  have nobA : A ∉ ownB σ ρ := by
    intro z
    obtain ⟨j, f, o, g1, g2⟩ := mem_ownB.mp z
    exact n.o j f o g1 g2
  obtain ⟨ws, hA, rA⟩ := n.l
  have ntb : NoTb c A := R.notab hA (fun ps => by simp)
  have hA' : H' A = some (.lst ws) := R'.kp A _ hA nobA ntb
  refine ⟨⟨ws, hA', rA.mono R'.fr⟩, ?_, n.n, n.b, fun j f o hj ej => ?_⟩
  · cases e : F' A with
    | none => rfl
    | some o =>
      rcases R'.nw A o e with z | z | ⟨z, _⟩ | z
      · have z2 : F A = some o := z
        rw [n.f] at z2
        exact nomatch z2
      · have z2 : H A = none := z
        rw [hA] at z2
        exact nomatch z2
      · exact absurd z nobA
      · have z2 := R'.sub _ _ e
        rw [hA'] at z2
        cases z2
        exact z.elim
  · obtain ⟨p, us, ep, _, _, _, _, hb⟩ := R'.slot j _ hj
    rw [ej] at ep
    obtain rfl : A = p := by injection ep with ep; injection ep with ep; injection ep
    rcases hb with z | z
    · exact nobA z
    · have z2 : H A = none := z
      rw [hA] at z2
      exact nomatch z2
theorem NewL.backN {vs : List Nat} {ρ0 : PSt} (n : NewL c F H σ' ρ' A acc) (hw : L2.wipe σ' vs = L2.wipe σ vs) : NewL c F H σ (backP ρ0 ρ' vs) A acc := by
  refine ⟨n.l, n.f, n.n, n.b, fun j f o hj ej => ?_⟩
  rcases backP_get hj with ⟨_, e⟩ | ⟨h4, h5⟩
  · cases e2 : ρ0[j]? with
    | none => rw [e2] at e; exact nomatch e
    | some q =>
      rw [e2] at e
      cases q <;> exact nomatch e
  · refine n.o j f o h4 ?_
    have : (L2.wipe σ' vs)[j]? = (L2.wipe σ vs)[j]? := by rw [hw]
    rw [wipe_out' h5, wipe_out' h5] at this
    rw [this]
    exact ej
def InP (ds : List D) (g : QG) (pt : QT) (pe : QD) (vs : List Nat) (acc0 : List D) (ρ0 : PSt) (Q : List D → PSt → Prop) : Prop := ∃ W : Nat → List D → PSt → Prop, W 0 acc0 ρ0 ∧ ∀ i acc ρ, W i acc ρ → (ds[i]? = none → Q acc ρ) ∧
  ∀ d, ds[i]? = some d → g d (wipeP ρ vs) fun ρ2 => pt ρ2 fun b ρ3 => if b = true then pe ρ3 fun e ρ4 => acc.length < sizeLine ∧ W (i + 1) (acc ++ [e]) (backP ρ ρ4 vs) else W (i + 1) acc (backP ρ ρ3 vs)
theorem in_core {J : It} {g : TG} {tt : TT} {te : TE} {vs : List Nat} {pg : QG} {pt : QT} {pe : QD} {t : List Nat} {ds : List D} {Q3 : List D → PSt → Prop} {Nx : Hp → Prop} (hX : c.X = X) (h1 : LiG X g pg t) (h2 : LiT X tt pt) (h3 : LiD X te pe) (ht : ∀ i ∈ t, i ∈ vs)
    (R1 : Rel c F H σ ρ) (wd : Wd X J F ds) (nA : NewL c F H σ ρ A acc) (hp : InP ds pg pt pe vs acc ρ Q3) (hq : ∀ acc' ρ' F' H', Rel c F' H' σ ρ' → Same F F' → NewL c F' H' σ ρ' A acc' → Q3 acc' ρ' → Nx H') : InG J g tt te vs A σ Nx H := by
  obtain ⟨W, w0, turn⟩ := hp
  refine ⟨fun i m H' => m = ds.length - i ∧ ∃ F' ρ' acc, Rel c F' H' σ ρ' ∧ Same F F' ∧ NewL c F' H' σ ρ' A acc ∧ W i acc ρ', ⟨_, rfl, F, ρ, acc, R1, Same.refl F, nA, w0⟩, ?_⟩
  rintro i m H2 ⟨rfl, F2, ρ2, acc, R2, s2, n2, w2⟩
  have R2h := R2.here
  have hXh : (c.at F2 H2 (ownB σ ρ2)).X = X := hX
  obtain ⟨d1, d2⟩ := wd i _ σ ρ2 F2 H2 hXh s2 R2h
  obtain ⟨t1, t2⟩ := turn i acc ρ2 w2
  cases e1 : ds[i]? with
  | none => exact Or.inl ⟨d2 e1, hq acc ρ2 F2 H2 R2 s2 n2 (t1 e1)⟩
  | some d =>
    obtain ⟨go, yl⟩ := d1 d e1
    have hlt := (List.getElem?_eq_some_iff.mp e1).1
    refine Or.inr ⟨go, fun H' => ∃ F' ρ' acc, Rel c F' H' σ ρ' ∧ Same F F' ∧ NewL c F' H' σ ρ' A acc ∧ W (i + 1) acc ρ', fun H' ⟨F', ρ', acc', R', s', n', w'⟩ => ⟨ds.length - (i + 1), by omega, rfl, F', ρ', acc', R', s', n', w'⟩, ?_⟩
    intro x H3 hy
    obtain ⟨sH3, F3, R3, s3, rp⟩ := yl x H3 hy
    refine h1 _ hXh (L2.wipe σ vs) F3 H3 (wipeP ρ2 vs) d x _ _ (R3.wipe vs) (by rw [← hX] at rp; exact rp) ?_ (t2 d e1)
    intro ρ4 σ4 F4 H4 R4 s4 l4 o4 q4
    have hw4 : L2.wipe σ4 vs = L2.wipe σ vs := by
      refine wipe_eq (by rw [l4, wipe_length]) (fun j hj => ?_)
      rw [o4 j (fun z => hj (ht j z))]
    refine ⟨hw4, ?_⟩
    refine h2 _ hXh σ4 F4 H4 ρ4 _ _ R4 ?_ q4
    intro b ρ5 F5 H5 R5 s5 q5
    cases b with
    | false => exact ⟨F5, _, acc, R2.backS R5.fr (R2.trans R5) hw4, tr s2 R5.fr, (n2.kept R2 R5).backN hw4, q5⟩
    | true =>
      refine h3 _ hXh σ4 F5 H5 ρ5 _ _ R5 ?_ q5
      rintro e ρ6 v F6 H6 R6 s6 rv ⟨hz, q6⟩
      have R7 := R2.backS R6.fr (R2.trans R6) hw4
      have n7 : NewL c F6 H6 σ (backP ρ2 ρ6 vs) A acc := (n2.kept R2 R6).backN hw4
      obtain ⟨us, hA7, rA7⟩ := n7.l
      have rA8 : RpL c.K F6 (acc ++ [e]) (us ++ [v]) := rA7.app ⟨v, [], rfl, rv, rfl⟩
      exact ⟨us, hA7, by rw [rA7.len]; exact hz, F6, _, acc ++ [e], R7.mutH hA7 n7.f n7.b2 n7.o, tr s2 R6.fr, ⟨⟨us ++ [v], upd_same, rA8⟩, n7.f, n7.n, n7.b, n7.o⟩, q6⟩
def LcP2 (ds : List D) (g : QG) (pt : QT) (pi1 : QI) (g1 : QG) (pt1 : QT) (pe : QD) (vs vs1 : List Nat) (ρ0 : PSt) (Q : List D → PSt → Prop) : Prop := ∃ W : Nat → List D → PSt → Prop, W 0 [] ρ0 ∧ ∀ i acc ρ, W i acc ρ → (ds[i]? = none → Q acc ρ) ∧
  ∀ d, ds[i]? = some d → g d (wipeP ρ vs) fun ρ2 => pt ρ2 fun b ρ3 => if b = true then pi1 ρ3 fun ds1 ρ4 => InP ds1 g1 pt1 pe vs1 acc ρ4 (fun acc' ρ5 => W (i + 1) acc' (backP ρ ρ5 vs)) else W (i + 1) acc (backP ρ ρ3 vs)
def qLc2 (pi : QI) (g : QG) (pt : QT) (pi1 : QI) (g1 : QG) (pt1 : QT) (pe : QD) (vs vs1 : List Nat) : QN := fun ρ Q => pi ρ fun ds ρ1 => LcP2 ds g pt pi1 g1 pt1 pe vs vs1 ρ1 Q
theorem li_lc2 {wi wi1 : TI} {g g1 : TG} {tt tt1 : TT} {te : TE} {vs vs1 : List Nat} {pi pi1 : QI} {pg pg1 : QG} {pt pt1 : QT} {pe : QD} {t t1 : List Nat} (h0 : LiI X wi pi) (h1 : LiG X g pg t) (h2 : LiT X tt pt) (h3 : LiI X wi1 pi1) (h4 : LiG X g1 pg1 t1) (h5 : LiT X tt1 pt1) (h6 : LiD X te pe) (ht : ∀ i ∈ t, i ∈ vs) (ht1 : ∀ i ∈ t1, i ∈ vs1) :
    LiN X (tLc2 wi g tt wi1 g1 tt1 te vs vs1) (qLc2 pi pg pt pi1 pg1 pt1 pe vs vs1) := by
  intro c hX σ F H ρ Q Q3 R hq h
  refine h0 c hX σ F H ρ _ _ R ?_ h
  rintro ds ρ1 J F1 H1 R1 s1 wd ⟨W, w0, turn⟩
  intro A nA
  obtain ⟨RA, nwA⟩ := NewL.made (vs := []) (ds := []) R1 nA rfl
  refine ⟨fun i m H' => m = ds.length - i ∧ ∃ F' ρ' acc, Rel c F' H' σ ρ' ∧ Same F1 F' ∧ NewL c F' H' σ ρ' A acc ∧ W i acc ρ', ⟨_, rfl, F1, ρ1, [], RA, Same.refl F1, nwA, w0⟩, ?_⟩
  rintro i m H2 ⟨rfl, F2, ρ2, acc, R2, s2, n2, w2⟩
  have R2h := R2.here
  have hXh : (c.at F2 H2 (ownB σ ρ2)).X = X := hX
  obtain ⟨d1, d2⟩ := wd i _ σ ρ2 F2 H2 hXh s2 R2h
  obtain ⟨u1, u2⟩ := turn i acc ρ2 w2
  cases e1 : ds[i]? with
  | none => exact Or.inl ⟨d2 e1, hq acc ρ2 A F2 H2 R2 (tr s1 s2) n2 (u1 e1)⟩
  | some d =>
    obtain ⟨go, yl⟩ := d1 d e1
    have hlt := (List.getElem?_eq_some_iff.mp e1).1
    refine Or.inr ⟨go, fun H' => ∃ F' ρ' acc, Rel c F' H' σ ρ' ∧ Same F1 F' ∧ NewL c F' H' σ ρ' A acc ∧ W (i + 1) acc ρ', fun H' ⟨F', ρ', acc', R', s', n', w'⟩ => ⟨ds.length - (i + 1), by omega, rfl, F', ρ', acc', R', s', n', w'⟩, ?_⟩
    intro x H3 hy
    obtain ⟨sH3, F3, R3, s3, rp⟩ := yl x H3 hy
    refine h1 _ hXh (L2.wipe σ vs) F3 H3 (wipeP ρ2 vs) d x _ _ (R3.wipe vs) (by rw [← hX] at rp; exact rp) ?_ (u2 d e1)
    intro ρ4 σ4 F4 H4 R4 s4 l4 o4 q4
    have hw4 : L2.wipe σ4 vs = L2.wipe σ vs := by
      refine wipe_eq (by rw [l4, wipe_length]) (fun j hj => ?_)
      rw [o4 j (fun z => hj (ht j z))]
    refine ⟨hw4, ?_⟩
    refine h2 _ hXh σ4 F4 H4 ρ4 _ _ R4 ?_ q4
    intro b ρ5 F5 H5 R5 s5 q5
    cases b with
    | false => exact ⟨F5, _, acc, R2.backS R5.fr (R2.trans R5) hw4, tr s2 R5.fr, (n2.kept R2 R5).backN hw4, q5⟩
    | true =>
      refine h3 _ hXh σ4 F5 H5 ρ5 _ _ R5 ?_ q5
      intro ds1 ρ6 J1 F6 H6 R6 s6 wd1 q6
      have n6 : NewL c F6 H6 σ4 ρ6 A acc := n2.kept R2 R6
      refine in_core hX h4 h5 h6 ht1 (R2.trans R6) wd1 n6 q6 ?_
      intro acc' ρ7 F7 H7 R7 s7 n7 w7
      have sF : Same F2 F7 := tr R6.fr s7
      exact ⟨F7, _, acc', R2.backS sF R7 hw4, tr s2 sF, n7.backN hw4, w7⟩
theorem w_lc2 {ρ : PSt} {pi pi1 : QI} {g g1 : QG} {pt pt1 : QT} {pe : QD} {vs vs1 : List Nat} {Q : List D → PSt → Prop} (h : pi ρ fun ds ρ1 => LcP2 ds g pt pi1 g1 pt1 pe vs vs1 ρ1 Q) : qLc2 pi g pt pi1 g1 pt1 pe vs vs1 ρ Q := h
end
end L3
namespace L3
open PySem PySem.Spec PyProof.Rows L2 TB LamX
abbrev pileD (es : List (Str × D)) : D := .tup (es.map fun e => .tup [.str e.1, e.2])
def pHeld : PSp := fun ds Q => ∃ es : List (Str × D), ds = [pileD es] ∧ es.length ≤ 1000 ∧ Q (.new (strsD (es.map (·.1)))) none
end L3
namespace L3
open PySem PySem.Spec PyProof.Rows L2 TB LamX
theorem run3' {X : Sx} {H : Hp} {t : TS} {N : List Str} {io : Option Nat} {P : PSp} {vs : List V} {Q : VK} {E : XK} (hp : ∃ p, LiS X t p ∧ ∀ ds Q3, P ds Q3 → p (ends3 io Q3) (start3 N ds io)) (h : lsp X io P vs H Q E) : t { nx := fun _ H' => Q .non H', rt := Q } (L2.start N vs) H := by
  obtain ⟨p, h1, h2⟩ := hp
  exact run3 h1 h2 h
end L3
namespace L3
open PySem PySem.Spec PyProof.Rows L2 TB LamX
section
variable {α : Type} {xs : List α} {enc : α → D} {g : QG} {pt : QT} {pe : QD} {vs : List Nat} {ρ0 : PSt} {Q : List D → PSt → Prop}
theorem LcP_fm (f : α → Option D) (hz : xs.length < sizeLine)
    (hs : ∀ x ∈ xs, ∀ (Y : D → PSt → Prop) (N : PSt → Prop), (∀ e ρ4, f x = some e → backP ρ0 ρ4 vs = ρ0 → Y e ρ4) → (∀ ρ3, f x = none → backP ρ0 ρ3 vs = ρ0 → N ρ3) → g (enc x) (wipeP ρ0 vs) fun ρ2 => pt ρ2 fun b ρ3 => if b = true then pe ρ3 Y else N ρ3)
    (hq : Q (xs.filterMap f) ρ0) : LcP (xs.map enc) g pt pe vs ρ0 Q := by
  refine ⟨fun i acc ρ => ρ = ρ0 ∧ acc = (xs.take i).filterMap f, ⟨rfl, rfl⟩, ?_⟩
  rintro i acc ρ ⟨rfl, rfl⟩
  refine ⟨fun e => ?_, fun d e => ?_⟩
  · have h1 := List.getElem?_eq_none_iff.mp e
    rw [List.length_map] at h1
    rw [List.take_of_length_le h1]
    exact hq
  · rw [List.getElem?_map] at e
    cases e2 : xs[i]? with
    | none => rw [e2] at e; exact nomatch e
    | some x =>
      rw [e2] at e
      obtain rfl : enc x = d := Option.some.inj e
      refine hs x (List.mem_of_getElem? e2) _ _ (fun y ρ4 hf hb => ⟨?_, hb, ?_⟩) (fun ρ3 hf hb => ⟨hb, ?_⟩)
      · have h1 := List.length_filterMap_le f (xs.take i)
        rw [List.length_take] at h1
        omega
      · rw [take_next e2, List.filterMap_append]
        simp [hf]
      · rw [take_next e2, List.filterMap_append]
        simp [hf]
theorem LcP_map (f : α → D) (hz : xs.length < sizeLine)
    (hs : ∀ x ∈ xs, ∀ (Y : D → PSt → Prop) (N : PSt → Prop), (∀ ρ4, backP ρ0 ρ4 vs = ρ0 → Y (f x) ρ4) → g (enc x) (wipeP ρ0 vs) fun ρ2 => pt ρ2 fun b ρ3 => if b = true then pe ρ3 Y else N ρ3)
    (hq : Q (xs.map f) ρ0) : LcP (xs.map enc) g pt pe vs ρ0 Q := by
  refine LcP_fm (fun x => some (f x)) hz (fun x hx Y N hY _ => hs x hx Y N fun ρ4 hb => hY _ ρ4 rfl hb) ?_
  have e : xs.filterMap (fun x => some (f x)) = xs.map f := by
    induction xs with
    | nil => rfl
    | cons a r ih => simp
  rw [e]
  exact hq
/-- those that are kept -/
theorem LcP_filter (k : α → Bool) (f : α → D) (hz : xs.length < sizeLine)
    (hs : ∀ x ∈ xs, ∀ (Y : D → PSt → Prop) (N : PSt → Prop), (∀ ρ4, k x = true → backP ρ0 ρ4 vs = ρ0 → Y (f x) ρ4) → (∀ ρ3, k x = false → backP ρ0 ρ3 vs = ρ0 → N ρ3) → g (enc x) (wipeP ρ0 vs) fun ρ2 => pt ρ2 fun b ρ3 => if b = true then pe ρ3 Y else N ρ3)
    (hq : Q ((xs.filter k).map f) ρ0) : LcP (xs.map enc) g pt pe vs ρ0 Q := by
  refine LcP_fm (fun x => if k x = true then some (f x) else none) hz (fun x hx Y N hY hN => hs x hx Y N (fun ρ4 hk hb => hY _ ρ4 (if_pos hk) hb) (fun ρ3 hk hb => hN ρ3 (if_neg (by rw [hk]; decide)) hb)) ?_
  have e : xs.filterMap (fun x => if k x = true then some (f x) else none) = (xs.filter k).map f := by
    clear hs hz hq
    induction xs with
    | nil => rfl
    | cons a r ih =>
      rw [List.filterMap_cons, List.filter_cons]
      by_cases h : k a = true
      · rw [if_pos h, if_pos h, List.map_cons, ih]
      · rw [if_neg h, if_neg h, ih]
  rw [e]
  exact hq
end
end L3
/-! For a while nothing changes; data compared and shown; asks. -/
namespace L3
open PySem PySem.Spec PyProof.Rows L2 TB LamX
section
variable {X : Sx}
def tSnap (te : TE) : TE := te
theorem toSnap {Y : Cx} {e : Expr} {te : TE} (h : PE Y e te) : PE Y e (tSnap te) := h
def snapV : PV → PV
  | .own _ ds => .val (.lst ds)
  | x => x
def qSnap (pe : QE) : QE := fun ρ Q => pe (ρ.map snapV) fun r _ => ∃ d, r = .val d ∧ d.flat = true ∧ Q (.val d) ρ
theorem li_snap {te : TE} {pe : QE} (h1 : LiE X te pe) : LiE X (tSnap te) (qSnap pe) := by
  intro c hX σ F H ρ Q Q3 R hq h
  subst hX
  have RS : Rel ⟨c.X, fun p => H p = none, [], snap F H σ ρ, H, []⟩ (snap F H σ ρ) H σ (ρ.map snapV) := by
    refine ⟨by rw [List.length_map]; exact R.len, snap_le R, fun i pv hi => ?_, fun i j f1 o1 f2 o2 p h1 => ?_, R.nt, R.tab, fun x hx => ?_, Same.refl _, fun _ _ z _ _ => z, fun _ z => z, fun _ _ z => Or.inl z, fun _ z => z⟩
    · rw [List.getElem?_map] at hi
      cases e : ρ[i]? with
      | none => rw [e] at hi; exact nomatch hi
      | some q =>
        rw [e] at hi
        obtain rfl : snapV q = pv := Option.some.inj hi
        have sl := R.slot i q e
        match q, e, sl with
        | .un, _, _ => exact trivial
        | .val d, _, ⟨v, e1, r⟩ => exact ⟨v, e1, r.mono (snap_sub R)⟩
        | .own f ds, e, ⟨p, vs, e1, hF, hp, hr, _⟩ =>
          refine ⟨.ref p, e1, p, vs, rfl, ?_, hr.mono (snap_sub R)⟩
          unfold snap
          rw [if_pos (mem_ownB.mpr ⟨i, f, ds, e, e1⟩)]
          exact hp
    · rw [List.getElem?_map] at h1
      cases e : ρ[i]? with
      | none => rw [e] at h1; exact nomatch h1
      | some q =>
        rw [e] at h1
        cases q <;> exact nomatch h1
    · unfold snap
      rw [if_neg, R.tabF x hx]
      intro z
      obtain ⟨i, f, o, h1, h2⟩ := mem_ownB.mp z
      obtain ⟨_, ws, l⟩ := R.ownAt h1 h2
      obtain ⟨tb, e2, _⟩ := R.tab x hx
      rw [l] at e2
      exact nomatch e2
  refine h1 ⟨c.X, fun p => H p = none, [], snap F H σ ρ, H, []⟩ rfl σ _ H _ _ _ RS ?_ h
  rintro r ρ' v F' H' R' s rv ⟨d, rfl, fl, q⟩
  have st : Step c.X [] (snap F H σ ρ) H F' H' := R'.empty
  exact hq (.val d) ρ v F H' (Step.back st R) (Same.refl F) (Rp.flat fl rv) q
theorem w_snap {ρ : PSt} {pe : QE} {Q : Rv → PSt → Prop} (h : pe (ρ.map snapV) fun r _ => ∃ d, r = .val d ∧ d.flat = true ∧ Q (.val d) ρ) : qSnap pe ρ Q := h
theorem w_flatB {b : Bool} {F : D → Prop} (h : F (.bl b)) : ∃ d, Rv.val (.bl b) = .val d ∧ d.flat = true ∧ F d := ⟨_, rfl, rfl, h⟩
end
/-! ### data -/
theorem pdL_map {α : Type} {f : α → D} {g : α → PyData} (h : ∀ x, pd (f x) = some (g x)) : ∀ l : List α, pdL (l.map f) = some (l.map g)
  | [] => rfl
  | x :: l => by
    show consO (pd (f x)) (pdL (l.map f)) = _
    rw [h x, pdL_map h l]
    rfl
theorem pd_ints (ns : List Int) : pd (.lst (ns.map D.int)) = some (dInts ns) := by
  show (pdL (ns.map D.int)).map PyData.list = _
  rw [pdL_map (g := PyData.int) (fun _ => rfl)]
  rfl
theorem pd_strs (ns : List Str) : pd (.lst (ns.map D.str)) = some (dStrs ns) := by
  show (pdL (ns.map D.str)).map PyData.list = _
  rw [pdL_map (g := PyData.str) (fun _ => rfl)]
  rfl
theorem pd_pr (p : Pr) : pd (prD p) = some (dPr p) := rfl
theorem pd_prs (ps : List Pr) : pd (.lst (ps.map prD)) = some (dPrs ps) := by
  show (pdL (ps.map prD)).map PyData.list = _
  rw [pdL_map (g := dPr) pd_pr]
  rfl
theorem eqvAll_map {α : Type} [DecidableEq α] {g : α → PyData} (h : ∀ x y, PyData.eqv (g x) (g y) = decide (x = y)) : ∀ l m : List α, PyData.eqvAll (l.map g) (m.map g) = decide (l = m)
  | [], [] => by simp [PyData.eqvAll]
  | [], y :: m => by simp [PyData.eqvAll]
  | x :: l, [] => by simp [PyData.eqvAll]
  | x :: l, y :: m => by
    simp only [List.map_cons, PyData.eqvAll]
    rw [h x y, eqvAll_map h l m]
    by_cases e : x = y
    · subst e
      by_cases e2 : l = m
      · subst e2
        simp
      · simp [e2]
    · simp [e]
theorem eqv_strs2 (a b : List Str) : PyData.eqv (dStrs a) (dStrs b) = decide (a = b) := by
  simp only [dStrs, PyData.eqv]
  exact eqvAll_map (g := PyData.str) (fun x y => by simp only [PyData.eqv]; exact beq_str x y) a b
theorem eqv_ints2 (a b : List Int) : PyData.eqv (dInts a) (dInts b) = decide (a = b) := by
  simp only [dInts, PyData.eqv]
  refine eqvAll_map (g := PyData.int) (fun x y => ?_) a b
  simp only [PyData.eqv]
  rw [Bool.eq_iff_iff]
  simp
theorem eqv_prs2 (a b : List Pr) : PyData.eqv (dPrs a) (dPrs b) = decide (a = b) := by
  simp only [dPrs, PyData.eqv]
  exact eqvAll_map (g := dPr) dPr_eqv a b
theorem w_eqStrs {a b : List Str} {F : D → Prop} (ha : ∀ z ∈ a, Nm z) (hb : ∀ z ∈ b, Nm z) (h : F (.bl (decide (a = b)))) : oEqD false (.lst (a.map D.str)) (.lst (b.map D.str)) F :=
  ⟨_, _, pd_strs a, pd_strs b, sh_strs ha, sh_strs hb, by rw [eqv_strs2]; exact h⟩
theorem w_neStrs {a b : List Str} {F : D → Prop} (ha : ∀ z ∈ a, Nm z) (hb : ∀ z ∈ b, Nm z) (h : F (.bl (!decide (a = b)))) : oEqD true (.lst (a.map D.str)) (.lst (b.map D.str)) F :=
  ⟨_, _, pd_strs a, pd_strs b, sh_strs ha, sh_strs hb, by rw [eqv_strs2]; exact h⟩
theorem w_eqNilI {a : List Int} {F : D → Prop} (h : F (.bl (decide (a = [])))) : oEqD false (.lst (a.map D.int)) (.lst []) F :=
  ⟨_, _, pd_ints a, pd_ints [], sh_ints a, sh_ints [], by rw [eqv_ints2]; exact h⟩
theorem w_neNilI {a : List Int} {F : D → Prop} (h : F (.bl (!decide (a = [])))) : oEqD true (.lst (a.map D.int)) (.lst []) F :=
  ⟨_, _, pd_ints a, pd_ints [], sh_ints a, sh_ints [], by rw [eqv_ints2]; exact h⟩
theorem w_eqNilS {a : List Str} {F : D → Prop} (ha : ∀ z ∈ a, Nm z) (h : F (.bl (decide (a = [])))) : oEqD false (.lst (a.map D.str)) (.lst []) F := w_eqStrs (b := []) ha (fun _ z => nomatch z) h
theorem w_neNilS {a : List Str} {F : D → Prop} (ha : ∀ z ∈ a, Nm z) (h : F (.bl (!decide (a = [])))) : oEqD true (.lst (a.map D.str)) (.lst []) F := w_neStrs (b := []) ha (fun _ z => nomatch z) h
theorem w_repr {d : D} {x : PyData} {F : D → Prop} (e : pd d = some x) (h1 : x.showable = true) (h2 : x.depth ≤ 50) (h3 : x.shown.length ≤ sizeLine) (h : F (.str x.shown)) : oRepr [d] F := ⟨d, x, rfl, e, h1, h2, h3, h⟩
/-! ### enumerate -/
theorem enum_map {α : Type} (f : α → D) (l : List α) : ((l.map f).zipIdx.map fun p => D.tup [.int (p.2 : Nat), p.1]) = l.zipIdx.map fun p => D.tup [.int (p.2 : Nat), f p.1] := by
  have h : ∀ (l : List α) (k : Nat), (l.map f).zipIdx k = (l.zipIdx k).map fun p => (f p.1, p.2) := by
    intro l
    induction l with
    | nil => intro k; rfl
    | cons a r ih => intro k; rw [List.map_cons, List.zipIdx_cons, List.zipIdx_cons, List.map_cons, ih]
  rw [h, List.map_map]
  rfl
theorem cut_toD {α : Type} (f : α → D) (l : List α) (n : Nat) (h : n ≤ l.length) : cutD (l.map f) none (some (n : Int)) = (l.take n).map f := by
  unfold cutD
  have e1 : HT.sIx (l.map f).length 0 none = 0 := rfl
  have e2 : HT.sIx (l.map f).length (l.map f).length (some (n : Int)) = n := by
    simp only [HT.sIx, List.length_map]
    rw [if_neg (by omega)]
    omega
  rw [e1, e2, List.drop_zero, Nat.sub_zero, List.map_take]
theorem cut_fromD {α : Type} (f : α → D) (l : List α) (n : Nat) (h : n ≤ l.length) : cutD (l.map f) (some (n : Int)) none = (l.drop n).map f := by
  unfold cutD
  have e1 : HT.sIx (l.map f).length 0 (some (n : Int)) = n := by
    simp only [HT.sIx, List.length_map]
    rw [if_neg (by omega)]
    omega
  have e2 : HT.sIx (l.map f).length (l.map f).length none = (l.map f).length := rfl
  rw [e1, e2, List.map_drop, List.take_of_length_le]
  rw [List.length_drop]
  exact Nat.le_refl _
/-! ### asks -/
theorem gone_from (fs : List Str) : ∀ (zs : List Str) (k : Nat), (stayOf zs fs = zs.length → ((zs.zipIdx k).filter fun p => decide (p.1 ∈ fs)) = []) ∧ (stayOf zs fs < zs.length → ∃ y r, ((zs.zipIdx k).filter fun p => decide (p.1 ∈ fs)) = (y, k + stayOf zs fs) :: r)
  | [], k => ⟨fun _ => rfl, fun h => absurd h (Nat.not_lt_zero _)⟩
  | z :: r, k => by
    rw [List.zipIdx_cons, List.filter_cons]
    obtain ⟨i1, i2⟩ := gone_from fs r (k + 1)
    by_cases c : z ∈ fs
    · have e : stayOf (z :: r) fs = 0 := by
        unfold stayOf
        rw [List.takeWhile_cons_of_neg (by simp [c])]
        rfl
      rw [e, if_pos (decide_eq_true c)]
      exact ⟨fun h => absurd h (by simp), fun _ => ⟨z, _, rfl⟩⟩
    · have e : stayOf (z :: r) fs = stayOf r fs + 1 := by
        unfold stayOf
        rw [List.takeWhile_cons_of_pos (by simp [c])]
        rfl
      rw [e, if_neg (by rw [decide_eq_false c]; decide)]
      refine ⟨fun h => i1 (by simpa using h), fun h => ?_⟩
      obtain ⟨y, r2, e2⟩ := i2 (by simpa using h)
      exact ⟨y, r2, by rw [e2]; congr 2; omega⟩
/-- pairs that all end in l -/
theorem rch_add {ps qs : List Pr} {us : List Str} {l : Str} (hq : ∀ z, z ∈ qs → z ∈ ps ∨ ∃ u ∈ us, z = (u, l)) (h1 : ∀ u ∈ us, u ≠ l) (h2 : ∀ u ∈ us, ¬ Rch ps l u) {a b : Str} (h : Rch qs a b) : Rch ps a b ∨ ∃ u ∈ us, (a = u ∨ Rch ps a u) ∧ (b = l ∨ Rch ps l b) := by
  induction h with
  | one m =>
    rcases hq _ m with e | ⟨u, hu, e⟩
    · exact Or.inl (.one e)
    · obtain ⟨e1, e2⟩ := Prod.mk.inj e
      exact Or.inr ⟨u, hu, Or.inl e1, Or.inl e2⟩
  | step _ m ih =>
    rcases hq _ m with e | ⟨u, hu, e⟩
    · rcases ih with ih | ⟨v, hv, i1, i2⟩
      · exact Or.inl (.step ih e)
      · refine Or.inr ⟨v, hv, i1, Or.inr ?_⟩
        rcases i2 with i2 | i2
        · rw [i2] at e
          exact .one e
        · exact .step i2 e
    · obtain ⟨e1, e2⟩ := Prod.mk.inj e
      subst e1
      rcases ih with ih | ⟨v, hv, i1, i2⟩
      · exact Or.inr ⟨_, hu, Or.inr ih, Or.inl e2⟩
      · rcases i2 with i2 | i2
        · exact absurd i2 (h1 _ hu)
        · exact absurd i2 (h2 _ hu)
theorem acyc_add {ps qs : List Pr} {us : List Str} {l : Str} (hq : ∀ z, z ∈ qs → z ∈ ps ∨ ∃ u ∈ us, z = (u, l)) (h1 : ∀ u ∈ us, u ≠ l) (h2 : ∀ u ∈ us, ¬ Rch ps l u) (h0 : ∀ a, ¬ Rch ps a a) : ∀ a, ¬ Rch qs a a := by
  intro a h
  rcases rch_add hq h1 h2 h with e | ⟨u, hu, i1, i2⟩
  · exact h0 a e
  · rcases i1 with i1 | i1
    · rcases i2 with i2 | i2
      · exact h1 u hu (i1.symm.trans i2)
      · rw [i1] at i2
        exact h2 u hu i2
    · rcases i2 with i2 | i2
      · rw [i2] at i1
        exact h2 u hu i1
      · exact h2 u hu (i2.trans i1)
def pAsk (C : Addr) : PSp := fun ds Q => ∃ ls ps, ∃ es : List (Str × D), ∃ z : Str, ds = [ordD C ls ps, pileD es, .str z] ∧ OrdOk ls ps ∧ es.length ≤ 1000 ∧ (∀ e ∈ es, e.1 ∈ ls) ∧ z ∈ ls ∧
  ∀ fs : List Str, (∀ u, u ∈ fs ↔ Rch ps z u) → Q (.val (.tup [.str (askHow (es.map (·.1)) fs z), .int (askN (es.map (·.1)) fs z : Nat), .lst ((askP (es.map (·.1)) fs z).map prD)])) none
/-- of each two the lower one and the upper one are a pair -/
def RiseP (ps : List Pr) (zs : List Str) : Prop := ∀ (k j : Nat) (a b : Str), k < j → zs[k]? = some a → zs[j]? = some b → (a, b) ∈ ps
def pRise (C : Addr) : PSp := fun ds Q => ∃ ls ps, ∃ es : List (Str × D), ds = [ordD C ls ps, pileD es] ∧ OrdOk ls ps ∧ es.length ≤ 40 ∧ (∀ e ∈ es, e.1 ∈ ls) ∧ ∀ b : Bool, (b = true ↔ RiseP ps (es.map (·.1))) → Q (.val (.bl b)) none
end L3
/-! Two names at once by a tuple; items set; piles that rise. -/
namespace L3
open PySem PySem.Spec PyProof.Rows L2 TB LamX
section
variable {X : Sx} {K : PySem.W.Frag}
def tTupVN (K : PySem.W.Frag) (i j : Nat) (t u : TE) : TS := tAsg (tTup (tCons t (tCons u tNil))) (gTup K 2 (gCons (gName i) (gCons (gName j) gNil)))
theorem toTVN {Y : Cx} {st : Stmt} {i j : Nat} {t u : TE} (h : PS Y st (tAsg (tTup (tCons t (tCons u tNil))) (gTup K 2 (gCons (gName i) (gCons (gName j) gNil))))) : PS Y st (tTupVN K i j t u) := h
theorem ls_tupVN {i j : Nat} {t u : TE} {p : QD} {q : QN} (h1 : LiD X t p) (h2 : LiN X u q) (hK : X.K = K := by rfl) : LiS X (tTupVN K i j t u) (sParVN i j p q) := by
  subst hK
  intro c hX σ F H ρ D P R a h
  refine h1 c hX σ F H ρ _ _ R ?_ h
  intro d ρ1 v F1 H1 R1 s1 rv q1
  refine h2 c hX σ F1 H1 ρ1 _ _ R1 ?_ q1
  intro es ρ2 p2 F2 H2 R2 s2 n2 q2
  refine ⟨(by show 2 ≤ sizeLine; decide), fun T nT => ?_⟩
  refine ⟨T, _, rfl, sqT_of upd_same, rfl, v, _, rfl, .ref p2, _, rfl, rfl, ?_⟩
  obtain ⟨us, hp2, hr2⟩ := n2.l
  have R3 := R2.allocH (o := .tup [v, .ref p2]) nT trivial
  have R4 := R3.setVal (i := i) (rv.mono s2)
  have R5 := R4.setOwn (i := j) (old_upd nT hp2) n2.f hr2 n2.n n2.b2 (nob_set n2.o (Or.inr ⟨d, rfl⟩) R2.len)
  exact a.nx _ F2 _ _ R5 (tr s1 s2) q2
/-- o[i] = .. among the targets -/
def gqSub (i : Nat) (pi : QE) : QG := fun d ρ1 Q => ownP (fun _ _ => pi ρ1 fun r ρ2 => ownP (fun f ds => ∃ (k : Int) (j : Nat), r = .val (.int k) ∧ ixN ds.length k = some j ∧ Q (ρ2.set i (.own f (ds.set j d)))) ρ2[i]?) ρ1[i]?
theorem lg_sub {i : Nat} {ti : TE} {pi : QE} (h1 : LiE X ti pi) : LiG X (gSub (tVar i) ti rSetL) (gqSub i pi) [] := by
  intro c hX σ F1 H1 ρ1 d v R Q3 R1 rv hq h
  obtain ⟨f0, ds0, hi0, h⟩ := ownP_is h
  obtain ⟨p, vs0, ep, hF0, hp0, _⟩ := R1.slot i _ hi0
  refine ⟨.ref p, ep, ?_⟩
  refine h1 c hX σ F1 H1 ρ1 _ _ R1 ?_ h
  intro r ρ2 w F2 H2 R2 s2 rw2 q2
  obtain ⟨f, ds, hi, k, j, rfl, e1, q⟩ := ownP_is q2
  obtain rfl : w = .int k := rw2
  obtain ⟨p1, vs, ep1, hF, hp, hr, _⟩ := R2.slot i _ hi
  rw [ep] at ep1
  obtain rfl : p = p1 := by injection ep1 with ep1; injection ep1 with ep1; injection ep1
  exact ⟨p, vs, k, j, rfl, rfl, hp, by rw [hr.len]; exact e1, hq _ σ F2 _ (R2.mutOwn hi ep (hr.set j (rv.mono s2))) s2 rfl (fun _ _ => rfl) q⟩
theorem w_gsub {ρ : PSt} {i : Nat} {pi : QE} {d : D} {R : PSt → Prop} (h : ownP (fun _ _ => pi ρ fun r ρ2 => ownP (fun f ds => ∃ (k : Int) (j : Nat), r = .val (.int k) ∧ ixN ds.length k = some j ∧ R (ρ2.set i (.own f (ds.set j d)))) ρ2[i]?) ρ[i]?) : gqSub i pi d ρ R := h
end
/-! ### shown -/
theorem shown_listG_le {B : Nat} {ds : List PyData} (h : ∀ d ∈ ds, d.shown.length ≤ B) : (PyData.list ds).shown.length ≤ ds.length * B + 2 * ds.length + 3 := by
  have := shown_list_le (f := id) (B := B) (l := ds) (fun x hx => h x hx)
  rw [List.map_id] at this
  exact this
theorem w_reprPrs {ps : List Pr} {F : D → Prop} (np : ∀ p ∈ ps, NmP p) (hp : ps.length ≤ 1000) (h : F (.str (dPrs ps).shown)) : oRepr [.lst (ps.map prD)] F := by
  have e1 := dPrs_len np
  have e2 := depthAll_map (f := dPr) (n := 2) (l := ps) (fun x _ => dPr_depth x)
  refine w_repr (pd_prs ps) ?_ ?_ (by rw [sizeLine_eq]; omega) h
  · simp only [dPrs, PyData.showable]
    exact showAll_map (fun x _ => by simp only [dPr, PyData.showable, PyData.showableAll]; rfl)
  · simp only [dPrs, PyData.depth]
    omega
/-- [how, n, pairs] -/
def dAskL (how : Str) (n : Nat) (ps : List Pr) : PyData := .list [.str how, .int (n : Int), dPrs ps]
theorem w_reprAskL {how : Str} {n : Nat} {ps : List Pr} {F : D → Prop} (nh : Nm how) (np : ∀ p ∈ ps, NmP p) (hn : n ≤ 1000) (hp : ps.length ≤ 1000) (h : F (.str (dAskL how n ps).shown)) : oRepr [.lst [.str how, .int (n : Int), .lst (ps.map prD)]] F := by
  have e0 : pd (.lst [.str how, .int (n : Int), .lst (ps.map prD)]) = some (dAskL how n ps) := by
    show (consO (some (.str how)) (consO (some (.int n)) (consO (pd (.lst (ps.map prD))) (some [])))).map PyData.list = _
    rw [pd_prs]
    rfl
  refine w_repr e0 ?_ ?_ ?_ h
  · have e1 := ints_show (ns := [(n : Int)]) (fun m hm => by
      rw [List.mem_singleton.mp hm]
      exact Nat.lt_of_le_of_lt (show n ≤ 1000 from hn) (by decide))
    simp only [dInts, List.map_cons, List.map_nil, PyData.showable, PyData.showableAll] at e1
    simp only [dAskL, dPrs, PyData.showable, PyData.showableAll]
    rw [Bool.and_true] at e1
    rw [e1, showAll_map (f := dPr) (fun x _ => by simp only [dPr, PyData.showable, PyData.showableAll]; rfl)]
    rfl
  · have e1 := depthAll_map (f := dPr) (n := 2) (l := ps) (fun x _ => dPr_depth x)
    simp only [dAskL, dPrs, PyData.depth, PyData.depthAll]
    omega
  · have e1 := dPrs_len np
    have e2 := shown_listG_le (B := 173003) (ds := [.str how, .int (n : Int), dPrs ps]) (fun d hd => by
      simp only [List.mem_cons, List.not_mem_nil, or_false] at hd
      rcases hd with rfl | rfl | rfl
      · exact Nat.le_trans (shown_nm nh) (by decide)
      · exact Nat.le_trans (shown_int_le (Nat.lt_of_le_of_lt (show n ≤ 1000 from hn) (by decide))) (by decide)
      · omega)
    rw [sizeLine_eq]
    show (PyData.list [.str how, .int (n : Int), dPrs ps]).shown.length ≤ _
    have e3 : ([PyData.str how, PyData.int (n : Int), dPrs ps] : List PyData).length = 3 := rfl
    rw [e3] at e2
    omega
/-! ### piles that rise -/
theorem RiseP.mono {ps qs : List Pr} {zs : List Str} (h : RiseP ps zs) (s : ∀ p ∈ ps, p ∈ qs) : RiseP qs zs := fun k j a b hkj ha hb => s _ (h k j a b hkj ha hb)
theorem RiseP.take {ps : List Pr} {zs : List Str} (h : RiseP ps zs) (n : Nat) : RiseP ps (zs.take n) := by
  intro k j a b hkj ha hb
  rw [List.getElem?_take] at ha hb
  by_cases h1 : k < n
  · by_cases h2 : j < n
    · rw [if_pos h1] at ha
      rw [if_pos h2] at hb
      exact h k j a b hkj ha hb
    · rw [if_neg h2] at hb
      exact nomatch hb
  · rw [if_neg h1] at ha
    exact nomatch ha
theorem RiseP.snoc {ps : List Pr} {zs : List Str} {z : Str} (h : RiseP ps zs) (hz : ∀ y ∈ zs, (y, z) ∈ ps) : RiseP ps (zs ++ [z]) := by
  intro k j a b hkj ha hb
  have hjl := (List.getElem?_eq_some_iff.mp hb).1
  rw [List.length_append, List.length_singleton] at hjl
  rw [List.getElem?_append_left (by omega)] at ha
  by_cases c : j < zs.length
  · rw [List.getElem?_append_left c] at hb
    exact h k j a b hkj ha hb
  · rw [List.getElem?_append_right (by omega)] at hb
    have e : j - zs.length = 0 := by omega
    rw [e] at hb
    obtain rfl : z = b := by simpa using hb
    exact hz a (List.mem_of_getElem? ha)
theorem RiseP.tail {ps : List Pr} {y : Str} {r : List Str} (h : RiseP ps (y :: r)) : RiseP ps r ∧ ∀ w ∈ r, (y, w) ∈ ps := by
  refine ⟨fun k j a b hkj ha hb => h (k + 1) (j + 1) a b (by omega) (by simpa using ha) (by simpa using hb), fun w hw => ?_⟩
  obtain ⟨i, hi, e⟩ := List.getElem_of_mem hw
  exact h 0 (i + 1) y w (by omega) rfl (by rw [List.getElem?_cons_succ, List.getElem?_eq_getElem hi, e])
theorem RiseP.nodup {ps : List Pr} (h0 : ∀ a, ¬ Rch ps a a) : ∀ {zs : List Str}, RiseP ps zs → zs.Nodup
  | [], _ => List.nodup_nil
  | y :: r, h => by
    obtain ⟨h1, h2⟩ := h.tail
    exact List.nodup_cons.mpr ⟨fun m => h0 y (.one (h2 y m)), RiseP.nodup h0 h1⟩
/-- those behind are the last ones -/
theorem RiseP.gone {ps : List Pr} {z : Str} {fs : List Str} (hfs : ∀ u, u ∈ fs ↔ Rch ps z u) : ∀ {zs : List Str}, RiseP ps zs → zs.filter (fun u => decide (u ∈ fs)) = zs.drop (stayOf zs fs)
  | [], _ => rfl
  | y :: r, h => by
    obtain ⟨h1, h2⟩ := h.tail
    by_cases c : y ∈ fs
    · have e : stayOf (y :: r) fs = 0 := by
        unfold stayOf
        rw [List.takeWhile_cons_of_neg (by simp [c])]
        rfl
      rw [e, List.drop_zero]
      refine List.filter_eq_self.mpr (fun u hu => decide_eq_true ?_)
      rcases List.mem_cons.mp hu with rfl | hu
      · exact c
      · exact (hfs u).mpr (.step ((hfs y).mp c) (h2 u hu))
    · have e : stayOf (y :: r) fs = stayOf r fs + 1 := by
        unfold stayOf
        rw [List.takeWhile_cons_of_pos (by simp [c])]
        rfl
      rw [e, List.drop_succ_cons, List.filter_cons, if_neg (by rw [decide_eq_false c]; decide)]
      exact RiseP.gone hfs h1
theorem stay_not {zs fs : List Str} : ∀ u ∈ zs.take (stayOf zs fs), u ∉ fs := by
  intro u hu
  have e : zs.take (stayOf zs fs) = zs.takeWhile (fun z => !decide (z ∈ fs)) := by
    have h := List.takeWhile_prefix (l := zs) (fun z => !decide (z ∈ fs))
    exact (List.prefix_iff_eq_take.mp h).symm
  rw [e] at hu
  have := List.all_takeWhile (l := zs) (p := fun z => !decide (z ∈ fs))
  have h2 := List.all_eq_true.mp this u hu
  simpa using h2
def pLearned (C : Addr) : PSp := fun ds Q => ∃ (ls : List Str) (ps : List Pr) (us : List Str) (l : Str), ds = [ordD C ls ps, .lst ((us.map fun u => ((u, l) : Pr)).map prD)] ∧ OrdOk ls ps ∧ l ∈ ls ∧ (∀ u ∈ us, u ∈ ls ∧ u ≠ l ∧ ¬ Rch ps l u) ∧
  ∀ qs, OrdOk ls qs → (∀ z, z ∈ qs ↔ z ∈ ps ∨ ∃ u ∈ us, z = (u, l)) → Q (.val (ordD C ls qs)) none
def pOne (C : Addr) : PSp := fun ds Q => ∃ ls ps, ∃ es : List (Str × D), ∃ z : Str, ds = [ordD C ls ps, pileD es, .str z] ∧ OrdOk ls ps ∧ es.length ≤ 40 ∧ (∀ e ∈ es, e.1 ∈ ls) ∧ z ∈ ls ∧ RiseP ps (es.map (·.1)) ∧ Q (.val (.bl true)) none
/-- the law's own look at one pot -/
def pRight0 : PSp := fun ds Q => ∃ ws : List Str, ds = [potD, .lst (strsD ws)] ∧ ws.Nodup ∧ (∀ z ∈ ws, Nm z) ∧ 1 ≤ ws.length ∧ ws.length ≤ 30 ∧ Q (.val (.bl true)) none
end L3
namespace L3
open PySem PySem.Spec PyProof.Rows L2 TB LamX
theorem ixN_nat {n j : Nat} (h : j < n) : ixN n (j : Int) = some j := by
  unfold ixN
  rw [if_pos (by omega), if_pos (by omega)]
  simp
theorem take_pile (es : List (Str × D)) (n : Nat) (h : n ≤ es.length) : cutD (es.map fun e => D.tup [.str e.1, e.2]) none (some (n : Int)) = (es.take n).map fun e => D.tup [.str e.1, e.2] := cut_toD _ es n h
theorem all_true {α : Type} {f : α → Bool} {l : List α} (h : ∀ x ∈ l, f x = true) : (l.map f).all id = true := by
  rw [List.all_map, List.all_eq_true]
  exact h
theorem any_false {α : Type} {f : α → Bool} {l : List α} (h : ∀ x ∈ l, f x = false) : (l.map f).any id = false := by
  rw [List.any_map, List.any_eq_false]
  intro x hx
  simp [h x hx]
end L3
namespace L3
open PySem PySem.Spec PyProof.Rows L2 TB LamX
/-- Life(place = p) -/
def gLifeP {α : Type} (us mv ws : List α) : List α := match us, mv, ws with
  | [x], [h, d, c], [p] => [x, p, h, d, c]
  | _, _, _ => []
theorem gLifeP_rel {vs mz zs : List V} {us mv ws : List Value} (h1 : Vals vs us) (h2 : Vals mz mv) (h3 : Vals zs ws) : Vals (gLifeP vs mz zs) (gLifeP us mv ws) := by
  match vs, us, mz, mv, zs, ws, h1, h2, h3 with
  | [_], [_], [_, _, _], [_, _, _], [_], [_], .cons a .nil, .cons h (.cons d (.cons c .nil)), .cons p .nil => exact .cons a (.cons p (.cons h (.cons d (.cons c .nil))))
  | [], [], _, _, _, _, _, _, _ => exact .nil
  | _ :: _ :: _, _ :: _ :: _, _, _, _, _, _, _, _ => exact .nil
  | [_], [_], [], [], _, _, _, _, _ => exact .nil
  | [_], [_], [_], [_], _, _, _, _, _ => exact .nil
  | [_], [_], [_, _], [_, _], _, _, _, _, _ => exact .nil
  | [_], [_], _ :: _ :: _ :: _ :: _, _ :: _ :: _ :: _ :: _, _, _, _, _, _ => exact .nil
  | [_], [_], [_, _, _], [_, _, _], [], [], _, _, _ => exact .nil
  | [_], [_], [_, _, _], [_, _, _], _ :: _ :: _, _ :: _ :: _, _, _, _ => exact .nil
/-- a promise told in plain data, of the law's own look -/
theorem right_imp {X : Sx} {T0 : Addr} {q : Str} (hT : X.tb = [(T0, q)]) {vs : List V} {H : Hp} {Q : VK} {E : XK}
    (h : ∃ (p a : Addr) (ws : List Str), vs = [.ref p, .ref a] ∧ H p = some (PotO p) ∧ H a = some (.lst (ws.map V.str)) ∧ ws.Nodup ∧ (∀ z ∈ ws, Nm z) ∧ 1 ≤ ws.length ∧ ws.length ≤ 30 ∧ NoT H ∧ TabS H T0 q ∧ ∀ H', Tg T0 q H H' → Q (.bl true) H') : lsp X none pRight0 vs H Q E := by
  obtain ⟨p, a, ws, rfl, hp, ha, nd, nm, h1, h30, nt, tb, k⟩ := h
  have npa : p ≠ a := ne_of hp ha (fun z => nomatch z)
  have nTp : T0 ≠ p := by
    obtain ⟨ts, e, _⟩ := tb
    exact ne_of e hp (fun z => nomatch z)
  have nTa : T0 ≠ a := by
    obtain ⟨ts, e, _⟩ := tb
    exact ne_of e ha (fun z => nomatch z)
  let F : Hp := upd (upd (fun _ => none) p (PotO p)) a (.lst (ws.map V.str))
  have hF : ∀ b o, F b = some o → H b = some o := by
    intro b o e
    have e : upd (upd (fun _ => none) p (PotO p)) a (.lst (ws.map V.str)) b = some o := e
    by_cases c : b = a
    · subst c
      rw [upd_same] at e
      rw [ha]
      exact e
    · rw [upd_ne c] at e
      by_cases c2 : b = p
      · subst c2
        rw [upd_same] at e
        rw [hp]
        exact e
      · rw [upd_ne c2] at e
        exact nomatch e
  have fT : F T0 = none := by
    show upd (upd (fun _ => none) p (PotO p)) a (.lst (ws.map V.str)) T0 = none
    rw [upd_ne nTa, upd_ne nTp]
  have en : Entry X none F H [.ref p, .ref a] [potD, .lst (strsD ws)] := by
    refine ⟨hF, nt, fun x hx => ?_, fun x hx => ?_, rfl, fun j d v h1 h2 _ => ?_, fun j z => nomatch z⟩
    · rw [show x = (T0, q) by rw [hT] at hx; exact List.mem_singleton.mp hx]
      exact tb
    · rw [show x = (T0, q) by rw [hT] at hx; exact List.mem_singleton.mp hx]
      exact fT
    · match j, h1, h2 with
      | 0, h1, h2 =>
        obtain rfl := Option.some.inj h1
        obtain rfl := Option.some.inj h2
        refine ⟨p, rfl, ?_⟩
        show upd (upd (fun _ => none) p (PotO p)) a (.lst (ws.map V.str)) p = some (PotO p)
        rw [upd_ne npa, upd_same]
      | 1, h1, h2 =>
        obtain rfl := Option.some.inj h1
        obtain rfl := Option.some.inj h2
        exact ⟨a, _, rfl, upd_same, rp_strs ws⟩
  refine ⟨F, _, fun r _ => r = .val (.bl true), en, ⟨ws, rfl, nd, nm, h1, h30, rfl⟩, ?_⟩
  rintro r out v F' H' ex rfl
  obtain rfl : v = .bl true := ex.res
  have st := ex.step
  refine k H' ⟨fun b o e m => st.kp b o e (fun z => nomatch z) (fun x hx z => m ?_), st.tab (T0, q) (by show (T0, q) ∈ X.tb; rw [hT]; exact List.mem_singleton.mpr rfl), fun _ => st.nt⟩
  have hx2 : x ∈ X.tb := hx
  rw [z, show x = (T0, q) by rw [hT] at hx2; exact List.mem_singleton.mp hx2]
  exact List.mem_singleton.mpr rfl
end L3
namespace L3
open PySem PySem.Spec PyProof.Rows L2 TB LamX
theorem fng_imp {P : Program} {w : World} {K : PySem.W.Frag} {mg : Str → Option Value} {base : Heap} {CX : CXT} {k : Nat} {f : Addr} {fd : FuncData} {ps : List Str} {sp sp' : Sp} (F : FnG P w K mg base CX k f fd ps sp) (h : ∀ vs H Q E, sp' vs H Q E → sp vs H Q E) : FnG P w K mg base CX k f fd ps sp' :=
  ⟨fun vs H Q E q => F.lenG vs H Q E (h _ _ _ _ q), fun A outer s H args us vs Q E g hr he hb hv hs => F.runG A outer s H args us vs Q E g hr he hb hv (h _ _ _ _ hs)⟩
end L3
/-! enumerate of a tuple; a walk of a list or a tuple. -/
namespace PySem
open Sem (wp)
open AutoSeq1 (wpAny_loadPart')
theorem tb_enumNewT (t : Addr) (its : Array Value) (k : Nat) (dc : Option Addr) (sls : Array (Option Value)) :
    Meets (Builtin.«enumerate.__new__» ⟨[.type "enumerate", .ref t], []⟩) (fun _ Rz sh => sh.heap.get? t = some { cls := .type "tuple", dict := dc, data := .seq its k, slots := sls } ∧
      Rz (.ok (.ret (.ref (sh.heap.push { cls := .type "tuple_iterator", data := .fields #[.ref t, .int 0 0] }).objs.size)))
        { sh with heap := (sh.heap.push { cls := .type "tuple_iterator", data := .fields #[.ref t, .int 0 0] }).push { cls := .type "enumerate", data := .fields #[.none, .bool false, .ref sh.heap.objs.size, rawInt 0, .none, .none] } }) :=
  .of_wp fun pg wd Ar Rz sh hh => by
    obtain ⟨hp, g, d, tk, os⟩ := sh; obtain ⟨ht, hh⟩ := hh
    have hsb := sub_enumerate
    have hTu : Heap.IsTuple (Shared.heap ⟨hp, g, d, tk, os⟩) t its := ⟨_, ht, rfl, k, rfl⟩
    wp_walk using wpAny_loadPart' ht
    refine wpAny_stack_any fun stk => wpAny_pure ?_
    split
    · rename_i cc _ _ _ _ _
      cases (cc == Value.type "enumerate")
      · wp_walk using wpAny_loadPart' ht, wpAny_pyIter_tuple hTu
        exact ⟨_, rfl, hh⟩
      · wp_walk using wpAny_loadPart' ht, wpAny_pyIter_tuple hTu
        exact ⟨_, rfl, hh⟩
    · wp_walk using wpAny_loadPart' ht, wpAny_pyIter_tuple hTu
      exact ⟨_, rfl, hh⟩
theorem tb_callEnumT {prog : Program} {w : World} {A : Around} {E : Value → Shared → Prop} {s : Shared} {t : Addr} {its : Array Value} {Q : Value → Shared → Prop} (hT : s.heap.IsTuple t its)
    (h : ∀ h', IsEnum h' (s.heap.objs.size + 1) s.heap.objs.size 0 .none → h'.IsTupleIter s.heap.objs.size t 0 → h'.objs.size = s.heap.objs.size + 2 → (∀ b o, s.heap.get? b = some o → h'.get? b = some o) → Q (.ref (s.heap.objs.size + 1)) { s with heap := h' }) :
    wpAny (model prog w) A (call (.type "enumerate") [.ref t]) Q E s := by
  obtain ⟨⟨c, dct, dt, sl⟩, hl, hc, n, hd⟩ := hT
  obtain rfl : c = .type "tuple" := hc
  obtain rfl : dt = .seq its n := hd
  refine callType_new F.called_enumerate (by decide) (F.typeCall_enumerate_1 _) (F.newCall_enumerate_1 _) (fun ob => F.args_object_init_2 ob _) F.entry_enumerate_new (tb_enumNewT t its n dct sl) ⟨hl, ?_⟩
  have hz : (s.heap.push { cls := .type "tuple_iterator", data := .fields #[.ref t, .int 0 0] }).objs.size = s.heap.objs.size + 1 := Heap.size_push ..
  show _ ∧ _
  rw [hz]
  have he : IsEnum ((s.heap.push { cls := .type "tuple_iterator", data := .fields #[.ref t, .int 0 0] }).push { cls := .type "enumerate", data := .fields #[.none, .bool false, .ref s.heap.objs.size, rawInt 0, .none, .none] }) (s.heap.objs.size + 1) s.heap.objs.size 0 .none := by
    have q := Heap.get?_push_size (s.heap.push { cls := .type "tuple_iterator", data := .fields #[.ref t, .int 0 0] }) (o := { cls := .type "enumerate", data := .fields #[.none, .bool false, .ref s.heap.objs.size, rawInt 0, .none, .none] }) rfl
    rw [hz] at q
    exact q
  exact ⟨⟨_, he, rfl⟩, h _ he ⟨_, Heap.get?_push_of_some _ (Heap.get?_push_size _ rfl), rfl, rfl⟩ (by rw [Heap.size_push, hz]) fun b o z => Heap.get?_push_of_some _ (Heap.get?_push_of_some _ z)⟩
end PySem
namespace TB
open PySem PySem.Spec PyProof.Rows L2
/-- the tuple at a, each item in a new pair -/
def IteT (K : PySem.W.Frag) (a : Addr) : It :=
  ⟨fun i H => ∃ (xs : List V) (x : V), SqT K H a xs ∧ xs[i]? = some x, fun i H v H' => ∃ T x, v = .ref T ∧ H T = none ∧ H' = upd H T (.tup [.int (i : Nat), x]) ∧ ∀ xs, SqT K H a xs → xs[i]? = some x, fun i H => ∃ xs : List V, SqT K H a xs ∧ xs.length ≤ i⟩
end TB
namespace PySem
theorem tb_enumEndT {prog : Program} {w : World} {A : Around} {E : Value → Shared → Prop} {s : Shared} {e it t : Addr} {i : Nat} {its : Array Value} {old : Value} {Q : Option Value → Shared → Prop} (hh : A.handled = none) (he : IsEnum s.heap e it i old) (hit : s.heap.IsTupleIter it t i) (ht : s.heap.IsTuple t its) (hx : its[i]? = none)
    (hQ : ∀ h', Heap.ExtBut it s.heap h' → Q none { s with heap := h' }) : wpAny (model prog w) A (pyNext (.ref e)) Q E s := by
  have hT : s.TypeIs (.ref e) "enumerate" := ⟨_, he, rfl⟩
  unfold pyNext
  refine wpAny_bind (wpAny_attempt (wpAny_callSpecial?_slot (name := Str.ofString "__next__") hT F.slot_enumerate_next (wpAny_call_entry F.slot_enumerate_next hT F.entry_enumerate_next ?_ (F.args_enumerate_next_1 _))))
  show wpAny _ _ (field (.ref e) 2 >>= _) _ _ _
  refine wpAny_bind (wpAny_field he rfl (x := .ref it) rfl (wpAny_bind (wpAny_nextOf_tuple_end hh hit ht hx fun h' x he' hx' => ?_)))
  obtain ⟨o, ho, hc⟩ := hx'
  exact wpAny_bind (wpAny_isInstance (T := "StopIteration") (b := true) ⟨o, ho, hc⟩ isSubtype_stop (wpAny_pure (hQ _ he')))
end PySem
namespace TB
open PySem PySem.Spec PyProof.Rows L2
theorem turn_enT {P : Program} {w : World} {K : PySem.W.Frag} {els : List Expr} {n : Nat} {ps : Pos} (a e it : Addr) :
    Turn P w K (.Tuple els n ps) (IteT K a) [e, it] e (fun i h => (∃ old, IsEnum h e it ((i : Nat) : Int) old) ∧ h.IsTupleIter it a i ∧ e ≠ it) where
  mem := List.mem_cons_self
  obj := by
    rintro i h ⟨⟨old, he⟩, ⟨o, ho, hc, hd⟩, _⟩ b hb
    have e2 : b = e ∨ b = it := by simpa using hb
    rcases e2 with rfl | rfl
    · exact ⟨_, he, fun v q => nomatch q⟩
    · exact ⟨o, ho, fun v q => by rw [hd] at q; cases q⟩
  keep := by
    rintro i h h' ⟨⟨old, he⟩, hi, hne⟩ k
    exact ⟨⟨old, k e (by simp) _ he⟩, hi.at fun o q => k it (by simp) o q, hne⟩
  item := by
    intro X hP hw hK hc i pins s σ H E I hf st hg
    subst hP hw hK
    obtain ⟨⟨old, he⟩, hit, hne⟩ := st
    obtain ⟨xs, x, hq, hx⟩ := hg
    obtain ⟨its, rv, tp, hz⟩ := I.tuple hq
    obtain ⟨u, hu, ru⟩ := rv.get hx
    have hel : e < s.heap.objs.size := Heap.lt_size he
    have hil : it < s.heap.objs.size := by obtain ⟨_, q, _⟩ := hit; exact Heap.lt_size q
    have hai : a ≠ it := by
      rintro rfl
      obtain ⟨o1, q1, c1, _⟩ := tp
      obtain ⟨o2, q2, c2, _⟩ := hit
      rw [q1] at q2
      cases q2
      rw [c1] at c2
      exact absurd c2 (by decide)
    have hea : e ∉ [it, a] := by
      intro m
      have m2 : e = it ∨ e = a := by simpa using m
      rcases m2 with m2 | m2
      · exact hne m2
      · obtain ⟨o1, q1, c1, _⟩ := tp
        rw [← m2, he] at q1
        cases q1
        exact absurd (show Value.type "enumerate" = Value.type "tuple" from c1) (by decide)
    have Dr := Draws.tuple (prog := X.prog) (w := X.w) (A := X.A.in1) (I.ok.hd hc) it a hai its.toArray
    have hlt : i < its.toArray.size := by
      have := (List.getElem?_eq_some_iff.mp hu).1
      simpa using this
    refine wpAny_pyNext_enum_itemD Dr he ⟨hit, tp⟩ hlt hne hea fun y h' tk hy ho hst hT hsz hk => ?_
    obtain rfl : u = y := by
      have h1 : its.toArray[i]? = some y := hy
      rw [List.getElem?_toArray, hu] at h1
      exact Option.some.inj h1
    refine ⟨_, rfl, wpAny_letOwnedTupleGo_enum (s := { s with heap := h', toks := tk + 1 }) ho fun h2 he2 sb => ?_⟩
    have hT2 : h2.get? s.heap.objs.size = some { cls := .type "tuple", data := .seq #[.int i tk, u] } := (sb.2 _ (Nat.ne_of_gt hel)).trans hT
    have new : ObjOk X.prog X.w (upd H s.heap.objs.size (.tup [.int (i : Nat), x])) h2 s.heap.objs.size (.tup [.int (i : Nat), x]) := ⟨(by show 2 ≤ sizeLine; decide), [.int i tk, u], .cons ⟨_, rfl⟩ (.cons ru .nil), ⟨_, hT2, rfl, _, rfl⟩⟩
    have I1 : Inv X pins σ (upd H s.heap.objs.size (.tup [.int (i : Nat), x])) { s with heap := h2, toks := tk + 1 } :=
      I.turnedNew (ch := [e, it]) (fun b ob nb q => (sb.2 b (fun z => nb (by simp [z]))).trans (hk b ob (fun z => nb (by simp [z])) (fun z => nb (by simp [z])) q)) hf (Nat.le_refl _) new
    refine ⟨.ref s.heap.objs.size, _, I1, rfl, ⟨_, x, rfl, I.hok.fresh (Nat.le_refl _), rfl, fun ys hys => by rw [I.tuple_inj hys hq]; exact hx⟩, ⟨⟨u, ?_⟩, hst.1.at fun o q => (sb.2 it (Ne.symm hne)).trans q, hne⟩, fun b hb => ?_⟩
    · have e1 : ((i + 1 : Nat) : Int) = (i : Int) + 1 := by omega
      rw [e1]
      exact he2
    · have hb2 : b < s.heap.objs.size := by
        have e2 : b = e ∨ b = it := by simpa using hb
        rcases e2 with rfl | rfl
        · exact hel
        · exact hil
      rw [upd_ne (Nat.ne_of_lt hb2)]
      exact (hf b hb).1
  done := by
    intro X hP hw hK hc i pins s σ H E I hf st hg
    subst hP hw hK
    obtain ⟨⟨old, he⟩, hit, hne⟩ := st
    obtain ⟨xs, hq, hx⟩ := hg
    obtain ⟨its, rv, tp, hz⟩ := I.tuple hq
    obtain ⟨f0, f1, f2, f3, f4, f5⟩ := hf it (by simp)
    have hl := rv.length
    exact tb_enumEndT (I.ok.hd hc) he hit tp (by simp; omega) fun h' eb => ⟨rfl, I.turned (t' := s.toks) (fun b o nb q => eb b o nb q) f0 f1 f3 f4 f5⟩
  self := by
    rintro A i s Q E ⟨⟨_, he⟩, _⟩ h
    exact wpAny_pyIter_enum he h
end TB
namespace TB
open PySem PySem.Spec PyProof.Rows L2
/-- enumerate of a list or a tuple -/
def iEnA (K : PySem.W.Frag) (ta : TA) : TI := fun σ H R => ta σ H fun vs H1 => (∃ a xs, vs = [.ref a] ∧ SqL K H1 a xs ∧ R (Ite K a) H1) ∨ ∃ a xs, vs = [.ref a] ∧ SqT K H1 a xs ∧ R (IteT K a) H1
theorem pi_enA {X : Cx} {e : Expr} {ta : TA} {p pos tp : Pos} {els : List Expr} {kk : Nat} (K : PySem.W.Frag) (hg : Gl X "enumerate") (hm : X.mg "enumerate" = none) (ha : PA X [e] ta) (hs : starEach [e] X.env = [(false, eval e X.env)] := by rfl) (hK : X.K = K := by rfl) :
    PI X (.Tuple els kk tp) (.Call (.Name "enumerate" p) [e] [] pos) (iEnA K ta) := by
  subst hK
  refine ⟨fun pins s σ H R I h => ?_⟩
  refine Call_ (ld_blt I hg hm boot_enumerate (PyProof.Rows.callWith_type1 (thn (ha.run pos pins s σ H _ I h) fun us s1 ⟨vs, H1, I1, r1, q1⟩ => ?_) hs rfl))
  have hle : ∀ b ∈ [s1.heap.objs.size + 1, s1.heap.objs.size], s1.heap.objs.size ≤ b := by
    intro b hb
    have e' : b = s1.heap.objs.size + 1 ∨ b = s1.heap.objs.size := by simpa using hb
    omega
  rcases q1 with ⟨a, xs, rfl, hq, q⟩ | ⟨a, xs, rfl, hq, q⟩
  · cases r1 with
    | cons r rr =>
      cases rr
      cases r
      obtain ⟨its, rv, pl, hz⟩ := I1.list hq
      refine call_enumerate_list pl.isList fun h' he hit hsz hk => wpAny_pyIter_enum he ?_
      exact ⟨s1.heap.objs.size + 1, _, _, _, H1, rfl, I1.kept (t' := s1.toks) hk, turn_enum a (s1.heap.objs.size + 1) s1.heap.objs.size, ⟨⟨.none, he⟩, hit, Nat.succ_ne_self _⟩, fun b hb => I1.fpOk (hle b hb) (I1.hok.fresh (hle b hb)), q⟩
  · cases r1 with
    | cons r rr =>
      cases rr
      cases r
      obtain ⟨its, rv, pl, hz⟩ := I1.tuple hq
      refine tb_callEnumT pl fun h' he hit hsz hk => wpAny_pyIter_enum he ?_
      exact ⟨s1.heap.objs.size + 1, _, _, _, H1, rfl, I1.kept (t' := s1.toks) hk, turn_enT a (s1.heap.objs.size + 1) s1.heap.objs.size, ⟨⟨.none, he⟩, hit, Nat.succ_ne_self _⟩, fun b hb => I1.fpOk (hle b hb) (I1.hok.fresh (hle b hb)), q⟩
/-- a list or a tuple walked -/
def iAny (K : PySem.W.Frag) (tl : TE) : TI := fun σ H R => tl σ H fun x H1 => (∃ a, x = .ref a ∧ (∃ xs, SqL K H1 a xs) ∧ R (Itl K a) H1) ∨ ∃ a, x = .ref a ∧ (∃ xs, SqT K H1 a xs) ∧ R (Itt K a) H1
theorem pi_any {X : Cx} {tg l : Expr} {tl : TE} (K : PySem.W.Frag) (hl : PE X l tl) (hK : X.K = K := by rfl) : PI X tg l (iAny K tl) := by
  subst hK
  refine ⟨fun pins s σ H R I h => ?_⟩
  refine thn (hl.run pins s σ H _ I h) fun v s1 ⟨x, H1, I1, r1, q1⟩ => ?_
  rcases q1 with ⟨a, rfl, ⟨xs, hq⟩, q⟩ | ⟨a, rfl, ⟨xs, hq⟩, q⟩
  · cases r1
    obtain ⟨its, rv, pl, hz⟩ := I1.list hq
    refine wpAny_pyIter_list pl.isList ⟨s1.heap.objs.size, [s1.heap.objs.size], _, _, H1, rfl, I1.kept (t' := s1.toks) fun b o e => Heap.get?_push_of_some _ e, turn_list a _, ⟨_, Heap.get?_push_size _ rfl, rfl, rfl⟩, fun b hb => ?_, q⟩
    obtain rfl : b = s1.heap.objs.size := by simpa using hb
    exact I1.fpOk (Nat.le_refl _) (I1.hok.fresh (Nat.le_refl _))
  · cases r1
    obtain ⟨its, rv, pl, hz⟩ := I1.tuple hq
    refine wpAny_pyIter_tuple (show s1.heap.IsTuple a its.toArray from pl) ⟨s1.heap.objs.size, [s1.heap.objs.size], _, _, H1, rfl, I1.kept (t' := s1.toks) fun b o e => Heap.get?_push_of_some _ e, turn_tuple a _, ⟨_, Heap.get?_push_size _ rfl, rfl, rfl⟩, fun b hb => ?_, q⟩
    obtain rfl : b = s1.heap.objs.size := by simpa using hb
    exact I1.fpOk (Nat.le_refl _) (I1.hok.fresh (Nat.le_refl _))
end TB
namespace L3
open PySem PySem.Spec PyProof.Rows L2 TB LamX
section
variable {X : Sx} {K : PySem.W.Frag}
theorem wd_enT {a : Addr} {vs : List V} {ds : List D} {F : Hp} (h : SqT X.K F a vs) (r : RpL X.K F ds vs) : Wd X (IteT X.K a) F (ds.zipIdx.map fun p => D.tup [.int (p.2 : Nat), p.1]) := by
  intro i c' σ ρ F1 H1 hX s R
  have hs := sqT_mono (tr s R.sub) h
  refine ⟨fun d e => ?_, fun e => ?_⟩
  · rw [List.getElem?_map, List.getElem?_zipIdx] at e
    cases e3 : ds[i]? with
    | none => rw [e3] at e; exact nomatch e
    | some d0 =>
      rw [e3] at e
      obtain rfl := Option.some.inj e
      obtain ⟨v, e2, rp⟩ := r.get' e3
      refine ⟨⟨vs, v, hs, e2⟩, ?_⟩
      rintro x H' ⟨T, y, rfl, nT, rfl, hx⟩
      have ex := hx vs hs
      rw [e2] at ex
      obtain rfl := Option.some.inj ex
      have sF : Same F1 (upd F1 T (.tup [.int (i : Nat), v])) := fun _ _ e => old_upd (R.fnone nT) e
      refine ⟨fun _ _ e => old_upd nT e, _, R.alloc nT trivial, sF, T, _, rfl, sqT_of upd_same, ?_⟩
      refine ⟨_, _, rfl, ?_, _, _, rfl, (rp.mono s).mono sF, rfl⟩
      show V.int _ = V.int _
      rw [Nat.zero_add]
  · refine ⟨vs, hs, ?_⟩
    rw [r.len]
    have := List.getElem?_eq_none_iff.mp e
    rw [List.length_map, List.length_zipIdx] at this
    exact this
def iqEnA (pa : QAD) : QI := fun ρ Q => pa ρ fun as ρ' => ∃ ds, (as = [.lst ds] ∨ as = [.tup ds]) ∧ Q (ds.zipIdx.map fun p => D.tup [.int (p.2 : Nat), p.1]) ρ'
theorem lii_enA {ta : TA} {pa : QAD} (h1 : LiAD X ta pa) (hK : X.K = K := by rfl) : LiI X (iEnA K ta) (iqEnA pa) := by
  subst hK
  intro c hX σ F H ρ R Q3 Re hq hp
  refine h1 c hX σ F H ρ _ _ Re ?_ hp
  rintro ds ρ' vs F' H' R' s rp ⟨es, h | h, q⟩
  · subst h hX
    obtain ⟨v, t, rfl, ⟨a, ws, rfl, sq, r⟩, e⟩ := rp
    obtain rfl : t = [] := e
    exact Or.inl ⟨a, ws, rfl, sqL_of (R'.sub _ _ sq), hq _ ρ' _ F' H' R' s (wd_enum (sqL_of sq) r) q⟩
  · subst h hX
    obtain ⟨v, t, rfl, ⟨a, ws, rfl, sq, r⟩, e⟩ := rp
    obtain rfl : t = [] := e
    exact Or.inr ⟨a, ws, rfl, sqT_mono R'.sub sq, hq _ ρ' _ F' H' R' s (wd_enT sq r) q⟩
def iqAny (pe : QE) : QI := fun ρ Q => qEsc pe ρ fun d ρ' => ∃ ds, (d = .lst ds ∨ d = .tup ds) ∧ Q ds ρ'
theorem lii_any {te : TE} {pe : QE} (h1 : LiE X te pe) (hK : X.K = K := by rfl) : LiI X (iAny K te) (iqAny pe) := by
  subst hK
  intro c hX σ F H ρ R Q3 Re hq hp
  refine li_esc h1 c hX σ F H ρ _ _ Re ?_ hp
  rintro d ρ' v F' H' R' s rp ⟨ds, h | h, q⟩
  · subst h hX
    obtain ⟨a, vs, rfl, sq, r⟩ := rp
    exact Or.inl ⟨a, rfl, ⟨vs, sqL_of (R'.sub _ _ sq)⟩, hq ds ρ' _ F' H' R' s (wd_list (sqL_of sq) r) q⟩
  · subst h hX
    obtain ⟨a, vs, rfl, sq, r⟩ := rp
    exact Or.inr ⟨a, rfl, ⟨vs, sqT_mono R'.sub sq⟩, hq ds ρ' _ F' H' R' s (wd_tup sq r) q⟩
theorem w_ienA {ρ : PSt} {pad : QAD} {Q : List D → PSt → Prop} (h : pad ρ fun as ρ' => ∃ ds, (as = [.lst ds] ∨ as = [.tup ds]) ∧ Q (ds.zipIdx.map fun p => D.tup [.int (p.2 : Nat), p.1]) ρ') : iqEnA pad ρ Q := h
theorem w_iany {ρ : PSt} {pe : QE} {Q : List D → PSt → Prop} (h : qEsc pe ρ fun d ρ' => ∃ ds, (d = .lst ds ∨ d = .tup ds) ∧ Q ds ρ') : iqAny pe ρ Q := h
/-- isinstance(x, str) of a text -/
def oIsStr : OL := fun as Q => ∃ z, as = [.str z, .ty "str"] ∧ Q (.bl true)
theorem lc_isStr : LiC X rIsStr oIsStr := by
  intro c hX σ F H ρ xs dxs Q Q3 R rx hq h
  obtain ⟨z, rfl, h⟩ := h
  obtain ⟨v, t, rfl, rv, v2, t2, rfl, rv2, e⟩ := rx
  obtain rfl : t2 = [] := e
  obtain rfl : v = .str z := rv
  obtain rfl : v2 = .ty "str" := rv2
  exact ⟨z, rfl, hq (.bl _) _ F H R (Same.refl F) rfl h⟩
theorem w_isStr {z : Str} {F : D → Prop} (h : F (.bl true)) : oIsStr [.str z, .ty "str"] F := ⟨z, rfl, h⟩
theorem w_cT {n : String} {ρ : PSt} {Q : Rv → PSt → Prop} (h : Q (.val (.ty n)) ρ) : qC (.ty n) ρ Q := h
end
end L3
/-! Lines of an order, heights: plain. -/
namespace L3
open PySem PySem.Spec PyProof.Rows L2 TB LamX
/-- all that stand ahead of z by a pair are among xs -/
def freeB (ps : List Pr) (z : Str) (xs : List Str) : Bool := ((ps.filter fun p => decide (p.2 = z)).map fun p => decide (p.1 ∈ xs)).all id
theorem freeB_iff {ps : List Pr} {z : Str} {xs : List Str} : freeB ps z xs = true ↔ ∀ a, (a, z) ∈ ps → a ∈ xs := by
  unfold freeB
  rw [List.all_map, List.all_eq_true]
  constructor
  · intro h a ha
    have := h (a, z) (List.mem_filter.mpr ⟨ha, decide_eq_true rfl⟩)
    simpa using this
  · intro h p hp
    obtain ⟨h1, h2⟩ := List.mem_filter.mp hp
    have e := of_decide_eq_true h2
    have := h p.1 (by rw [← e]; exact h1)
    simpa using this
def nextL (ls : List Str) (ps : List Pr) (fs : List Str) : List Str := ls.filter fun y => !decide (y ∈ fs) && freeB ps y fs
/-- a line so far: begun with xs, then always the first that may stand -/
structure GL (ls : List Str) (ps : List Pr) (xs fs : List Str) : Prop where
  nd : fs.Nodup
  mem : ∀ z ∈ fs, z ∈ ls
  pre : fs.take xs.length = xs
  len : xs.length ≤ fs.length
  free : ∀ i z, fs[i]? = some z → freeB ps z (fs.take i) = true
  least : ∀ i z, xs.length ≤ i → fs[i]? = some z → (nextL ls ps (fs.take i)).head? = some z
theorem snoc_free {ps : List Pr} {fs : List Str} {z : Str} (h : ∀ i u, fs[i]? = some u → freeB ps u (fs.take i) = true) (hz : freeB ps z fs = true) : ∀ i u, (fs ++ [z])[i]? = some u → freeB ps u ((fs ++ [z]).take i) = true := by
  intro i u hi
  by_cases c : i < fs.length
  · rw [List.getElem?_append_left c] at hi
    rw [List.take_append_of_le_length (Nat.le_of_lt c)]
    exact h i u hi
  · have hl := (List.getElem?_eq_some_iff.mp hi).1
    rw [List.length_append, List.length_singleton] at hl
    have e : i = fs.length := by omega
    subst e
    rw [List.getElem?_append_right (Nat.le_refl _), Nat.sub_self] at hi
    obtain rfl : z = u := by simpa using hi
    rw [List.take_left]
    exact hz
theorem GL.start {ls : List Str} {ps : List Pr} {xs : List Str} (nd : xs.Nodup) (mem : ∀ z ∈ xs, z ∈ ls) (free : ∀ i z, xs[i]? = some z → freeB ps z (xs.take i) = true) : GL ls ps xs xs :=
  ⟨nd, mem, List.take_length, Nat.le_refl _, free, fun i z h e => absurd (List.getElem?_eq_some_iff.mp e).1 (by omega)⟩
theorem GL.snoc {ls : List Str} {ps : List Pr} {xs fs : List Str} {z : Str} (g : GL ls ps xs fs) (h : (nextL ls ps fs).head? = some z) : GL ls ps xs (fs ++ [z]) := by
  have hm : z ∈ nextL ls ps fs := List.mem_of_mem_head? (by rw [h]; rfl)
  obtain ⟨h1, h2⟩ := List.mem_filter.mp hm
  rw [Bool.and_eq_true] at h2
  have hn : z ∉ fs := by simpa using h2.1
  refine ⟨List.nodup_append.mpr ⟨g.nd, by simp, fun a ha b hb e => hn (by rw [List.mem_singleton.mp hb] at e; rw [← e]; exact ha)⟩, fun u hu => ?_, ?_, ?_, snoc_free g.free h2.2, fun i u hi e => ?_⟩
  · rcases List.mem_append.mp hu with h | h
    · exact g.mem u h
    · rw [List.mem_singleton.mp h]
      exact h1
  · rw [List.take_append_of_le_length g.len]
    exact g.pre
  · rw [List.length_append]
    have := g.len
    omega
  · by_cases c : i < fs.length
    · rw [List.getElem?_append_left c] at e
      rw [List.take_append_of_le_length (Nat.le_of_lt c)]
      exact g.least i u hi e
    · have hl := (List.getElem?_eq_some_iff.mp e).1
      rw [List.length_append, List.length_singleton] at hl
      have e2 : i = fs.length := by omega
      subst e2
      rw [List.getElem?_append_right (Nat.le_refl _), Nat.sub_self] at e
      obtain rfl : z = u := by simpa using e
      rw [List.take_left]
      exact h
/-- of some locks one stands ahead of all -/
theorem least_of {ps : List Pr} (ac : ∀ a, ¬ Rch ps a a) : ∀ {S : List Str}, S ≠ [] → ∃ m ∈ S, ∀ a ∈ S, ¬ Rch ps a m
  | [], h => absurd rfl h
  | [x], _ => ⟨x, List.mem_singleton.mpr rfl, fun a ha => by rw [List.mem_singleton.mp ha]; exact ac x⟩
  | x :: y :: r, _ => by
    obtain ⟨m, hm, h⟩ := least_of ac (S := y :: r) (by simp)
    by_cases c : Rch ps x m
    · refine ⟨x, List.mem_cons_self, fun a ha => ?_⟩
      rcases List.mem_cons.mp ha with rfl | ha
      · exact ac _
      · exact fun q => h a ha (q.trans c)
    · refine ⟨m, List.mem_cons_of_mem _ hm, fun a ha => ?_⟩
      rcases List.mem_cons.mp ha with rfl | ha
      · exact c
      · exact h a ha
theorem next_some {ls : List Str} {ps : List Pr} {fs : List Str} (ok : OrdOk ls ps) (ac : ∀ a, ¬ Rch ps a a) (nd : fs.Nodup) (mem : ∀ z ∈ fs, z ∈ ls) (hl : fs.length < ls.length) : ∃ z r, nextL ls ps fs = z :: r := by
  have hne : (ls.filter fun y => !decide (y ∈ fs)) ≠ [] := by
    intro e
    have h1 := nodup_le (m := fs) ok.nd (fun x hx => by
      have := List.filter_eq_nil_iff.mp e x hx
      simpa using this)
    omega
  obtain ⟨m, hm, h⟩ := least_of ac hne
  obtain ⟨h1, h2⟩ := List.mem_filter.mp hm
  have hin : m ∈ nextL ls ps fs := by
    refine List.mem_filter.mpr ⟨h1, ?_⟩
    rw [Bool.and_eq_true]
    refine ⟨h2, freeB_iff.mpr fun a ha => ?_⟩
    by_cases c : a ∈ fs
    · exact c
    · exact absurd (Rch.one ha) (h a (List.mem_filter.mpr ⟨(ok.mem _ ha).1, by simp [c]⟩))
  cases e : nextL ls ps fs with
  | nil => rw [e] at hin; exact nomatch hin
  | cons z r => exact ⟨z, r, rfl⟩
def PreOk (ps : List Pr) (xs : List Str) : Prop := ∀ i z, xs[i]? = some z → freeB ps z (xs.take i) = true
def pFree (C : Addr) : PSp := fun ds Q => ∃ (ls : List Str) (ps : List Pr) (z : Str) (xs : List Str), ds = [ordD C ls ps, .str z, .lst (strsD xs)] ∧ OrdOk ls ps ∧ Q (.val (.bl (freeB ps z xs))) none
def pWantU (C : Addr) : PSp := fun ds Q => ∃ (ls : List Str) (ps : List Pr) (xs : List Str) (X : D), ds = [ordD C ls ps, X] ∧ (X = .lst (strsD xs) ∨ X = .tup [] ∧ xs = []) ∧ (∀ z ∈ xs, z ∈ ls) ∧ xs.Nodup ∧ Q (.val .non) none
def pLeast (C : Addr) : PSp := fun ds Q => ∃ (ls : List Str) (ps : List Pr) (xs : List Str) (X : D), ds = [ordD C ls ps, X] ∧ (X = .lst (strsD xs) ∨ X = .tup [] ∧ xs = []) ∧ OrdOk ls ps ∧ (∀ a, ¬ Rch ps a a) ∧ (∀ z ∈ xs, z ∈ ls) ∧ xs.Nodup ∧
  (¬ PreOk ps xs → Q (.val .non) none) ∧ (PreOk ps xs → ∀ line, GL ls ps xs line → line.length = ls.length → Q (.new (strsD line)) none)
end L3
namespace L3
open PySem PySem.Spec PyProof.Rows L2 TB LamX
/-! ### sorted texts -/
theorem lt_anti : ∀ {a b : List Nat}, ltCps a b = false → ltCps b a = false → a = b
  | [], [], _, _ => rfl
  | [], _ :: _, h, _ => nomatch h
  | _ :: _, [], _, h => nomatch h
  | x :: r, y :: t, h1, h2 => by
    simp only [ltCps, Bool.or_eq_false_iff, Bool.and_eq_false_imp, decide_eq_false_iff_not] at h1 h2
    have e : x = y := by omega
    subst e
    rw [lt_anti (h1.2 (by simp)) (h2.2 (by simp))]
theorem lt_tr : ∀ {a b c : List Nat}, ltCps b a = false → ltCps c b = false → ltCps c a = false
  | a, b, [], h1, h2 => by
    cases a with
    | nil => rfl
    | cons x r =>
      cases b with
      | nil => exact h1
      | cons y t => exact h2
  | [], b, z :: u, h1, h2 => rfl
  | x :: r, [], z :: u, h1, h2 => nomatch h1
  | x :: r, y :: t, z :: u, h1, h2 => by
    simp only [ltCps, Bool.or_eq_false_iff, Bool.and_eq_false_imp, decide_eq_false_iff_not] at h1 h2 ⊢
    refine ⟨by omega, fun e => ?_⟩
    have e : z = x := by simpa using e
    have e1 : y = x := by omega
    have e2 : z = y := by omega
    exact lt_tr (h1.2 (by simp [e1])) (h2.2 (by simp [e2]))
theorem rising_all : ∀ {l : List Str} {p : Str}, risingS p l = true → (∀ x ∈ l, ltCps x.cps.toList p.cps.toList = false) ∧ sortedS l = true
  | [], p, _ => ⟨(fun _ z => nomatch z), rfl⟩
  | y :: r, p, h => by
    have h : (!ltCps y.cps.toList p.cps.toList && risingS y r) = true := h
    rw [Bool.and_eq_true] at h
    have h0 : ltCps y.cps.toList p.cps.toList = false := by simpa using h.1
    obtain ⟨i1, i2⟩ := rising_all h.2
    refine ⟨fun x hx => ?_, h.2⟩
    rcases List.mem_cons.mp hx with rfl | hx
    · exact h0
    · exact lt_tr h0 (i1 x hx)
theorem sorted_one : ∀ {l m : List Str}, l.Perm m → sortedS l = true → sortedS m = true → l = m
  | [], m, p, _, _ => p.nil_eq
  | a :: r, [], p, _, _ => nomatch p.length_eq
  | a :: r, b :: t, p, h1, h2 => by
    obtain ⟨i1, i2⟩ := rising_all (l := r) (p := a) h1
    obtain ⟨j1, j2⟩ := rising_all (l := t) (p := b) h2
    have ha : a ∈ b :: t := p.mem_iff.mp List.mem_cons_self
    have hb : b ∈ a :: r := p.mem_iff.mpr List.mem_cons_self
    have e : a = b := by
      rcases List.mem_cons.mp ha with e | ha
      · exact e
      · rcases List.mem_cons.mp hb with e | hb
        · exact e.symm
        · exact str_ext (lt_anti (j1 a ha) (i1 b hb))
    subst e
    rw [sorted_one (List.Perm.cons_inv p) i2 j2]
/-! ### isinstance -/
def tyD : D → Option String
  | .non => some "NoneType"
  | .bl _ => some "bool"
  | .int _ => some "int"
  | .str _ => some "str"
  | .lst _ => some "list"
  | .tup _ => some "tuple"
  | .dic _ _ => some "dict"
  | _ => none
def oIsi : OL := fun as Q => ∃ (d : D) (n t : String) (b : Bool), as = [d, .ty n] ∧ tyD d = some t ∧ kitB t n = some b ∧ Q (.bl b)
section
variable {X : Sx} {K : PySem.W.Frag}
theorem tyD_ok {K : PySem.W.Frag} {F H : Hp} (s : Same F H) {d : D} {v : V} {t : String} (h : Rn K F H d v) (e : tyD d = some t) : TyX K H v (.type t) := by
  cases d with
  | non => obtain rfl := Option.some.inj e; obtain rfl : v = .non := h; exact .base .non
  | bl b => obtain rfl := Option.some.inj e; obtain rfl : v = .bl b := h; exact .base (.bl b)
  | int b => obtain rfl := Option.some.inj e; obtain rfl : v = .int b := h; exact .base (.int b)
  | str b => obtain rfl := Option.some.inj e; obtain rfl : v = .str b := h; exact .base (.str b)
  | ty b => exact nomatch e
  | ins _ _ _ => exact nomatch e
  | op _ => exact nomatch e
  | lst ds =>
    obtain rfl := Option.some.inj e
    obtain ⟨a, vs, rfl, q, _⟩ := h
    exact .base (.lst q)
  | dic ks ds =>
    obtain rfl := Option.some.inj e
    obtain ⟨a, vs, rfl, q, _⟩ := h
    exact .base (.dK (s _ _ q))
  | tup ds =>
    obtain rfl := Option.some.inj e
    obtain ⟨a, vs, rfl, q, _⟩ := h
    rcases q with (q | ⟨o, q⟩) | ⟨o, its, n, q, c, _⟩
    · exact .base (.tup (s _ _ q))
    · exact .fTuple (s _ _ q)
    · exact .kTuple q c
theorem lc_isi (hK : X.K = K := by rfl) : LiC X (rIsi K) oIsi := by
  subst hK
  intro c hX σ F H ρ xs dxs Q Q3 R rx hq h
  subst hX
  obtain ⟨d, n, t, b, rfl, e1, e2, h⟩ := h
  obtain ⟨v, u, rfl, rv, v2, u2, rfl, rv2, eu⟩ := rx
  obtain rfl : u2 = [] := eu
  obtain rfl : v2 = .ty n := rv2
  exact ⟨v, .ty n, .type t, .type n, b, rfl, .ty n, tyD_ok R.sub rv e1, kit_ty e2, hq (.bl b) _ F H R (Same.refl F) rfl h⟩
theorem call_isiX {Y : Cx} (K : PySem.W.Frag) (hK : Y.K = K := by rfl) : CallR Y (.builtin "isinstance") (rIsi K) := by subst hK; exact call_isi
theorem w_isi {d : D} {n t : String} {b : Bool} {F : D → Prop} (e1 : tyD d = some t) (e2 : kitB t n = some b) (h : F (.bl b)) : oIsi [d, .ty n] F := ⟨d, n, t, b, rfl, e1, e2, h⟩
theorem w_isLL {ds : List D} {F : D → Prop} (h : F (.bl true)) : oIsi [.lst ds, .ty "list"] F := w_isi rfl (by decide +kernel) h
theorem w_isSS {z : Str} {F : D → Prop} (h : F (.bl true)) : oIsi [.str z, .ty "str"] F := w_isi rfl (by decide +kernel) h
end
/-! ### heights -/
def hgt (line some : List Str) : Int := line.foldl (fun a z => 2 * a + (if z ∈ some then 1 else 0)) 0
def pHeight : PSp := fun ds Q => ∃ line some : List Str, ds = [.lst (strsD line), .lst (strsD some)] ∧ line.length ≤ 40 ∧ (∀ z ∈ some, z ∈ line) ∧ some.Nodup ∧ Q (.val (.int (hgt line some))) none
/-- line is a line of the order -/
structure LineP (ls : List Str) (ps : List Pr) (line : List Str) : Prop where
  pm : line.Perm ls
  free : ∀ i z, line[i]? = some z → freeB ps z (line.take i) = true
theorem GL.line {ls : List Str} {ps : List Pr} {xs line : List Str} (g : GL ls ps xs line) (ok : OrdOk ls ps) (hl : line.length = ls.length) : LineP ls ps line := by
  refine ⟨?_, g.free⟩
  refine (List.perm_ext_iff_of_nodup g.nd ok.nd).mpr fun z => ⟨g.mem z, fun hz => ?_⟩
  by_cases c : z ∈ line
  · exact c
  · have h1 := nodup_le (l := z :: line) (m := ls) (List.nodup_cons.mpr ⟨c, g.nd⟩) (fun u hu => by
      rcases List.mem_cons.mp hu with rfl | hu
      · exact hz
      · exact g.mem u hu)
    rw [List.length_cons] at h1
    omega
def pIsLine (C : Addr) : PSp := fun ds Q => ∃ (ls : List Str) (ps : List Pr) (line : List Str), ds = [ordD C ls ps, .lst (strsD line)] ∧ OrdOk ls ps ∧ LineP ls ps line ∧ Q (.val (.bl true)) none
end L3
/-! Calls by names and defaults; None; a list cleared, turned about; pairs among pairs; the script. -/
namespace L3
open PySem PySem.Spec PyProof.Rows L2 TB LamX
open C8 (Cal Met Mak)
/-- f(a, k = b) by its name -/
structure CalK (P : Program) (w : World) (K : PySem.W.Frag) (mg : Str → Option Value) (base : Heap) (k : Nat) (x : Str) (sp : Sp) (ks : List Str) (gV : List V → List V → List V) : Prop where
  kex : ∃ (f : Addr) (fd : FuncData) (ps : List Str) (g : List Value → List Value → List Value), FnOk P w K mg base C8.CX0 k f fd ps sp ∧ mg x = some (.ref f) ∧ PySem.W.keepIn K (.ref f) = true ∧ KBinds K fd ps ks g gV
theorem pe_cK {Y : Cx} {k j : Nat} {x : Str} {sp : Sp} {ks : List Str} {gV : List V → List V → List V} {e : Expr} {es : List Expr} {kws : List Keyword} {t tk : TA} {p pos : Pos} (c : CalK Y.prog Y.w Y.K Y.mg Y.base k x sp ks gV) (hr : Room j Y.A) (hk : k ≤ j) (hg : Gl Y x) (ha : PA Y (e :: es) t) (hkw : PK Y kws tk)
    (hall : (backToKw pos (keywordEach kws Y.env)).all (·.1.isSome) = true := by rfl) (hks : (backToKw pos (keywordEach kws Y.env)).filterMap (·.1) = ks := by rfl) (hdb : (x == ("__debug__" : Str)) = false := by decide)
    (he : starEach (e :: es) Y.env = (false, eval e Y.env) :: starEach es Y.env := by rfl) (hpl : ((backTo pos (starEach (e :: es) Y.env)).any (·.1) || (backToKw pos (keywordEach kws Y.env)).any (·.1.isNone)) = false := by rfl) : PE Y (.Call (.Name x p) (e :: es) kws pos) (tCallK sp gV C8.E0 t tk) := by
  obtain ⟨f, fd, ps, g, F, hm, kp, hb⟩ := c.kex
  exact pe_callK F (hr.mono hk) hg hm kp hb pass0 ha hkw hall hks hdb he hpl
section
variable {X : Sx} {K : PySem.W.Frag}
theorem RVL.app {c : Ct} {F : Hp} {σ : L2.St} : ∀ {rs ss : List Rv} {vs ws : List V}, RVL c F σ rs vs → RVL c F σ ss ws → RVL c F σ (rs ++ ss) (vs ++ ws)
  | [], ss, vs, ws, h, k => by
    obtain rfl : vs = [] := h
    exact k
  | r :: rs, ss, vs, ws, h, k => by
    obtain ⟨v, t, rfl, q, z⟩ := h
    exact ⟨v, t ++ ws, rfl, q, RVL.app z k⟩
/-- the end of a call -/
theorem call_end {c : Ct} {σ : L2.St} {F1 H1 F : Hp} {ρ1 : PSt} {P : PSp} {rs : List Rv} {vs : List V} {ds : List D} {Q : VK} {E : XK} {Q3 : Rv → PSt → Prop} (R1 : Rel c F1 H1 σ ρ1) (s1 : Same F F1) (rv : RVL c F1 σ rs vs) (e : rdL ρ1 rs = some ds)
    (hq : ∀ r ρ' v F' H', Rel c F' H' σ ρ' → Same F F' → RV c F' σ r v → Q3 r ρ' → Q v H') (q1 : P ds fun r _ => resOk (rs.any isCell) r fun d => Q3 (.val d) ρ1) : lsp c.X none P vs H1 Q E := by
  by_cases nc : rs.any isCell = false
  · refine ⟨F1, ds, _, enterV R1 rv e nc, q1, ?_⟩
    intro r out v F' H' ex q
    have R2 := Step.own ex.step R1
    match r, ex.res, q with
    | .val d, rx, ⟨_, q⟩ => exact hq (.val d) ρ1 v F' H' R2 (tr s1 ex.step.fr) rx q
    | .new es, ⟨p, ws, ev, hF, hn, hp, hr⟩, ⟨_, q⟩ =>
      subst ev
      obtain ⟨vs2, R3, s3, r3⟩ := (new_of R1 R2 hn hp hF hr).keep R2
      exact hq (.val (.lst es)) ρ1 _ _ H' R3 (tr (tr s1 ex.step.fr) s3) r3 q
  · refine ⟨_, ds, _, enter R1 rv e, q1, ?_⟩
    intro r out v F' H' ex q
    have R2 := Step.back ex.step R1
    match r, ex.res, q with
    | .val d, rx, ⟨fl, q⟩ => exact hq (.val d) ρ1 v F1 H' R2 s1 (Rp.flat (fl.resolve_left nc) rx) q
    | .new es, ⟨p, ws, ev, hF, hn, hp, hr⟩, ⟨fl, q⟩ =>
      subst ev
      obtain ⟨vs2, R3, s3, r3⟩ := (new_of R1 R2 hn hp (R1.fnone hn) (RpL.flat (fl.resolve_left nc) hr)).keep R2
      exact hq (.val (.lst es)) ρ1 _ _ H' R3 (tr s1 s3) r3 q
/-- a call with one default, known everywhere -/
def qCallD (d0 : D) (P : PSp) (pa : QA) : QE := fun ρ Q => pa ρ fun rs ρ1 => some1 (fun ds => P ds fun r _ => resOk ((rs ++ [Rv.val d0]).any isCell) r fun d => Q (.val d) ρ1) (rdL ρ1 (rs ++ [Rv.val d0]))
theorem li_callD {P : PSp} {ta : TA} {pa : QA} {E : XK} {v0 : V} {d0 : D} (hd : ∀ F, Rp X.K F d0 v0) (h1 : LiA X ta pa) : LiE X (tCall (lsp X none P) [v0] E ta) (qCallD d0 P pa) := by
  intro c hX σ F H ρ Q Q3 R hq h
  subst hX
  refine h1 c rfl σ F H ρ _ _ R ?_ h
  intro rs ρ1 vs F1 H1 R1 s1 rv q1
  cases e : rdL ρ1 (rs ++ [Rv.val d0]) with
  | none => rw [e] at q1; exact q1.elim
  | some ds =>
    rw [e] at q1
    exact call_end R1 s1 (RVL.app (ss := [Rv.val d0]) (ws := [v0]) rv ⟨v0, [], rfl, hd F1, rfl⟩) e hq q1
/-- a call by names, which stand as they come -/
def qCallK (P : PSp) (pa pk : QA) : QE := fun ρ Q => pa ρ fun rs ρ0 => pk ρ0 fun ss ρ1 => some1 (fun ds => P ds fun r _ => resOk ((rs ++ ss).any isCell) r fun d => Q (.val d) ρ1) (rdL ρ1 (rs ++ ss))
theorem li_callK {P : PSp} {ta tk : TA} {pa pk : QA} {E : XK} {gV : List V → List V → List V} (h1 : LiA X ta pa) (h2 : LiA X tk pk) (hg : ∀ vs zs, gV vs zs = vs ++ zs) : LiE X (tCallK (lsp X none P) gV E ta tk) (qCallK P pa pk) := by
  intro c hX σ F H ρ Q Q3 R hq h
  subst hX
  refine h1 c rfl σ F H ρ _ _ R ?_ h
  intro rs ρ0 vs F0 H0 R0 s0 rv0 q0
  refine h2 c rfl σ F0 H0 ρ0 _ _ R0 ?_ q0
  intro ss ρ1 zs F1 H1 R1 s1 rv1 q1
  rw [hg]
  cases e : rdL ρ1 (rs ++ ss) with
  | none => rw [e] at q1; exact q1.elim
  | some ds =>
    rw [e] at q1
    exact call_end R1 (tr s0 s1) ((rv0.mono s1).app rv1) e hq q1
/-! ### None, truths -/
def isNon : D → Bool
  | .non => true
  | _ => false
def knownN : D → Bool
  | .op _ => false
  | _ => true
def oIsN (neg : Bool) : O2 := fun dx dy Q => dy = .non ∧ knownN dx = true ∧ Q (.bl (if neg then !isNon dx else isNon dx))
theorem isNon_ok {K : PySem.W.Frag} {F H : Hp} {d : D} {v : V} (k : knownN d = true) (h : Rn K F H d v) : decide (v = .non) = isNon d := by
  cases d with
  | non => obtain rfl : v = .non := h; rfl
  | bl b => obtain rfl : v = .bl b := h; rfl
  | int b => obtain rfl : v = .int b := h; rfl
  | str b => obtain rfl : v = .str b := h; rfl
  | ty b => obtain rfl : v = .ty b := h; rfl
  | lst ds => obtain ⟨a, vs, rfl, _⟩ := h; rfl
  | tup ds => obtain ⟨a, vs, rfl, _⟩ := h; rfl
  | ins C ns ds => obtain ⟨a, dx, vs, rfl, _⟩ := h; rfl
  | dic ks ds => obtain ⟨a, vs, rfl, _⟩ := h; rfl
  | op p => exact nomatch k
theorem lr_isN : LiR X (fun x y H Q => y = .non ∧ Q (.bl (decide (x = .non))) H) (oIsN false) := by
  intro c hX σ F H ρ x y dx dy Q Q3 R rx ry hq h
  obtain ⟨rfl, k, h⟩ := h
  refine ⟨ry, ?_⟩
  rw [isNon_ok k rx]
  exact hq (.bl _) _ F H R (Same.refl F) rfl h
theorem lr_notN : LiR X (fun x y H Q => y = .non ∧ Q (.bl (!decide (x = .non))) H) (oIsN true) := by
  intro c hX σ F H ρ x y dx dy Q Q3 R rx ry hq h
  obtain ⟨rfl, k, h⟩ := h
  refine ⟨ry, ?_⟩
  rw [isNon_ok k rx]
  exact hq (.bl _) _ F H R (Same.refl F) rfl h
theorem w_isN {d : D} {F : D → Prop} (k : knownN d = true) (h : F (.bl (isNon d))) : oIsN false d .non F := ⟨rfl, k, h⟩
theorem w_notN {d : D} {F : D → Prop} (k : knownN d = true) (h : F (.bl (!isNon d))) : oIsN true d .non F := ⟨rfl, k, h⟩
/-! ### a list turned about, cleared -/
def qRev (i : Nat) : QE := fun ρ Q => ownP (fun f ds => Q (.val .non) (ρ.set i (.own f ds.reverse))) ρ[i]?
def qClear (i : Nat) : QE := fun ρ Q => ownP (fun f _ => Q (.val .non) (ρ.set i (.own f []))) ρ[i]?
theorem RpL.rev {K : PySem.W.Frag} {F : Hp} : ∀ {ds : List D} {vs : List V}, RpL K F ds vs → RpL K F ds.reverse vs.reverse
  | [], vs, h => by
    obtain rfl : vs = [] := h
    rfl
  | d :: ds, vs, h => by
    obtain ⟨v, t, rfl, q, z⟩ := h
    rw [List.reverse_cons, List.reverse_cons]
    exact (RpL.rev z).app ⟨v, [], rfl, q, rfl⟩
theorem li_rev {i : Nat} (hK : X.K = K := by rfl) : LiE X (tBM0 K "list" rReverse (tVar i)) (qRev i) := by
  subst hK
  intro c hX σ F H ρ Q Q3 R hq h
  obtain ⟨f, ds, hi, q⟩ := ownP_is h
  obtain ⟨p, vs, ep, hF, hp, hr, _⟩ := R.slot i _ hi
  exact ⟨.ref p, ep, Or.inl ⟨rfl, _, sqL_of hp⟩, p, vs, rfl, rfl, hp, hq (.val .non) _ .non F _ (R.mutOwn hi ep hr.rev) (Same.refl F) rfl q⟩
theorem li_clear {i : Nat} (hK : X.K = K := by rfl) : LiE X (tBM0 K "list" rClear (tVar i)) (qClear i) := by
  subst hK
  intro c hX σ F H ρ Q Q3 R hq h
  obtain ⟨f, ds, hi, q⟩ := ownP_is h
  obtain ⟨p, vs, ep, hF, hp, hr, _⟩ := R.slot i _ hi
  exact ⟨.ref p, ep, Or.inl ⟨rfl, _, sqL_of hp⟩, p, vs, rfl, rfl, hp, hq (.val .non) _ .non F _ (R.mutOwn (es := []) hi ep rfl) (Same.refl F) rfl q⟩
theorem w_rev {ρ : PSt} {i : Nat} {f : Bool} {ds : List D} {Q : Rv → PSt → Prop} (e : ρ[i]? = some (.own f ds)) (h : Q (.val .non) (ρ.set i (.own f ds.reverse))) : qRev i ρ Q := by
  show ownP _ ρ[i]?
  rw [e]
  exact h
theorem w_clear {ρ : PSt} {i : Nat} {f : Bool} {ds : List D} {Q : Rv → PSt → Prop} (e : ρ[i]? = some (.own f ds)) (h : Q (.val .non) (ρ.set i (.own f []))) : qClear i ρ Q := by
  show ownP _ ρ[i]?
  rw [e]
  exact h
/-! ### data among data -/
def rInD (K : PySem.W.Frag) (neg : Bool) : R2 := fun x y H Q => ∃ a ds, Dp K H x a ∧ (Dp K H y (.list ds) ∨ Dp K H y (.tuple ds)) ∧ PyData.canLayAll0 ds = true ∧ a.canLay0 = true ∧ a.depth ≤ 60 ∧ Q (.bl (if neg then !ds.any fun z => PyData.eqv z a else ds.any fun z => PyData.eqv z a)) H
theorem op_inD {Y : Cx} (hu : Y.A.units + 65 < cLine) : OpR Y (compareOp .In) (rInD Y.K false) := by
  intro pins s σ H x y v u Q I rx ry h
  obtain ⟨a, ds, d1, d2, l1, l2, l3, k⟩ := h
  obtain ⟨as, r1⟩ := Dp.reads I _ _ v d1 rx
  have room : Y.A.units + 1 + min (PyData.depthAll ds) a.depth < cLine := by
    have h2 := Nat.min_le_right (PyData.depthAll ds) a.depth
    omega
  have k2 : EP Y pins σ Q (.bool (ds.any fun z => PyData.eqv z a)) s := ⟨.bl _, H, I, rfl, k⟩
  rcases d2 with d2 | d2
  · obtain ⟨bs, r2⟩ := Dp.reads I _ _ u d2 ry
    exact SeqAt.in_list_reads r2 r1 l1 l2 room k2
  · obtain ⟨bs, r2⟩ := Dp.reads I _ _ u d2 ry
    exact SeqAt.in_tuple_reads r2 r1 l1 l2 room k2
theorem op_notInD {Y : Cx} (hu : Y.A.units + 65 < cLine) : OpR Y (compareOp .NotIn) (rInD Y.K true) := by
  intro pins s σ H x y v u Q I rx ry h
  obtain ⟨a, ds, d1, d2, l1, l2, l3, k⟩ := h
  obtain ⟨as, r1⟩ := Dp.reads I _ _ v d1 rx
  have room : Y.A.units + 1 + min (PyData.depthAll ds) a.depth < cLine := by
    have h2 := Nat.min_le_right (PyData.depthAll ds) a.depth
    omega
  have k2 : EP Y pins σ Q (.bool (!ds.any fun z => PyData.eqv z a)) s := ⟨.bl _, H, I, rfl, k⟩
  rcases d2 with d2 | d2
  · obtain ⟨bs, r2⟩ := Dp.reads I _ _ u d2 ry
    exact SeqAt.notIn_list_reads r2 r1 l1 l2 room k2
  · obtain ⟨bs, r2⟩ := Dp.reads I _ _ u d2 ry
    exact SeqAt.notIn_tuple_reads r2 r1 l1 l2 room k2
theorem kInD (K : PySem.W.Frag) {Y : Cx} (hu : Y.A.units + 65 < cLine) (hK : Y.K = K := by rfl) : OpR Y (compareOp .In) (rInD K false) := by subst hK; exact op_inD hu
theorem kNotInD (K : PySem.W.Frag) {Y : Cx} (hu : Y.A.units + 65 < cLine) (hK : Y.K = K := by rfl) : OpR Y (compareOp .NotIn) (rInD K true) := by subst hK; exact op_notInD hu
def oInD (neg : Bool) : O2 := fun dx dy Q => ∃ a ds, pd dx = some a ∧ (pd dy = some (.list ds) ∨ pd dy = some (.tuple ds)) ∧ PyData.canLayAll0 ds = true ∧ a.canLay0 = true ∧ a.depth ≤ 60 ∧ Q (.bl (if neg then !ds.any fun z => PyData.eqv z a else ds.any fun z => PyData.eqv z a))
theorem lr_inD (neg : Bool) (hK : X.K = K := by rfl) : LiR X (rInD K neg) (oInD neg) := by
  subst hK
  intro c hX σ F H ρ x y dx dy Q Q3 R rx ry hq h
  subst hX
  obtain ⟨a, ds, e1, e2, l1, l2, l3, q⟩ := h
  exact ⟨a, ds, pd_rn R.sub rx e1, e2.elim (fun e => Or.inl (pd_rn R.sub ry e)) fun e => Or.inr (pd_rn R.sub ry e), l1, l2, l3, hq (.bl _) _ F H R (Same.refl F) rfl q⟩
theorem w_inPrs {p : Pr} {ps : List Pr} {F : D → Prop} (np : NmP p) (nps : ∀ z ∈ ps, NmP z) (h : F (.bl (decide (p ∈ ps)))) : oInD false (prD p) (.lst (ps.map prD)) F := by
  refine ⟨dPr p, ps.map dPr, pd_pr p, Or.inl (pd_prs ps), dPrs_lay nps, dPr_lay np, Nat.le_trans (dPr_depth p) (by decide), ?_⟩
  show F (.bl ((ps.map dPr).any fun z => PyData.eqv z (dPr p)))
  rw [any_pr]
  exact h
theorem w_notInPrs {p : Pr} {ps : List Pr} {F : D → Prop} (np : NmP p) (nps : ∀ z ∈ ps, NmP z) (h : F (.bl (!decide (p ∈ ps)))) : oInD true (prD p) (.lst (ps.map prD)) F := by
  refine ⟨dPr p, ps.map dPr, pd_pr p, Or.inl (pd_prs ps), dPrs_lay nps, dPr_lay np, Nat.le_trans (dPr_depth p) (by decide), ?_⟩
  show F (.bl (!(ps.map dPr).any fun z => PyData.eqv z (dPr p)))
  rw [any_pr]
  exact h
/-! ### the script -/
def scrD (K : PySem.W.Frag) (ns : List Int) : D := .op ⟨fun F v => ∃ a, v = .ref a ∧ SqL K F a (ns.map V.int), fun s h => by
  obtain ⟨a, e, h⟩ := h
  exact ⟨a, e, sqL_mono s h⟩⟩
end
end L3
/-! == and != of instances by an own __eq__. -/
namespace OwnE
open PySem PySem.W
open Builtin
section
variable {prog : Program} {w : World} {A : Around} {E : Value → Shared → Prop} {s : Shared} {K : Frag} {x C L f : Addr} {ox : Obj} {od : Option Obj} {b tb : Value}
theorem objNe_own {Q : Fin → Shared → Prop} (X : K.In s.heap) (I : InstAt s.heap x ox C od) (he : findIn K (.ref C) "__eq__" = some (some (.ref f))) (hf : isFn K (.ref f) = true) (hu : A.units < cLine)
    (h : wpAny (model prog w) A (call (.ref f) [.ref x, b]) (fun v s' => ∃ r, v = .bool r ∧ Q (.done (.ret (.bool (!r)))) s') E s) : wpAny (model prog w) A (Builtin.«object.__ne__» ⟨[.ref x, b], []⟩) Q E s := by
  unfold Builtin.«object.__ne__»
  repeat (first
    | with_reducible refine wpAny_cRoomFor hu ?_
    | (refine wpAny_bind (m := callSpecialIfBound? (.ref x) (Str.ofString "__eq__") [b])
        (ifBound_K X I he hf (wpAny_mono h (fun r s' hr => by
          obtain ⟨b, rfl, hq⟩ := hr
          repeat (first | exact hq | exact wpAny_pure hq | exact wpAny_truthy_bool hq | (refine wpAny_bind (m := truthy (.bool _)) (wpAny_truthy_bool ?_)) | wp_step)) fun _ _ e => e)))
    | wp_step)
theorem ifBound_ne {Q : Option Value → Shared → Prop} (X : K.In s.heap) (I : InstAt s.heap x ox C od) (hs : findIn K (.ref C) "__ne__" = some (some (.builtin "object.__ne__"))) (hob : subIn K (.ref C) (.type "object") = some true)
    (he : findIn K (.ref C) "__eq__" = some (some (.ref f))) (hf : isFn K (.ref f) = true) (hu : A.units + 1 < cLine)
    (h : wpAny (model prog w) A.in1 (call (.ref f) [.ref x, b]) (fun v s' => ∃ r, v = .bool r ∧ Q (some (.bool (!r))) s') E s) : wpAny (model prog w) A (callSpecialIfBound? (.ref x) "__ne__" [b]) Q E s := by
  simp only [callSpecialIfBound?, bindSpecialIfBound?]
  refine wpAny_holding (wpAny_bind (wpAny_bind (wpAny_bind (I.type.here ((looks_findIn X hs).here ?_)))))
  simp only [F.cmp_object.ne.bind]
  refine wpAny_bind (wpAny_askSetting (wpAny_ite ?_))
  have fin : wpAny (model prog w) A (call (.builtin "object.__ne__") ([.ref x] ++ [b]) >>= fun v => pure (some v)) Q E s := by
    refine wpAny_bind (wpAny_call (codeAny_call_builtin F.cmp_object.ne.plain F.cmpEntry_ne (@check_slot (model prog w) _ _ s "object.__ne__" "object" "__ne__" (.ref x) [b] [] _ F.cmpKind_ne F.cmpSplit_ne (I.type.andThen (looks_subIn X hob)) (F.cmpArgs_ne _ _) ?_)))
    refine objNe_own (A := A.in1) X I he hf hu (wpAny_mono h (fun v s' z => ?_) fun _ _ e => e)
    obtain ⟨r, rfl, q⟩ := z
    exact ⟨r, rfl, wpAny_pure q⟩
  split
  · exact wpAny_bind (wpAny_pure (wpAny_pure fin))
  · exact wpAny_tryCatch (wpAny_bind (wpAny_pure (wpAny_pure fin)))
theorem ne_own {Q : Value → Shared → Prop} (hu : A.units + 1 < cLine) (X : K.In s.heap) (I : InstAt s.heap x ox C od) (hb : Looks (model prog w) s.heap (typeOf b) tb) (hn : notFirst K C tb = true) (hs : findIn K (.ref C) "__ne__" = some (some (.builtin "object.__ne__"))) (hob : subIn K (.ref C) (.type "object") = some true)
    (he : findIn K (.ref C) "__eq__" = some (some (.ref f))) (hf : isFn K (.ref f) = true)
    (h : wpAny (model prog w) A.in1 (call (.ref f) [.ref x, b]) (fun v s' => ∃ r, v = .bool r ∧ Q (.bool (!r)) s') E s) : wpAny (model prog w) A (richCompare .NotEq (.ref x) b) Q E s := by
  have one : wpAny (model prog w) A (tryCompare (.ref x) (cmpInfo .NotEq).2.1 b) (fun r s' => ∃ v, r = some v ∧ Q v s') E s := by
    unfold tryCompare
    refine wpAny_bind (ifBound_ne X I hs hob he hf hu (wpAny_mono h (fun v s' hv => ?_) fun _ _ e => e))
    obtain ⟨r, rfl, q⟩ := hv
    exact ⟨r, rfl, wpAny_pure ⟨_, rfl, q⟩⟩
  unfold richCompare
  simp only [oneThing_ref]
  refine wpAny_holding (wpAny_bind (wpAny_cRoomFor (Nat.lt_of_succ_lt hu) ?_))
  refine wpAny_bind (I.type.here (wpAny_bind (hb.here ?_)))
  split
  · rename_i q
    have e : subIn K tb (.ref C) = some false := by
      rcases Bool.or_eq_true_iff.mp hn with e | e
      · rw [beq_iff_eq.mp e] at q; simp at q
      · exact beq_iff_eq.mp e
    refine wpAny_bind ((looks_subIn X e).here ?_)
    simp only [Bool.false_eq_true, if_false]
    refine wpAny_bind (wpAny_mono one (fun r s' z => ?_) fun _ _ e => e)
    obtain ⟨v, rfl, hq⟩ := z
    exact wpAny_pure hq
  · refine wpAny_bind (wpAny_pure ?_)
    simp only [Bool.false_eq_true, if_false]
    refine wpAny_bind (wpAny_mono one (fun r s' z => ?_) fun _ _ e => e)
    obtain ⟨v, rfl, hq⟩ := z
    exact wpAny_pure hq
/-- a thing of a built-in type ahead of the instance: it declines, the instance answers -/
theorem rc_back {op : CmpOp} {a : Value} {T id : String} {Q : Value → Shared → Prop} (hu : A.units < cLine) (X : K.In s.heap) (I : InstAt s.heap x ox C od) (ha : s.TypeIs a T) (hsub : subIn K (.ref C) (.type T) = some false) (h1 : Slot T (cmpInfo op).2.1 id)
    (hc1 : ∀ Q' : Value → Shared → Prop, Q' .notImplemented s → wpAny (model prog w) A (call (.builtin id) [a, .ref x]) Q' E s)
    (h : wpAny (model prog w) A (tryCompare (.ref x) (cmpInfo op).2.2 a) (fun r s' => ∃ v, r = some v ∧ Q v s') E s) : wpAny (model prog w) A (richCompare op a (.ref x)) Q E s := by
  rcases hi : cmpInfo op with ⟨sym, f, r⟩
  rw [hi] at h1 h
  simp only [richCompare, hi, ha.oneThing_none]
  try with_reducible refine wpAny_holding ?_
  refine wpAny_bind (wpAny_cRoomFor_or (.inr hu) ?_)
  refine wpAny_bind (wpAny_typeOf ha (wpAny_bind (I.type.here ?_)))
  have hne : (Value.type T != Value.ref C) = true := by simp
  simp only [hne, if_true]
  refine wpAny_bind ((looks_subIn X hsub).here ?_)
  simp only [Bool.false_eq_true, if_false, Bool.not_false, if_true]
  refine wpAny_bind (m := tryCompare a _ (.ref x)) (wpAny_tryCompare_declines ha h1 (hc1 _ ⟨rfl, ?_⟩))
  refine wpAny_bind (m := tryCompare (.ref x) _ a) (wpAny_mono h (fun r s' z => ?_) fun _ _ e => e)
  obtain ⟨v, rfl, q⟩ := z
  exact wpAny_pure q
theorem eq_back {a : Value} {T id : String} {Q : Value → Shared → Prop} (hu : A.units < cLine) (X : K.In s.heap) (I : InstAt s.heap x ox C od) (ha : s.TypeIs a T) (hsub : subIn K (.ref C) (.type T) = some false) (h1 : Slot T (cmpInfo .Eq).2.1 id)
    (hc1 : ∀ Q' : Value → Shared → Prop, Q' .notImplemented s → wpAny (model prog w) A (call (.builtin id) [a, .ref x]) Q' E s) (he : findIn K (.ref C) "__eq__" = some (some (.ref f))) (hf : isFn K (.ref f) = true)
    (h : wpAny (model prog w) A (call (.ref f) [.ref x, a]) (fun v s' => ∃ r, v = .bool r ∧ Q (.bool r) s') E s) : wpAny (model prog w) A (richCompare .Eq a (.ref x)) Q E s := by
  refine rc_back hu X I ha hsub h1 hc1 ?_
  unfold tryCompare
  refine wpAny_bind (ifBound_K X I he hf (wpAny_mono h (fun v s' hv => ?_) fun _ _ e => e))
  obtain ⟨r, rfl, q⟩ := hv
  exact wpAny_pure ⟨_, rfl, q⟩
theorem ne_back {a : Value} {T id : String} {Q : Value → Shared → Prop} (hu : A.units + 1 < cLine) (X : K.In s.heap) (I : InstAt s.heap x ox C od) (ha : s.TypeIs a T) (hsub : subIn K (.ref C) (.type T) = some false) (h1 : Slot T (cmpInfo .NotEq).2.1 id)
    (hc1 : ∀ Q' : Value → Shared → Prop, Q' .notImplemented s → wpAny (model prog w) A (call (.builtin id) [a, .ref x]) Q' E s) (hs : findIn K (.ref C) "__ne__" = some (some (.builtin "object.__ne__"))) (hob : subIn K (.ref C) (.type "object") = some true) (he : findIn K (.ref C) "__eq__" = some (some (.ref f))) (hf : isFn K (.ref f) = true)
    (h : wpAny (model prog w) A.in1 (call (.ref f) [.ref x, a]) (fun v s' => ∃ r, v = .bool r ∧ Q (.bool (!r)) s') E s) : wpAny (model prog w) A (richCompare .NotEq a (.ref x)) Q E s := by
  refine rc_back (Nat.lt_of_succ_lt hu) X I ha hsub h1 hc1 ?_
  unfold tryCompare
  refine wpAny_bind (ifBound_ne X I hs hob he hf hu (wpAny_mono h (fun v s' hv => ?_) fun _ _ e => e))
  obtain ⟨r, rfl, q⟩ := hv
  exact ⟨r, rfl, wpAny_pure ⟨_, rfl, q⟩⟩
end
open AutoSeq1 (wpAny_loadPart')
theorem tuple_eq_ins (l x : Addr) (items : Array Value) (n : Nat) (dd : Option Addr) (sl : Array (Option Value)) :
    Meets (Builtin.«tuple.__eq__» ⟨[.ref l, .ref x], []⟩) (fun A R s => s.heap.get? l = some { cls := .type "tuple", dict := dd, data := .seq items n, slots := sl } ∧ (∀ M : Model, Looks M s.heap (isInstance (.ref x) (.type "tuple")) false) ∧ R (.ok (.ret .notImplemented)) s) :=
  .of_wp fun prog w A R s h => by obtain ⟨hp, g, d, tk, os⟩ := s; obtain ⟨hl, hx, h⟩ := h; wp_walk using wpAny_loadPart' hl, Looks.here (hx _); exact ⟨_, rfl, h⟩
theorem tuple_ne_ins (l x : Addr) (items : Array Value) (n : Nat) (dd : Option Addr) (sl : Array (Option Value)) :
    Meets (Builtin.«tuple.__ne__» ⟨[.ref l, .ref x], []⟩) (fun A R s => s.heap.get? l = some { cls := .type "tuple", dict := dd, data := .seq items n, slots := sl } ∧ (∀ M : Model, Looks M s.heap (isInstance (.ref x) (.type "tuple")) false) ∧ R (.ok (.ret .notImplemented)) s) :=
  .of_wp fun prog w A R s h => by obtain ⟨hp, g, d, tk, os⟩ := s; obtain ⟨hl, hx, h⟩ := h; wp_walk using wpAny_loadPart' hl, Looks.here (hx _); exact ⟨_, rfl, h⟩
theorem list_eq_ins (l x : Addr) (items : Array Value) (n : Nat) (dd : Option Addr) (sl : Array (Option Value)) :
    Meets (Builtin.«list.__eq__» ⟨[.ref l, .ref x], []⟩) (fun A R s => s.heap.get? l = some { cls := .type "list", dict := dd, data := .seq items n, slots := sl } ∧ (∀ M : Model, Looks M s.heap (isInstance (.ref x) (.type "list")) false) ∧ R (.ok (.ret .notImplemented)) s) :=
  .of_wp fun prog w A R s h => by obtain ⟨hp, g, d, tk, os⟩ := s; obtain ⟨hl, hx, h⟩ := h; wp_walk using wpAny_loadPart' hl, Looks.here (hx _); exact ⟨_, rfl, h⟩
theorem list_ne_ins (l x : Addr) (items : Array Value) (n : Nat) (dd : Option Addr) (sl : Array (Option Value)) :
    Meets (Builtin.«list.__ne__» ⟨[.ref l, .ref x], []⟩) (fun A R s => s.heap.get? l = some { cls := .type "list", dict := dd, data := .seq items n, slots := sl } ∧ (∀ M : Model, Looks M s.heap (isInstance (.ref x) (.type "list")) false) ∧ R (.ok (.ret .notImplemented)) s) :=
  .of_wp fun prog w A R s h => by obtain ⟨hp, g, d, tk, os⟩ := s; obtain ⟨hl, hx, h⟩ := h; wp_walk using wpAny_loadPart' hl, Looks.here (hx _); exact ⟨_, rfl, h⟩
theorem int_eq_ins (b : Int) (u : Tok) (x C dx : Addr) :
    Meets (Builtin.«int.__eq__» ⟨[.int b u, .ref x], []⟩) (fun _ R s => s.heap.get? x = some (instObj C dx) ∧ R (.ok (.ret .notImplemented)) s) :=
  .of_wp fun prog w A R s h => by obtain ⟨hp, g, d, tk, os⟩ := s; obtain ⟨hl, h⟩ := h; unfold instObj at hl; wp_walk using wpAny_loadPart' hl, wpAny_load hl; exact ⟨_, rfl, h⟩
theorem str_eq_ins (b : Str) (u : Tok) (x C dx : Addr) :
    Meets (Builtin.«str.__eq__» ⟨[.str b u, .ref x], []⟩) (fun _ R s => s.heap.get? x = some (instObj C dx) ∧ R (.ok (.ret .notImplemented)) s) :=
  .of_wp fun prog w A R s h => by obtain ⟨hp, g, d, tk, os⟩ := s; obtain ⟨hl, h⟩ := h; unfold instObj at hl; wp_walk using wpAny_loadPart' hl, wpAny_load hl; exact ⟨_, rfl, h⟩
theorem int_ne_ins (b : Int) (u : Tok) (x C dx : Addr) :
    Meets (Builtin.«int.__ne__» ⟨[.int b u, .ref x], []⟩) (fun _ R s => s.heap.get? x = some (instObj C dx) ∧ R (.ok (.ret .notImplemented)) s) :=
  .of_wp fun prog w A R s h => by obtain ⟨hp, g, d, tk, os⟩ := s; obtain ⟨hl, h⟩ := h; unfold instObj at hl; wp_walk using wpAny_loadPart' hl, wpAny_load hl; exact ⟨_, rfl, h⟩
theorem str_ne_ins (b : Str) (u : Tok) (x C dx : Addr) :
    Meets (Builtin.«str.__ne__» ⟨[.str b u, .ref x], []⟩) (fun _ R s => s.heap.get? x = some (instObj C dx) ∧ R (.ok (.ret .notImplemented)) s) :=
  .of_wp fun prog w A R s h => by obtain ⟨hp, g, d, tk, os⟩ := s; obtain ⟨hl, h⟩ := h; unfold instObj at hl; wp_walk using wpAny_loadPart' hl, wpAny_load hl; exact ⟨_, rfl, h⟩
end OwnE
/-! == and != of instances by an own __eq__, over the layer. -/
namespace OwnE
open PySem PySem.Spec PyProof.Rows L2
/-- plain things that are no instances -/
def OthV (K : PySem.W.Frag) (H : Hp) : V → Prop
  | .non => True
  | .int _ => True
  | .str _ => True
  | .ref a => (∃ xs, H a = some (.lst xs)) ∨ ∃ xs, SqT K H a xs
  | _ => False
def tys : List String := ["NoneType", "int", "str", "list", "tuple"]
/-- the class at C has an own == and no own != -/
structure EqCls (K : PySem.W.Frag) (C f : Addr) : Prop where
  eq : PySem.W.findIn K (.ref C) "__eq__" = some (some (.ref f))
  fn : PySem.W.isFn K (.ref f) = true
  ne : PySem.W.findIn K (.ref C) "__ne__" = some (some (.builtin "object.__ne__"))
  ob : PySem.W.subIn K (.ref C) (.type "object") = some true
  no : ∀ T ∈ tys, PySem.W.subIn K (.ref C) (.type T) = some false
  nf : ∀ T ∈ tys, PySem.W.notFirst K C (.type T) = true
section
variable {X : Cx} {pins : List (Addr × Obj)} {σ : L2.St} {H : Hp} {s : Shared} {A : Around} {E : Value → Shared → Prop} {C f a dx : Addr} {od : Option Obj} {x : V} {u : Value}
theorem oth_type (I : Inv X pins σ H s) (o : OthV X.K H x) (rx : RelV x u) : ∃ T ∈ tys, s.TypeIs u T := by
  cases x with
  | non => cases (show u = Value.none from rx); exact ⟨"NoneType", by decide, rfl⟩
  | int i => obtain ⟨t, q⟩ := (show ∃ t, u = Value.int i t from rx); cases q; exact ⟨"int", by decide, rfl⟩
  | str i => obtain ⟨t, q⟩ := (show ∃ t, u = Value.str i t from rx); cases q; exact ⟨"str", by decide, rfl⟩
  | ref b =>
    cases (show u = Value.ref b from rx)
    rcases o with ⟨xs, h⟩ | ⟨xs, h⟩
    · obtain ⟨_, its, k, _, e⟩ := (show ObjOk X.prog X.w H s.heap b (.lst xs) from I.hok b _ h)
      exact ⟨"list", by decide, _, e, rfl⟩
    · obtain ⟨its, r, ⟨o, h1, h2, _⟩, z⟩ := I.tuple h
      exact ⟨"tuple", by decide, o, h1, h2⟩
  | _ => exact o.elim
theorem looks_of {M : Model} {T : String} (h : s.TypeIs u T) : PySem.W.Looks M s.heap (typeOf u) (.type T) := by
  cases u with
  | ref b =>
    obtain ⟨o, h1, h2⟩ := h
    exact h2 ▸ (PySem.W.Looks.ld h1).andThen .now
  | _ => exact PySem.W.Looks.of_pure h
theorem oth_eq (c : EqCls X.K C f) (hu : A.units < cLine) (I : Inv X pins σ H s) (o : OthV X.K H x) (rx : RelV x u) (J : PySem.W.InstAt s.heap a (PySem.W.instObj C dx) C od) {Q : Value → Shared → Prop}
    (h : wpAny (model X.prog X.w) A (call (.ref f) [.ref a, u]) (fun v s' => ∃ r, v = .bool r ∧ Q (.bool r) s') E s) : wpAny (model X.prog X.w) A (richCompare .Eq u (.ref a)) Q E s := by
  have k := I.kIn
  cases x with
  | non =>
    cases (show u = Value.none from rx)
    exact eq_back (T := "NoneType") hu k J rfl (c.no _ (by decide)) F.slot_NoneType_eq (fun _ hq => call_gives F.slot_NoneType_eq rfl F.entry_NoneType_eq (F.args_NoneType_eq_2 _ _) (SeqAt.NoneType___eq___none_ref_0 a) hq) c.eq c.fn h
  | int i =>
    obtain ⟨t, q⟩ := (show ∃ t, u = Value.int i t from rx); cases q
    exact eq_back (T := "int") hu k J rfl (c.no _ (by decide)) F.slot_int_eq (fun _ hq => call_meets F.slot_int_eq (typeIs_int s i t) F.entry_int_eq (F.args_int_eq_2 _ _) (int_eq_ins i t a C dx) ⟨J.at_, hq⟩) c.eq c.fn h
  | str i =>
    obtain ⟨t, q⟩ := (show ∃ t, u = Value.str i t from rx); cases q
    exact eq_back (T := "str") hu k J rfl (c.no _ (by decide)) F.slot_str_eq (fun _ hq => call_meets F.slot_str_eq (typeIs_str s i t) F.entry_str_eq (F.args_str_eq_2 _ _) (str_eq_ins i t a C dx) ⟨J.at_, hq⟩) c.eq c.fn h
  | ref b =>
    cases (show u = Value.ref b from rx)
    rcases o with ⟨xs, o⟩ | ⟨xs, o⟩
    · obtain ⟨_, its, n, _, e⟩ := (show ObjOk X.prog X.w H s.heap b (.lst xs) from I.hok b _ o)
      exact eq_back (T := "list") hu k J ⟨_, e, rfl⟩ (c.no _ (by decide)) F.slot_list_eq (fun _ hq => call_meets F.slot_list_eq ⟨_, e, rfl⟩ F.entry_list_eq (F.args_list_eq_2 _ _) (list_eq_ins b a _ n _ _) ⟨e, fun M => J.type.andThen (PySem.W.looks_subIn k (c.no _ (by decide))), hq⟩) c.eq c.fn h
    · obtain ⟨its, r, ⟨⟨oc, odi, oda, osl⟩, h1, h2, n, h3⟩, z⟩ := I.tuple o
      simp only at h2 h3
      subst h2 h3
      exact eq_back (T := "tuple") hu k J ⟨_, h1, rfl⟩ (c.no _ (by decide)) F.slot_tuple_eq (fun _ hq => call_meets F.slot_tuple_eq ⟨_, h1, rfl⟩ F.entry_tuple_eq (F.args_tuple_eq_2 _ _) (tuple_eq_ins b a _ n _ _) ⟨h1, fun M => J.type.andThen (PySem.W.looks_subIn k (c.no _ (by decide))), hq⟩) c.eq c.fn h
  | _ => exact o.elim
theorem oth_ne (c : EqCls X.K C f) (hu : A.units + 1 < cLine) (I : Inv X pins σ H s) (o : OthV X.K H x) (rx : RelV x u) (J : PySem.W.InstAt s.heap a (PySem.W.instObj C dx) C od) {Q : Value → Shared → Prop}
    (h : wpAny (model X.prog X.w) A.in1 (call (.ref f) [.ref a, u]) (fun v s' => ∃ r, v = .bool r ∧ Q (.bool (!r)) s') E s) : wpAny (model X.prog X.w) A (richCompare .NotEq u (.ref a)) Q E s := by
  have k := I.kIn
  cases x with
  | non =>
    cases (show u = Value.none from rx)
    exact ne_back (T := "NoneType") hu k J rfl (c.no _ (by decide)) F.slot_NoneType_ne (fun _ hq => call_gives F.slot_NoneType_ne rfl F.entry_NoneType_ne (F.args_NoneType_ne_2 _ _) (SeqAt.NoneType___ne___none_ref_0 a) hq) c.ne c.ob c.eq c.fn h
  | int i =>
    obtain ⟨t, q⟩ := (show ∃ t, u = Value.int i t from rx); cases q
    exact ne_back (T := "int") hu k J rfl (c.no _ (by decide)) F.slot_int_ne (fun _ hq => call_meets F.slot_int_ne (typeIs_int s i t) F.entry_int_ne (F.args_int_ne_2 _ _) (int_ne_ins i t a C dx) ⟨J.at_, hq⟩) c.ne c.ob c.eq c.fn h
  | str i =>
    obtain ⟨t, q⟩ := (show ∃ t, u = Value.str i t from rx); cases q
    exact ne_back (T := "str") hu k J rfl (c.no _ (by decide)) F.slot_str_ne (fun _ hq => call_meets F.slot_str_ne (typeIs_str s i t) F.entry_str_ne (F.args_str_ne_2 _ _) (str_ne_ins i t a C dx) ⟨J.at_, hq⟩) c.ne c.ob c.eq c.fn h
  | ref b =>
    cases (show u = Value.ref b from rx)
    rcases o with ⟨xs, o⟩ | ⟨xs, o⟩
    · obtain ⟨_, its, n, _, e⟩ := (show ObjOk X.prog X.w H s.heap b (.lst xs) from I.hok b _ o)
      exact ne_back (T := "list") hu k J ⟨_, e, rfl⟩ (c.no _ (by decide)) F.slot_list_ne (fun _ hq => call_meets F.slot_list_ne ⟨_, e, rfl⟩ F.entry_list_ne (F.args_list_ne_2 _ _) (list_ne_ins b a _ n _ _) ⟨e, fun M => J.type.andThen (PySem.W.looks_subIn k (c.no _ (by decide))), hq⟩) c.ne c.ob c.eq c.fn h
    · obtain ⟨its, r, ⟨⟨oc, odi, oda, osl⟩, h1, h2, n, h3⟩, z⟩ := I.tuple o
      simp only at h2 h3
      subst h2 h3
      exact ne_back (T := "tuple") hu k J ⟨_, h1, rfl⟩ (c.no _ (by decide)) F.slot_tuple_ne (fun _ hq => call_meets F.slot_tuple_ne ⟨_, h1, rfl⟩ F.entry_tuple_ne (F.args_tuple_ne_2 _ _) (tuple_ne_ins b a _ n _ _) ⟨h1, fun M => J.type.andThen (PySem.W.looks_subIn k (c.no _ (by decide))), hq⟩) c.ne c.ob c.eq c.fn h
  | _ => exact o.elim
/-- the own == called -/
theorem call_own {CX : CXT} {n : Nat} {fd : FuncData} {ps : List Str} {sp : Sp} {Ex : XK} {y : V} {v : Value} {Q : VK} (F : FnOk X.prog X.w X.K X.mg X.base CX n f fd ps sp) (hb : Binds X.K fd ps []) (hx : Passes CX X Ex) (sb : Sub X n A) (I : Inv X pins σ H s) (rx : RelV x u) (ry : RelV y v)
    (h : sp [x, y] H Q Ex) : wpAny (model X.prog X.w) A (call (.ref f) [u, v]) (fun r s' => ∃ z H', Inv X pins σ H' s' ∧ RelV z r ∧ Q z H') X.xe s := by
  have e0 : Env0 X.prog X.w X.K X.mg X.base A X.stack s H := by
    have e := I.env0
    exact ⟨by rw [sb.fr]; exact e.frames, e.mod, e.bs, e.bsz, e.funs, e.frf, e.hok, e.bare⟩
  have hl := F.len _ _ _ _ h
  have r2 : Vals [x, y] [u, v] := .cons rx (.cons ry .nil)
  refine wpAny_call (codeAny_mono (F.run A X.stack s H ⟨[u, v], []⟩ [u, v] [x, y] _ Ex sb.room e0 (by
    have := hb s [u, v] I.kIn (by simpa using hl)
    simpa using this) r2 h) fun r s' hq => ?_)
  cases r with
  | error e => exact hx pins σ H s e s' I hq
  | ok fl =>
    cases fl with
    | ret w =>
      obtain ⟨z, H', I', rz, q⟩ := I.after hq
      exact ⟨z, H', I', rz, q⟩
    | next => exact False.elim hq
    | brk => exact False.elim hq
    | cont => exact False.elim hq
end
structure EqOwn (P : Program) (w : World) (K : PySem.W.Frag) (mg : Str → Option Value) (base : Heap) (k : Nat) (C : Addr) (sp : Sp) : Prop where
  ex : ∃ (f : Addr) (fd : FuncData) (ps : List Str), EqCls K C f ∧ FnOk P w K mg base C8.CX0 k f fd ps sp ∧ Binds K fd ps []
def rOwn (K : PySem.W.Frag) (C : Addr) (neg : Bool) (sp : Sp) : R2 := fun x y H Q =>
  (∃ a dx fs, x = .ref a ∧ H a = some (.ins C dx fs) ∧ ((∃ b dy gs, y = .ref b ∧ H b = some (.ins C dy gs)) ∨ OthV K H y) ∧ sp [x, y] H (fun v H' => ∃ r, v = .bl r ∧ Q (.bl (if neg then !r else r)) H') C8.E0) ∨
  (∃ a dx fs, y = .ref a ∧ H a = some (.ins C dx fs) ∧ OthV K H x ∧ sp [y, x] H (fun v H' => ∃ r, v = .bl r ∧ Q (.bl (if neg then !r else r)) H') C8.E0)
section
variable {X : Cx} {k : Nat} {C : Addr} {sp : Sp}
theorem op_eqOwn (c : EqOwn X.prog X.w X.K X.mg X.base k C sp) (hr : Room k X.A) : OpR X (compareOp .Eq) (rOwn X.K C false sp) := by
  intro pins s σ H x y v u Q I rx ry h
  obtain ⟨f, fd, ps, c, F, hb⟩ := c.ex
  have sb : Sub X k X.A := ⟨hr, rfl⟩
  show wpAny (model X.prog X.w) X.A (richCompare .Eq v u) (EP X pins σ Q) X.xe s
  rcases h with ⟨a, dx, fs, rfl, ha, o, h⟩ | ⟨a, dx, fs, rfl, ha, o, h⟩
  · cases (show v = Value.ref a from rx)
    obtain ⟨mA, J, _⟩ := ins_get I.hok ha
    obtain ⟨od, J, _⟩ := J.look
    obtain ⟨m, hF⟩ := I.fr
    have go : wpAny (model X.prog X.w) X.A (call (.ref f) [.ref a, u]) (PySem.W.CmpBack (EP X pins σ Q)) X.xe s := by
      refine wpAny_mono (call_own F hb C8.pass0 sb I (x := .ref a) rfl ry h) (fun r s' z => ?_) fun _ _ e => e
      obtain ⟨z, H', I', rz, b, rfl, q⟩ := z
      cases rz
      exact ⟨.bl b, H', I', rfl, q⟩
    rcases o with ⟨b, dy, gs, rfl, hb'⟩ | o
    · cases (show u = Value.ref b from ry)
      obtain ⟨mB, J', _⟩ := ins_get I.hok hb'
      obtain ⟨od', J', _⟩ := J'.look
      exact PySem.W.cmp_K (op := .Eq) (tb := .ref C) sb.room.units0 hF I.ok.mod.kin J J'.type (by simp [PySem.W.notFirst]) c.eq c.fn go
    · obtain ⟨T, hT, t⟩ := oth_type I o ry
      exact PySem.W.cmp_K (op := .Eq) (tb := .type T) sb.room.units0 hF I.ok.mod.kin J (looks_of t) (c.nf T hT) c.eq c.fn go
  · cases (show u = Value.ref a from ry)
    obtain ⟨mA, J, _⟩ := ins_get I.hok ha
    obtain ⟨od, J, _⟩ := J.look
    refine oth_eq c sb.room.units0 I o rx J (wpAny_mono (call_own F hb C8.pass0 sb I (x := .ref a) rfl rx h) (fun r s' z => ?_) fun _ _ e => e)
    obtain ⟨z, H', I', rz, b, rfl, q⟩ := z
    cases rz
    exact ⟨b, rfl, .bl b, H', I', rfl, q⟩
theorem op_neOwn (c : EqOwn X.prog X.w X.K X.mg X.base k C sp) (hr : Room (k + 1) X.A) : OpR X (compareOp .NotEq) (rOwn X.K C true sp) := by
  intro pins s σ H x y v u Q I rx ry h
  obtain ⟨f, fd, ps, c, F, hb⟩ := c.ex
  have sb : Sub X k X.A.in1 := Sub.in1 ⟨hr, rfl⟩
  show wpAny (model X.prog X.w) X.A (richCompare .NotEq v u) (EP X pins σ Q) X.xe s
  rcases h with ⟨a, dx, fs, rfl, ha, o, h⟩ | ⟨a, dx, fs, rfl, ha, o, h⟩
  · cases (show v = Value.ref a from rx)
    obtain ⟨mA, J, _⟩ := ins_get I.hok ha
    obtain ⟨od, J, _⟩ := J.look
    have go : wpAny (model X.prog X.w) X.A.in1 (call (.ref f) [.ref a, u]) (fun v s' => ∃ r, v = .bool r ∧ EP X pins σ Q (.bool (!r)) s') X.xe s := by
      refine wpAny_mono (call_own F hb C8.pass0 sb I (x := .ref a) rfl ry h) (fun r s' z => ?_) fun _ _ e => e
      obtain ⟨z, H', I', rz, b, rfl, q⟩ := z
      cases rz
      exact ⟨b, rfl, .bl (!b), H', I', rfl, q⟩
    rcases o with ⟨b, dy, gs, rfl, hb'⟩ | o
    · cases (show u = Value.ref b from ry)
      obtain ⟨mB, J', _⟩ := ins_get I.hok hb'
      obtain ⟨od', J', _⟩ := J'.look
      exact ne_own sb.room.units0 I.kIn J J'.type (by simp [PySem.W.notFirst]) c.ne c.ob c.eq c.fn go
    · obtain ⟨T, hT, t⟩ := oth_type I o ry
      exact ne_own sb.room.units0 I.kIn J (looks_of t) (c.nf T hT) c.ne c.ob c.eq c.fn go
  · cases (show u = Value.ref a from ry)
    obtain ⟨mA, J, _⟩ := ins_get I.hok ha
    obtain ⟨od, J, _⟩ := J.look
    refine oth_ne c sb.room.units0 I o rx J (wpAny_mono (call_own F hb C8.pass0 sb I (x := .ref a) rfl rx h) (fun r s' z => ?_) fun _ _ e => e)
    obtain ⟨z, H', I', rz, b, rfl, q⟩ := z
    cases rz
    exact ⟨b, rfl, .bl (!b), H', I', rfl, q⟩
theorem kEqOwn (K : PySem.W.Frag) {j : Nat} (c : EqOwn X.prog X.w X.K X.mg X.base k C sp) (hr : Room j X.A) (hk : k ≤ j) (hK : X.K = K := by rfl) : OpR X (compareOp .Eq) (rOwn K C false sp) := by subst hK; exact op_eqOwn c (hr.mono hk)
theorem kNeOwn (K : PySem.W.Frag) {j : Nat} (c : EqOwn X.prog X.w X.K X.mg X.base k C sp) (hr : Room j X.A) (hk : k + 1 ≤ j) (hK : X.K = K := by rfl) : OpR X (compareOp .NotEq) (rOwn K C true sp) := by subst hK; exact op_neOwn c (hr.mono hk)
end
end OwnE
/-! t[::-1] of a tuple. -/
namespace HT
open PySem PySem.Spec PyProof.Rows
open PySem.SeqAt
theorem adjust_rev (n : Nat) : Builtin.Slice.sliceAdjust none none (-1) (n : Int) = ((n : Int) - 1, -1) := by
  unfold Builtin.Slice.sliceAdjust
  simp
theorem places_rev (n : Nat) : Builtin.Slice.slicePlaces ((n : Int) - 1) (-1) (-1) = n := by
  unfold Builtin.Slice.slicePlaces
  simp
  split <;> omega
theorem pick_rev (xs : Array Value) : ((List.range xs.size).filterMap fun (m : Nat) => xs[(((xs.size : Nat) : Int) - 1 + (m : Int) * (-1)).toNat]?).toArray = xs.toList.reverse.toArray := by
  congr 1
  have key : ∀ (l : List Nat), (∀ m ∈ l, m < xs.size) → l.filterMap (fun (m : Nat) => xs[(((xs.size : Nat) : Int) - 1 + (m : Int) * (-1)).toNat]?) = l.filterMap fun m => xs.toList.reverse[m]? := by
    intro l
    induction l with
    | nil => intro _; rfl
    | cons a r ih =>
      intro h
      have ha := h a List.mem_cons_self
      have e : xs[(((xs.size : Nat) : Int) - 1 + (a : Int) * (-1)).toNat]? = xs.toList.reverse[a]? := by
        have e1 : (((xs.size : Nat) : Int) - 1 + (a : Int) * (-1)).toNat = xs.size - 1 - a := by omega
        rw [e1, List.getElem?_reverse (by simpa using ha)]
        simp
      rw [List.filterMap_cons, List.filterMap_cons, e, ih fun m hm => h m (List.mem_cons_of_mem _ hm)]
  rw [key _ fun m hm => List.mem_range.mp hm]
  have := List.filterMap_getElem?_range_length xs.toList.reverse
  rw [List.length_reverse, Array.length_toList] at this
  exact this
section
variable {prog : Program} {w : World} {A : Around} {E : Value → Shared → Prop} {s : Shared}
theorem sliceApplied_rev {sl : Addr} {vl vu vs : Value} {n : Nat} {Q : Int × Int × Nat → Shared → Prop} (hs : s.heap.IsSliceOf sl vl vu vs) (pl : IsPart vl none) (pu : IsPart vu none) (ps : IsPart vs (some (-1)))
    (h : Q ((n : Int) - 1, -1, n) s) : wpAny (model prog w) A (Builtin.Slice.sliceApplied (.ref sl) (pure (n : Int))) Q E s := by
  obtain ⟨os, hos, hcs, hds⟩ := id hs
  unfold Builtin.Slice.sliceApplied Builtin.Slice.sliceFields
  refine wpAny_bind (wpAny_bind (wpAny_field hos hds (x := vl) rfl (wpAny_bind (wpAny_field hos hds (x := vu) rfl (wpAny_bind (wpAny_field hos hds (x := vs) rfl (wpAny_pure ?_)))))))
  refine wpAny_bind (slicePart_ ps ?_)
  show wpAny _ _ (if ((-1 : Int) == 0) = true then _ else _) _ _ s
  rw [if_neg (by decide)]
  refine wpAny_bind (slicePart_ pl (wpAny_bind (slicePart_ pu (wpAny_bind (wpAny_pure ?_)))))
  show wpAny _ _ (match Builtin.Slice.sliceAdjust none none (-1) (n : Int) with | (lo, hi) => pure (lo, (-1 : Int), Builtin.Slice.slicePlaces lo hi (-1))) _ _ s
  rw [adjust_rev n]
  show wpAny _ _ (pure ((n : Int) - 1, (-1 : Int), Builtin.Slice.slicePlaces ((n : Int) - 1) (-1) (-1))) _ _ s
  rw [places_rev]
  exact wpAny_pure h
theorem getItem_tuple_rev {t sl : Addr} {items : Array Value} {vl vu vs : Value} {Q : Value → Shared → Prop} (ht : IsTup s.heap t items) (hs : s.heap.IsSliceOf sl vl vu vs) (pl : IsPart vl none) (pu : IsPart vu none) (ps : IsPart vs (some (-1)))
    (h : Q (.ref s.heap.objs.size) { s with heap := s.heap.push { cls := .type "tuple", data := .seq items.toList.reverse.toArray } })
    (hsz : items.size ≤ sizeLine) : wpAny (model prog w) A (getItem (.ref t) (.ref sl)) Q E s := by
  have htake : sizeOk (.seq items.toList.reverse.toArray) := by
    show items.toList.reverse.toArray.size ≤ sizeLine
    rw [List.size_toArray, List.length_reverse, Array.length_toList]
    omega
  obtain ⟨os, hos, hcs, hds⟩ := id hs
  have hTs : s.TypeIs (.ref sl) "slice" := ⟨os, hos, hcs⟩
  unfold getItem
  try with_reducible refine wpAny_holding ?_
  first | refine wpAny_bind (wpAny_pure ?_) | skip
  refine wpAny_bind (wpAny_sequenceKey ht.typeIs (by decide) ?_)
  refine wpAny_bind (wpAny_callSpecial?_slot (name := Str.ofString "__getitem__") ht.typeIs PyProof.Rows.slot_tuple_getitem
    (wpAny_call_entry PyProof.Rows.slot_tuple_getitem ht.typeIs entry_tuple_getitem ?_ (args_tuple_getitem _ _)))
  show wpAny _ _ (Builtin.Tuple.tupleItemsOf (.ref t) >>= _) _ _ s
  refine wpAny_bind (tupleItemsOf_ ht ?_)
  refine wpAny_bind (wpAny_typeOf hTs ?_)
  rw [if_pos (by decide)]
  refine wpAny_bind (sliceApplied_rev hs pl pu ps ?_)
  have hno : ¬ (((((items.size : Nat) : Int) - 1) == 0 && (-1 : Int) == 1 && items.size == items.size) = true) := by
    intro q
    rw [Bool.and_eq_true, Bool.and_eq_true] at q
    exact absurd (eq_of_beq q.1.2) (by decide)
  show wpAny _ _ (if ((((items.size : Nat) : Int) - 1) == 0 && (-1 : Int) == 1 && items.size == items.size) = true then _ else _) _ _ s
  rw [if_neg hno, pick_rev]
  first
    | exact wpAny_bind (m := Builtin.Tuple.tupleExact _) (wpAny_newObj_type (wpAny_pure ⟨_, rfl, wpAny_pure h⟩) htake)
    | exact wpAny_bind (m := Builtin.Tuple.tupleExact _) (wpAny_newObj_type (wpAny_bind (wpAny_pure (wpAny_pure ⟨_, rfl, wpAny_pure h⟩))) htake)
    | exact wpAny_bind (wpAny_bind (m := Builtin.Tuple.tupleExact _) (wpAny_newObj_type (wpAny_pure (wpAny_pure ⟨_, rfl, wpAny_pure h⟩)) htake))
    | exact wpAny_bind (wpAny_bind (m := Builtin.Tuple.tupleExact _) (wpAny_newObj_type (wpAny_pure ⟨_, rfl, wpAny_pure h⟩) htake))
end
end HT
namespace L2
open PySem PySem.Spec PyProof.Rows HT
section
variable {X : Cx}
def tRevT (K : PySem.W.Frag) (te : TE) : TE := fun σ H Q => te σ H fun x H1 => ∃ a xs, x = .ref a ∧ SqT K H1 a xs ∧ ∀ p, H1 p = none → Q (.ref p) (upd H1 p (.tup xs.reverse))
theorem pe_revT {e : Expr} {te : TE} {k : Nat} {p1 p2 p3 pos : Pos} (he : PE X e te) : PE X (.Subscript e (.Slice none none (some (.UnaryOp .USub (.Constant (.int 1) k p1) p2)) p3) pos) (tRevT X.K te) := by
  refine ⟨fun pins s σ H Q I h => ?_⟩
  refine Subscript_ (thn (he.run pins s σ H _ I h) fun v s1 ⟨x, H1, I1, r1, q1⟩ => ?_)
  obtain ⟨a, xs, ex, hx, q⟩ := q1
  subst ex
  cases r1
  have hst : PO X (some (.UnaryOp .USub (.Constant (.int 1) k p1) p2)) (tPart (tUn (rU fun i => .int (-i)) (tC (.int 1)))) := po_some (pe_un un_neg pe_int)
  refine wpAny_Slice (thn (po_none.run pins s1 σ H1 (fun o H2 => o = none ∧ H2 = H1) I1 ⟨rfl, rfl⟩) fun vl s2 ⟨l, H2, I2, pl, el, e2⟩ => ?_)
  subst el e2
  refine thn (po_none.run pins s2 σ H2 (fun o H3 => o = none ∧ H3 = H2) I2 ⟨rfl, rfl⟩) fun vu s3 ⟨u, H3, I3, pu, eu, e3⟩ => ?_
  subst eu e3
  refine thn (hst.run pins s3 σ H3 (fun o H4 => o = some (-1) ∧ H4 = H3) I3 ⟨1, rfl, -1, rfl, rfl, rfl⟩) fun vs s4 ⟨o, H4, I4, ps, eo, e4⟩ => ?_
  subst eo e4
  have I5 : Inv X pins σ H4 { s4 with heap := s4.heap.push { cls := .type "slice", data := .fields #[vl, vu, vs] } } := I4.kept (t' := s4.toks) fun b ob q => Heap.get?_push_of_some _ q
  obtain ⟨its, r, ht, hz⟩ := I5.tuple hx
  have hlen := r.length
  show wpAny (model X.prog X.w) X.A (subscriptTail e (.Slice none none (some (.UnaryOp .USub (.Constant (.int 1) k p1) p2)) p3) (.ref a) (.ref s4.heap.objs.size)) (EP X pins σ Q) X.xe { s4 with heap := s4.heap.push { cls := .type "slice", data := .fields #[vl, vu, vs] } }
  refine tail_any (ops := [.ref a, .ref s4.heap.objs.size]) ht.typeIs (PyProof.Rows.slot_tuple_getitem.lookup) ?_ (by with_unfolding_all rfl)
  refine getItem_tuple_rev ht (Heap.IsSliceOf.new _ vl vu vs) pl pu ps ?_ (by rw [List.size_toArray]; omega)
  refine ⟨.ref _, _, I5.laid (t' := s4.toks) (o := .tup xs.reverse) (fun b ob q => Heap.get?_push_of_some _ q) (Nat.le_refl _) ?_, rfl, q _ (I5.hok.fresh (Nat.le_refl _))⟩
  exact ⟨by rw [List.length_reverse]; exact hz, _, r.reverse, _, Heap.get?_push_size _ rfl, rfl, _, rfl⟩
theorem kRevT (K : PySem.W.Frag) {e : Expr} {te : TE} (h : PE X e (tRevT X.K te)) (hK : X.K = K := by rfl) : PE X e (tRevT K te) := by subst hK; exact h
end
end L2
/-! own == and != plainly. -/
namespace L3
open PySem PySem.Spec PyProof.Rows L2 TB LamX OwnE
open C8 (Cal Met Mak)
def othD : D → Bool
  | .non => true
  | .int _ => true
  | .str _ => true
  | .lst _ => true
  | .tup _ => true
  | _ => false
section
variable {X : Sx} {K : PySem.W.Frag}
theorem oth_ok {K : PySem.W.Frag} {F H : Hp} (s : Same F H) {d : D} {v : V} (h : Rn K F H d v) (e : othD d = true) : OthV K H v := by
  cases d with
  | non => obtain rfl : v = .non := h; trivial
  | int i => obtain rfl : v = .int i := h; trivial
  | str i => obtain rfl : v = .str i := h; trivial
  | lst ds => obtain ⟨a, vs, rfl, q, _⟩ := h; exact Or.inl ⟨vs, q⟩
  | tup ds => obtain ⟨a, vs, rfl, q, _⟩ := h; exact Or.inr ⟨vs, sqT_mono s q⟩
  | _ => exact nomatch e
def oOwn (C : Addr) (neg : Bool) (P : PSp) (c1 c2 : Bool) (dx dy : D) (Q : Bool → Prop) : Prop :=
  ((∃ ns es, dx = .ins C ns es) ∧ ((∃ ns es, dy = .ins C ns es) ∨ othD dy = true) ∧ P [dx, dy] fun r _ => resOk c1 r fun d => ∃ b, Rv.val d = .val (.bl b) ∧ Q (if neg then !b else b)) ∨
  ((∃ ns es, dy = .ins C ns es) ∧ othD dx = true ∧ P [dy, dx] fun r _ => resOk c2 r fun d => ∃ b, Rv.val d = .val (.bl b) ∧ Q (if neg then !b else b))
def qOwn (C : Addr) (neg : Bool) (P : PSp) (pa pb : QE) : QE := fun ρ Q => pa ρ fun x ρ1 => pb ρ1 fun y ρ2 => some2 (fun dx dy => oOwn C neg P ([x, y].any isCell) ([y, x].any isCell) dx dy fun b => Q (.val (.bl b)) ρ2) (rdR ρ2 x) (rdR ρ2 y)
theorem ins_at {K : PySem.W.Frag} {F H : Hp} (s : Same F H) {C : Addr} {ns : List Str} {es : List D} {v : V} (h : Rn K F H (.ins C ns es) v) : ∃ a dx fs, v = .ref a ∧ H a = some (.ins C dx fs) := by
  obtain ⟨a, dx, vs, rfl, q, _⟩ := h
  exact ⟨a, dx, _, rfl, s _ _ q⟩
theorem li_own {C : Addr} {neg : Bool} {P : PSp} {ta tb : TE} {pa pb : QE} (ha : LiE X ta pa) (hb : LiE X tb pb) (hK : X.K = K := by rfl) : LiE X (tOp (rOwn K C neg (lsp X none P)) ta tb) (qOwn C neg P pa pb) := by
  subst hK
  intro c hX σ F H ρ Q Q3 R hq h
  subst hX
  refine ha c rfl σ F H ρ _ _ R ?_ h
  intro x ρ1 v F1 H1 R1 s1 rv q1
  refine hb c rfl σ F1 H1 ρ1 _ _ R1 ?_ q1
  intro y ρ2 u F2 H2 R2 s2 ru q2
  cases e1 : rdR ρ2 x with
  | none => rw [e1] at q2; exact q2.elim
  | some dx =>
    cases e2 : rdR ρ2 y with
    | none => rw [e1, e2] at q2; exact q2.elim
    | some dy =>
      rw [e1, e2] at q2
      have rv2 := rv.mono s2
      have nx := RV.rn R2 rv2 e1
      have ny := RV.rn R2 ru e2
      have fin : ∀ (r : Rv) (ρ' : PSt) (z : V) (F' H' : Hp), Rel c F' H' σ ρ' → Same F2 F' → RV c F' σ r z → (∃ b, r = .val (.bl b) ∧ Q3 (.val (.bl (if neg then !b else b))) ρ') → ∃ b, z = .bl b ∧ Q (.bl (if neg then !b else b)) H' := by
        rintro r ρ' z F' H' R' s' rz ⟨b, rfl, q⟩
        obtain rfl : z = .bl b := rz
        exact ⟨b, rfl, hq (.val (.bl _)) ρ' _ F' H' R' (tr (tr s1 s2) s') rfl q⟩
      rcases q2 with ⟨⟨ns, es, rfl⟩, o, q⟩ | ⟨⟨ns, es, rfl⟩, o, q⟩
      · obtain ⟨a, dx, fs, rfl, hA⟩ := ins_at R2.sub nx
        refine Or.inl ⟨a, dx, fs, rfl, hA, ?_, ?_⟩
        · rcases o with ⟨ms, gs, rfl⟩ | o
          · obtain ⟨b, dy, gs, rfl, hB⟩ := ins_at R2.sub ny
            exact Or.inl ⟨b, dy, gs, rfl, hB⟩
          · exact Or.inr (oth_ok R2.sub ny o)
        · exact call_end (rs := [x, y]) (Q3 := fun r ρ' => ∃ b, r = .val (.bl b) ∧ Q3 (.val (.bl (if neg then !b else b))) ρ') R2 (Same.refl F2) ⟨_, _, rfl, rv2, _, _, rfl, ru, rfl⟩ (by
            show cons2 (rdR ρ2 x) (cons2 (rdR ρ2 y) (some [])) = _
            rw [e1, e2]
            rfl) fin q
      · obtain ⟨a, dy, fs, rfl, hA⟩ := ins_at R2.sub ny
        refine Or.inr ⟨a, dy, fs, rfl, hA, oth_ok R2.sub nx o, ?_⟩
        exact call_end (rs := [y, x]) (Q3 := fun r ρ' => ∃ b, r = .val (.bl b) ∧ Q3 (.val (.bl (if neg then !b else b))) ρ') R2 (Same.refl F2) ⟨_, _, rfl, ru, _, _, rfl, rv2, rfl⟩ (by
            show cons2 (rdR ρ2 y) (cons2 (rdR ρ2 x) (some [])) = _
            rw [e1, e2]
            rfl) fin q
theorem w_eqOwn {ρ : PSt} {Q : Rv → PSt → Prop} {C : Addr} {neg : Bool} {P : PSp} {pa pb : QE} (h : pa ρ fun x ρ1 => pb ρ1 fun y ρ2 => some2 (fun dx dy => oOwn C neg P ([x, y].any isCell) ([y, x].any isCell) dx dy fun b => Q (.val (.bl b)) ρ2) (rdR ρ2 x) (rdR ρ2 y)) : qOwn C neg P pa pb ρ Q := h
theorem w_eqOwn1 {C : Addr} {neg : Bool} {P : PSp} {c1 c2 : Bool} {ns : List Str} {es : List D} {dy : D} {Q : Bool → Prop} (o : (∃ ns es, dy = .ins C ns es) ∨ othD dy = true) (h : P [.ins C ns es, dy] fun r _ => resOk c1 r fun d => ∃ b, Rv.val d = .val (.bl b) ∧ Q (if neg then !b else b)) : oOwn C neg P c1 c2 (.ins C ns es) dy Q := Or.inl ⟨⟨ns, es, rfl⟩, o, h⟩
theorem w_eqOwn2 {C : Addr} {neg : Bool} {P : PSp} {c1 c2 : Bool} {ns : List Str} {es : List D} {dx : D} {Q : Bool → Prop} (o : othD dx = true) (h : P [.ins C ns es, dx] fun r _ => resOk c2 r fun d => ∃ b, Rv.val d = .val (.bl b) ∧ Q (if neg then !b else b)) : oOwn C neg P c1 c2 dx (.ins C ns es) Q := Or.inr ⟨⟨ns, es, rfl⟩, o, h⟩
end
end L3
/-! lives as data: made, read; tuples turned about. -/
namespace L3
open PySem PySem.Spec PyProof.Rows L2 TB LamX OwnE
open C8 (Cal Met Mak)
section
variable {X : Sx} {K : PySem.W.Frag}
def qRevT (pe : QE) : QE := fun ρ Q => pe ρ fun r ρ1 => some1 (fun d => ∃ ds, d = .tup ds ∧ Q (.val (.tup ds.reverse)) ρ1) (rdR ρ1 r)
theorem li_revT {te : TE} {pe : QE} (h1 : LiE X te pe) (hK : X.K = K := by rfl) : LiE X (tRevT K te) (qRevT pe) := by
  subst hK
  intro c hX σ F H ρ Q Q3 R hq h
  subst hX
  refine h1 c rfl σ F H ρ _ _ R ?_ h
  intro r ρ1 v F1 H1 R1 s1 rv q1
  cases e : rdR ρ1 r with
  | none => rw [e] at q1; exact q1.elim
  | some d =>
    rw [e] at q1
    obtain ⟨ds, rfl, q⟩ := q1
    obtain ⟨a, vs, rfl, ha, hr⟩ := RV.rn R1 rv e
    refine ⟨a, vs, rfl, sqT_mono R1.sub ha, fun l nl => ?_⟩
    have s2 : Same F1 (upd F1 l (.tup vs.reverse)) := fun _ _ z => old_upd (R1.fnone nl) z
    exact hq (.val (.tup _)) ρ1 _ _ _ (R1.alloc nl trivial) (tr s1 s2) ⟨l, _, rfl, sqT_of upd_same, (RpL.rev hr).mono s2⟩ q
/-! ### fields -/
def qFld (C : Addr) (f : Str) (pe : QE) : QE := fun ρ Q => pe ρ fun r ρ1 => some1 (fun d => ∃ ns es e, d = .ins C ns es ∧ ns.length = es.length ∧ (ns.zip es).lookup f = some e ∧ Q (.val e) ρ1) (rdR ρ1 r)
theorem look_zip {F : Hp} {f : Str} : ∀ {ns : List Str} {es : List D} {vs : List V} {e : D}, ns.length = es.length → RpL K F es vs → (ns.zip es).lookup f = some e → ∃ v, (ns.zip vs).lookup f = some v ∧ Rp K F e v
  | [], es, vs, e, l, h, k => by
    rw [List.zip_nil_left] at k
    exact nomatch k
  | n :: ns, [], vs, e, l, h, k => nomatch l
  | n :: ns, d :: es, vs, e, l, h, k => by
    obtain ⟨v, t, rfl, q, z⟩ := h
    rw [List.zip_cons_cons, List.lookup_cons] at k ⊢
    cases hb : f == n with
    | true =>
      rw [hb] at k
      obtain rfl := Option.some.inj k
      exact ⟨v, rfl, q⟩
    | false =>
      rw [hb] at k
      exact look_zip (Nat.succ.inj l) z k
theorem li_fld {C : Addr} {f : Str} {te : TE} {pe : QE} (h1 : LiE X te pe) (hc : Cls X.K C) (hn : NoAttr X.K C f) (hK : X.K = K := by rfl) : LiE X (tFld K te f) (qFld C f pe) := by
  subst hK
  intro c hX σ F H ρ Q Q3 R hq h
  subst hX
  refine h1 c rfl σ F H ρ _ _ R ?_ h
  intro r ρ1 v F1 H1 R1 s1 rv q1
  cases e : rdR ρ1 r with
  | none => rw [e] at q1; exact q1.elim
  | some d =>
    rw [e] at q1
    obtain ⟨ns, es, e9, rfl, ln, lk, q⟩ := q1
    obtain ⟨a, dx, vs, rfl, ha, _, hr⟩ := RV.rn R1 rv e
    obtain ⟨u, hu, ru⟩ := look_zip ln hr lk
    exact ⟨a, C, dx, _, u, rfl, R1.sub _ _ ha, hc, hn, hu, hq (.val e9) ρ1 u F1 H1 R1 s1 ru q⟩
theorem w_fld {ρ : PSt} {C : Addr} {f : Str} {pe : QE} {Q : Rv → PSt → Prop} (h : pe ρ fun r ρ1 => some1 (fun d => ∃ ns es e, d = .ins C ns es ∧ ns.length = es.length ∧ (ns.zip es).lookup f = some e ∧ Q (.val e) ρ1) (rdR ρ1 r)) : qFld C f pe ρ Q := h
theorem w_revT {ρ : PSt} {pe : QE} {Q : Rv → PSt → Prop} (h : pe ρ fun r ρ1 => some1 (fun d => ∃ ds, d = .tup ds ∧ Q (.val (.tup ds.reverse)) ρ1) (rdR ρ1 r)) : qRevT pe ρ Q := h
/-! ### lives -/
abbrev lifeD (C : Addr) (a b c d : D) : D := .ins C ["place", "hand", "drafts", "called"] [a, b, c, d]
theorem life_made {c : Ct} {F H : Hp} {σ : L2.St} {ρ : PSt} {C x dx : Addr} {v1 v2 v3 v4 : V} {a b e d : D} (R : Rel c F H σ ρ) (nx : H x = none) (ndx : H dx = none) (nxx : dx ≠ x) (h1 : Rp c.K F a v1) (h2 : Rp c.K F b v2) (h3 : Rp c.K F e v3) (h4 : Rp c.K F d v4) :
    ∃ F', Rel c F' (upd (upd (upd H dx (.own x)) x (.ins C dx [])) x (.ins C dx [("place", v1), ("hand", v2), ("drafts", v3), ("called", v4)])) σ ρ ∧ Same F F' ∧ Rp c.K F' (lifeD C a b e d) (.ref x) := by
  have ndx2 : upd H dx (.own x) x = none := by
    rw [upd_ne (fun z => nxx z.symm)]
    exact nx
  rw [upd_upd]
  have Ra := R.alloc (o := .own x) ndx trivial
  have Rb := Ra.alloc (o := .ins C dx [("place", v1), ("hand", v2), ("drafts", v3), ("called", v4)]) ndx2 trivial
  have fx : upd F dx (.own x) x = none := Ra.fnone ndx2
  have s2 : Same F (upd (upd F dx (.own x)) x (.ins C dx [("place", v1), ("hand", v2), ("drafts", v3), ("called", v4)])) := fun _ _ z => old_upd fx (old_upd (R.fnone ndx) z)
  refine ⟨_, Rb, s2, x, dx, [v1, v2, v3, v4], rfl, upd_same, ?_, _, _, rfl, h1.mono s2, _, _, rfl, h2.mono s2, _, _, rfl, h3.mono s2, _, _, rfl, h4.mono s2, rfl⟩
  exact old_upd fx upd_same
def qMkL (C : Addr) (g3 : List D → Option (List D)) (pk : QA) : QE := fun ρ Q => pk ρ fun rs ρ1 => ∃ ds a b c d, rs = ds.map Rv.val ∧ g3 ds = some [a, b, c, d] ∧ Q (.val (lifeD C a b c d)) ρ1
theorem rvl_vals {c : Ct} {F : Hp} {σ : L2.St} : ∀ {ds : List D} {vs : List V}, RVL c F σ (ds.map Rv.val) vs → RpL c.K F ds vs
  | [], vs, h => h
  | d :: ds, vs, h => by
    obtain ⟨v, t, rfl, q, z⟩ := h
    exact ⟨v, t, rfl, q, rvl_vals z⟩
theorem li_mkL {n : Nat} {C : Addr} {gV : List V → List V → List V} {E : XK} {tk : TA} {pk : QA} {g3 : List D → Option (List D)} (h1 : LiA X tk pk) (hn : ∀ ds e, g3 ds = some e → ds.length = n)
    (hg : ∀ (F : Hp) (x : V) (ds : List D) (zs : List V) (a b c d : D), RpL X.K F ds zs → g3 ds = some [a, b, c, d] → ∃ v1 v2 v3 v4, gV [x] zs = [x, v1, v2, v3, v4] ∧ Rp X.K F a v1 ∧ Rp X.K F b v2 ∧ Rp X.K F c v3 ∧ Rp X.K F d v4) : LiE X (tMakeK C 0 n (spLifeI C) gV E tNil tk) (qMkL C g3 pk) := by
  intro c hX σ F H ρ Q Q3 R hq h
  subst hX
  refine h1 c rfl σ F H ρ _ _ R ?_ h
  rintro rs ρ1 zs F1 H1 R1 s1 rv ⟨ds, a, b, e, d, rfl, hgd, q⟩
  have rl := rvl_vals rv
  refine ⟨rfl, by rw [rl.len]; exact hn _ _ hgd, fun x dx nx ndx nxx => ?_⟩
  obtain ⟨v1, v2, v3, v4, e1, r1, r2, r3, r4⟩ := hg F1 (.ref x) ds zs a b e d rl hgd
  rw [e1]
  obtain ⟨F', R', s', r'⟩ := life_made (C := C) R1 nx ndx nxx r1 r2 r3 r4
  exact ⟨x, dx, v1, v2, v3, v4, rfl, upd_same, rfl, hq (.val (lifeD C a b e d)) ρ1 (.ref x) F' _ R' (tr s1 s') r' q⟩
theorem li_mkL0 {C : Addr} {v1 v2 v3 v4 : V} {a b e d : D} {E : XK} (h1 : ∀ F, Rp X.K F a v1) (h2 : ∀ F, Rp X.K F b v2) (h3 : ∀ F, Rp X.K F e v3) (h4 : ∀ F, Rp X.K F d v4) : LiE X (tMake C (spLifeI C) [v1, v2, v3, v4] E tNil) (fun ρ Q => Q (.val (lifeD C a b e d)) ρ) := by
  intro c hX σ F H ρ Q Q3 R hq q
  subst hX
  intro x dx nx ndx nxx
  obtain ⟨F', R', s', r'⟩ := life_made (C := C) R nx ndx nxx (h1 F) (h2 F) (h3 F) (h4 F)
  exact ⟨x, dx, v1, v2, v3, v4, rfl, upd_same, rfl, hq (.val (lifeD C a b e d)) ρ (.ref x) F' _ R' s' r' q⟩
/-! ### minus, a list some times -/
def oNeg : O1 := fun d Q => ∃ i, d = .int i ∧ Q (.int (-i))
theorem lu_neg : LiU X (rU fun i => .int (-i)) oNeg := by
  intro c hX σ F H ρ x dx Q Q3 R rx hq h
  obtain ⟨i, rfl, h⟩ := h
  obtain rfl : x = .int i := rx
  exact ⟨i, rfl, hq (.int _) _ F H R (Same.refl F) rfl h⟩
theorem lr_rep1_aux {α : Type} (xs : List α) {k : Int} (h0 : 0 ≤ k) (h1 : k ≤ 1) : (List.replicate k.toNat xs).flatten = if k = 1 then xs else [] := by
  rcases (show k = 0 ∨ k = 1 by omega) with rfl | rfl
  · rfl
  · simp
def oRepL : O2N := fun dx dy Q => ∃ ds k, dx = .lst ds ∧ dy = .int k ∧ 0 ≤ k ∧ k ≤ 1 ∧ ds.length ≤ 1000 ∧ Q (if k = 1 then ds else [])
theorem lr_rep : LiRN X rRep oRepL := by
  intro c hX σ F H ρ x y dx dy Q Q3 R rx ry hq h
  obtain ⟨ds, k, rfl, rfl, h0, h1, hl, h⟩ := h
  obtain ⟨p, vs, rfl, hp, r⟩ := rx
  obtain rfl : y = .int k := ry
  refine ⟨p, k, vs, rfl, rfl, hp, by omega, by omega, ?_, fun l nl => ?_⟩
  · have e1 : vs.length ≤ 1000 := by rw [r.len]; exact hl
    have e2 : k.toNat ≤ 1 := by omega
    have e3 : vs.length * k.toNat ≤ 1000 * 1 := Nat.mul_le_mul e1 e2
    exact Nat.le_trans e3 (by decide)
  · rw [lr_rep1_aux vs h0 h1]
    have rr : RpL c.K F (if k = 1 then ds else []) (if k = 1 then vs else []) := by
      split
      · exact r
      · rfl
    obtain ⟨R2, n2⟩ := NewL.made R nl rr
    exact hq _ l F _ R2 (Same.refl F) n2 h
/-! ### isinstance of an own class -/
def clsD (C : Addr) : D := .op ⟨fun _ v => v = .ref C, fun _ h => h⟩
def qCls (C : Addr) : QE := fun ρ Q => Q (.val (clsD C)) ρ
theorem li_cRef {C : Addr} : LiE X (tC (.ref C)) (qCls C) := by
  intro c hX σ F H ρ Q Q3 R hq h
  exact hq (.val (clsD C)) ρ _ F H R (Same.refl F) rfl h
theorem w_cls {ρ : PSt} {C : Addr} {Q : Rv → PSt → Prop} (h : Q (.val (clsD C)) ρ) : qCls C ρ Q := h
/-- what is asked of the class of lives -/
structure LifeC (K : PySem.W.Frag) (C : Addr) : Prop where
  lc : LifC K C
  ic : C8.InsC K C
  no : ∀ T ∈ tys, PySem.W.kitOne K (.type T) (.ref C) = some false
theorem oth_ty {K : PySem.W.Frag} {F H : Hp} (s : Same F H) {d : D} {v : V} (h : Rn K F H d v) (e : othD d = true) : ∃ T ∈ tys, TyX K H v (.type T) := by
  cases d with
  | non => exact ⟨_, by decide, tyD_ok s h rfl⟩
  | int i => exact ⟨_, by decide, tyD_ok s h rfl⟩
  | str i => exact ⟨_, by decide, tyD_ok s h rfl⟩
  | lst ds => exact ⟨_, by decide, tyD_ok s h rfl⟩
  | tup ds => exact ⟨_, by decide, tyD_ok s h rfl⟩
  | _ => exact nomatch e
def oIsiC (C : Addr) : OL := fun as Q => (∃ ns es, as = [.ins C ns es, clsD C] ∧ Q (.bl true)) ∨ ∃ d, as = [d, clsD C] ∧ othD d = true ∧ Q (.bl false)
theorem lc_isiC {C : Addr} (ic : LifeC X.K C) (hK : X.K = K := by rfl) : LiC X (rIsi K) (oIsiC C) := by
  subst hK
  intro c hX σ F H ρ xs dxs Q Q3 R rx hq h
  subst hX
  rcases h with ⟨ns, es, rfl, h⟩ | ⟨d, rfl, o, h⟩
  · obtain ⟨v, u, rfl, rv, v2, u2, rfl, rv2, eu⟩ := rx
    obtain rfl : u2 = [] := eu
    obtain rfl : v2 = .ref C := rv2
    obtain ⟨a, dx, fs, rfl, hA⟩ := ins_at R.sub rv
    exact ⟨.ref a, .ref C, .ref C, .ref C, true, rfl, .own C, .base (.ins hA ic.ic.cl ic.ic.ha ic.ic.hn ic.ic.htk ic.ic.hm), ic.ic.me, hq (.bl true) _ F H R (Same.refl F) rfl h⟩
  · obtain ⟨v, u, rfl, rv, v2, u2, rfl, rv2, eu⟩ := rx
    obtain rfl : u2 = [] := eu
    obtain rfl : v2 = .ref C := rv2
    obtain ⟨T, hT, t⟩ := oth_ty R.sub rv o
    exact ⟨v, .ref C, .type T, .ref C, false, rfl, .own C, t, ic.no T hT, hq (.bl false) _ F H R (Same.refl F) rfl h⟩
end
end L3
/-! the four values of a life. -/
namespace L3
open PySem PySem.Spec PyProof.Rows L2 TB LamX OwnE
open C8 (Cal Met Mak)
section
variable {X : Sx} {K : PySem.W.Frag} {C : Addr} {te : TE} {pe : QE}
theorem li_place (lc : LifeC K C) (h1 : LiE X te pe) (hK : X.K = K := by rfl) : LiE X (tFld K te "place") (qFld C "place" pe) := by subst hK; exact li_fld h1 lc.lc.cls lc.lc.n1
theorem li_hand (lc : LifeC K C) (h1 : LiE X te pe) (hK : X.K = K := by rfl) : LiE X (tFld K te "hand") (qFld C "hand" pe) := by subst hK; exact li_fld h1 lc.lc.cls lc.lc.n2
theorem li_drafts (lc : LifeC K C) (h1 : LiE X te pe) (hK : X.K = K := by rfl) : LiE X (tFld K te "drafts") (qFld C "drafts" pe) := by subst hK; exact li_fld h1 lc.lc.cls lc.lc.n3
theorem li_called (lc : LifeC K C) (h1 : LiE X te pe) (hK : X.K = K := by rfl) : LiE X (tFld K te "called") (qFld C "called" pe) := by subst hK; exact li_fld h1 lc.lc.cls lc.lc.n4
theorem lc_isiC' (ic : LifeC K C) (hK : X.K = K := by rfl) : LiC X (rIsi K) (oIsiC C) := by subst hK; exact lc_isiC ic
/-- how names stand for the four -/
structure GLif (K : PySem.W.Frag) (n : Nat) (gV : List V → List V → List V) (g3 : List D → Option (List D)) : Prop where
  len : ∀ ds e, g3 ds = some e → ds.length = n
  ok : ∀ (F : Hp) (x : V) (ds : List D) (zs : List V) (a b c d : D), RpL K F ds zs → g3 ds = some [a, b, c, d] → ∃ v1 v2 v3 v4, gV [x] zs = [x, v1, v2, v3, v4] ∧ Rp K F a v1 ∧ Rp K F b v2 ∧ Rp K F c v3 ∧ Rp K F d v4
theorem li_mkG {n : Nat} {gV : List V → List V → List V} {E : XK} {tk : TA} {pk : QA} {g3 : List D → Option (List D)} (g : GLif K n gV g3) (h1 : LiA X tk pk) (hK : X.K = K := by rfl) : LiE X (tMakeK C 0 n (spLifeI C) gV E tNil tk) (qMkL C g3 pk) := by
  subst hK
  exact li_mkL h1 g.len g.ok
structure GLif0 (K : PySem.W.Frag) (v1 v2 v3 v4 : V) : Prop where
  h1 : v1 = .int 0
  h2 : v2 = .int 0
  h3 : ∀ F, Rp K F (.tup []) v3
  h4 : ∀ F, Rp K F (.tup []) v4
theorem li_mkG0 {v1 v2 v3 v4 : V} {E : XK} (g : GLif0 K v1 v2 v3 v4) (hK : X.K = K := by rfl) : LiE X (tMake C (spLifeI C) [v1, v2, v3, v4] E tNil) (fun ρ Q => Q (.val (lifeD C (.int 0) (.int 0) (.tup []) (.tup []))) ρ) := by
  subst hK
  exact li_mkL0 (fun _ => g.h1) (fun _ => g.h2) g.h3 g.h4
theorem w_mkG {ρ : PSt} {g3 : List D → Option (List D)} {pk : QA} {Q : Rv → PSt → Prop} (h : pk ρ fun rs ρ1 => ∃ ds a b c d, rs = ds.map Rv.val ∧ g3 ds = some [a, b, c, d] ∧ Q (.val (lifeD C a b c d)) ρ1) : qMkL C g3 pk ρ Q := h
def g3p : List D → Option (List D)
  | [a] => some [a, .int 0, .tup [], .tup []]
  | _ => none
def g3h : List D → Option (List D)
  | [a] => some [.int 0, a, .tup [], .tup []]
  | _ => none
def g3d : List D → Option (List D)
  | [a] => some [.int 0, .int 0, a, .tup []]
  | _ => none
def g3c : List D → Option (List D)
  | [a] => some [.int 0, .int 0, .tup [], a]
  | _ => none
def g3chpd : List D → Option (List D)
  | [c, h, p, d] => some [p, h, d, c]
  | _ => none
def g3phdc : List D → Option (List D)
  | [p, h, d, c] => some [p, h, d, c]
  | _ => none
/-! ### the four values -/
structure Four where
  place : Int
  hand : Int
  drafts : List (Str × Int)
  called : List Str
deriving DecidableEq
abbrev nD (p : Str × Int) : D := .tup [.str p.1, .int p.2]
def dN (p : Str × Int) : PyData := .tuple [.str p.1, .int p.2]
abbrev fourD (f : Four) : D := .tup [.int f.place, .int f.hand, .tup (f.drafts.map nD), .tup (strsD f.called)]
abbrev lifeF (C : Addr) (f : Four) : D := lifeD C (.int f.place) (.int f.hand) (.tup (f.drafts.map nD)) (.tup (strsD f.called))
def dFour (f : Four) : PyData := .tuple [.int f.place, .int f.hand, .tuple (f.drafts.map dN), .tuple (f.called.map .str)]
theorem pd_four (f : Four) : pd (fourD f) = some (dFour f) := by
  show (consO (some (.int f.place)) (consO (some (.int f.hand)) (consO ((pdL (f.drafts.map nD)).map .tuple) (consO ((pdL (f.called.map D.str)).map .tuple) (some []))))).map PyData.tuple = _
  rw [pdL_map (g := dN) (fun _ => rfl), pdL_map (g := PyData.str) (fun _ => rfl)]
  rfl
theorem eqv_int (a b : Int) : PyData.eqv (.int a) (.int b) = decide (a = b) := by
  simp only [PyData.eqv]
  rw [Bool.eq_iff_iff]
  simp
theorem eqv_str (a b : Str) : PyData.eqv (.str a) (.str b) = decide (a = b) := by
  simp only [PyData.eqv]
  exact beq_str a b
theorem eqv_n (p q : Str × Int) : PyData.eqv (dN p) (dN q) = decide (p = q) := by
  simp only [dN]
  rw [PyData.eqv]
  simp only [PyData.eqvAll, eqv_int, eqv_str]
  rw [Bool.eq_iff_iff]
  simp [Prod.ext_iff]
theorem eqv_four (f g : Four) : PyData.eqv (dFour f) (dFour g) = decide (f = g) := by
  have e1 : PyData.eqv (.tuple (f.drafts.map dN)) (.tuple (g.drafts.map dN)) = decide (f.drafts = g.drafts) := by
    rw [PyData.eqv]
    exact eqvAll_map (g := dN) eqv_n _ _
  have e2 : PyData.eqv (.tuple (f.called.map .str)) (.tuple (g.called.map .str)) = decide (f.called = g.called) := by
    rw [PyData.eqv]
    exact eqvAll_map (g := PyData.str) eqv_str _ _
  simp only [dFour]
  rw [PyData.eqv]
  simp only [PyData.eqvAll, eqv_int, e1, e2]
  cases f
  cases g
  rw [Bool.eq_iff_iff]
  simp
/-- of texts and numbers that can be shown -/
structure FourOk (f : Four) : Prop where
  p0 : 0 ≤ f.place ∧ f.place ≤ 10 ^ 19
  h0 : -(10 ^ 19) ≤ f.hand ∧ f.hand ≤ 10 ^ 19
  d0 : ∀ p ∈ f.drafts, Nm p.1 ∧ -(10 ^ 19) ≤ p.2 ∧ p.2 ≤ 10 ^ 19
  c0 : ∀ z ∈ f.called, Nm z
  dl : f.drafts.length ≤ 20
  cl : f.called.length ≤ 20
theorem show_int {i : Int} (h : i.natAbs < 10 ^ 20) : (PyData.int i).showable = true := by
  simp only [PyData.showable, decide_eq_true_eq]
  exact Nat.lt_trans (PySem.Flt.log2_lt_of (k := 70) (by decide) (Nat.lt_trans h (by decide))) (by decide)
theorem FourOk.lay {f : Four} (ok : FourOk f) : SeqAt.shaped (dFour f) = true := by
  have h1 : ∀ l : List (Str × Int), (∀ p ∈ l, Nm p.1) → PyData.canLayAll0 (l.map dN) = true := by
    intro l
    induction l with
    | nil => intro _; simp [PyData.canLayAll0]
    | cons z r ih =>
      intro h
      simp [PyData.canLayAll0, PyData.canLay0, dN, strOk_nm (h z List.mem_cons_self), ih fun y hy => h y (List.mem_cons_of_mem _ hy)]
  have h2 : ∀ l : List Str, (∀ p ∈ l, Nm p) → PyData.canLayAll0 (l.map PyData.str) = true := by
    intro l
    induction l with
    | nil => intro _; simp [PyData.canLayAll0]
    | cons z r ih =>
      intro h
      simp [PyData.canLayAll0, PyData.canLay0, strOk_nm (h z List.mem_cons_self), ih fun y hy => h y (List.mem_cons_of_mem _ hy)]
  have d1 := depthAll_map (f := dN) (n := 2) (l := f.drafts) (fun x _ => by simp [dN, PyData.depth, PyData.depthAll])
  have d2 := depthAll_map (f := PyData.str) (n := 1) (l := f.called) (fun x _ => by simp [PyData.depth])
  show (PyData.canLay0 (dFour f) && decide ((dFour f).depth ≤ 64)) = true
  rw [Bool.and_eq_true]
  refine ⟨?_, decide_eq_true ?_⟩
  · simp [dFour, PyData.canLay0, PyData.canLayAll0, h1 f.drafts (fun p hp => (ok.d0 p hp).1), h2 f.called ok.c0]
  · simp only [dFour, PyData.depth, PyData.depthAll]
    omega
theorem FourOk.show {f : Four} (ok : FourOk f) : (dFour f).showable = true := by
  have e18 : ((10 : Int) ^ 19) = 10000000000000000000 := by decide
  have a1 := ok.p0
  have a2 := ok.h0
  rw [e18] at a1 a2
  have s1 := show_int (i := f.place) (by omega)
  have s2 := show_int (i := f.hand) (by omega)
  have s3 : PyData.showableAll (f.drafts.map dN) = true := showAll_map fun x hx => by
    have b := (ok.d0 x hx).2
    rw [e18] at b
    have s := show_int (i := x.2) (by omega)
    simp only [dN, PyData.showable, PyData.showableAll] at s ⊢
    rw [s]
    rfl
  have s4 : PyData.showableAll (f.called.map PyData.str) = true := showAll_map fun x _ => by simp only [PyData.showable]
  simp only [PyData.showable] at s1 s2
  simp only [dFour, PyData.showable, PyData.showableAll, s1, s2, s3, s4]
  rfl
theorem FourOk.dep {f : Four} : (dFour f).depth ≤ 5 := by
  have d1 := depthAll_map (f := dN) (n := 2) (l := f.drafts) (fun x _ => by simp [dN, PyData.depth, PyData.depthAll])
  have d2 := depthAll_map (f := PyData.str) (n := 1) (l := f.called) (fun x _ => by simp [PyData.depth])
  simp only [dFour, PyData.depth, PyData.depthAll]
  omega
theorem shown_int20 {i : Int} (h : i.natAbs < 10 ^ 20) : (PyData.int i).shown.length ≤ 21 := by
  have e := int_text_length_le10 (k := 20) (by decide) h
  show (Str.ofString (toString i)).length ≤ 21
  rw [PySem.ofString_length]; exact e
theorem FourOk.len {f : Four} (ok : FourOk f) : (dFour f).shown.length ≤ 14000 := by
  have e18 : ((10 : Int) ^ 19) = 10000000000000000000 := by decide
  have a1 := ok.p0
  have a2 := ok.h0
  rw [e18] at a1 a2
  have s1 := shown_int20 (i := f.place) (by omega)
  have s2 := shown_int20 (i := f.hand) (by omega)
  have n1 : ∀ x ∈ f.drafts, (dN x).shown.length ≤ 171 := fun x hx => by
    have b := ok.d0 x hx
    rw [e18] at b
    have l1 := shown_nm b.1
    have l2 := shown_int20 (i := x.2) (by omega)
    have := shown_tuple_le (B := 82) (ds := [.str x.1, .int x.2]) (fun d hd => by
      simp only [List.mem_cons, List.not_mem_nil, or_false] at hd
      rcases hd with rfl | rfl <;> omega)
    simp only [List.length_cons, List.length_nil] at this
    unfold dN
    omega
  have s3 := shown_tuple_le (B := 171) (ds := f.drafts.map dN) (fun d hd => by
    obtain ⟨x, hx, rfl⟩ := List.mem_map.mp hd
    exact n1 x hx)
  have s4 := shown_tuple_le (B := 82) (ds := f.called.map PyData.str) (fun d hd => by
    obtain ⟨x, hx, rfl⟩ := List.mem_map.mp hd
    exact shown_nm (ok.c0 x hx))
  rw [List.length_map] at s3 s4
  have c1 := ok.dl
  have c2 := ok.cl
  have s5 := shown_tuple_le (B := 3463) (ds := [.int f.place, .int f.hand, .tuple (f.drafts.map dN), .tuple (f.called.map .str)]) (fun d hd => by
    simp only [List.mem_cons, List.not_mem_nil, or_false] at hd
    rcases hd with rfl | rfl | rfl | rfl <;> omega)
  simp only [List.length_cons, List.length_nil] at s5
  unfold dFour
  omega
theorem w_reprFour {f : Four} {F : D → Prop} (ok : FourOk f) (h : F (.str (dFour f).shown)) : oRepr [fourD f] F :=
  w_repr (pd_four f) ok.show (Nat.le_trans FourOk.dep (by decide)) (Nat.le_trans ok.len (by rw [sizeLine_eq]; decide)) h
theorem w_eqFour {f g : Four} {F : D → Prop} (hf : FourOk f) (hg : FourOk g) (h : F (.bl (decide (f = g)))) : oEqD false (fourD f) (fourD g) F :=
  ⟨_, _, pd_four f, pd_four g, hf.lay, hg.lay, by
    show F (.bl (PyData.eqv (dFour f) (dFour g)))
    rw [eqv_four]
    exact h⟩
/-! ### what the defs promise -/
def pKey (C : Addr) : PSp := fun ds Q => ∃ a b c d, ds = [lifeD C a b c d] ∧ Q (.val (.tup [a, b, c, d])) none
def pEqL (C : Addr) : PSp := fun ds Q => (∃ f g, ds = [lifeF C f, lifeF C g] ∧ FourOk f ∧ FourOk g ∧ Q (.val (.bl (decide (f = g)))) none) ∨ ∃ f y, ds = [lifeF C f, y] ∧ othD y = true ∧ Q (.val (.bl false)) none
def pMade (C : Addr) : PSp := fun ds Q => ∃ f, ds = [fourD f] ∧ Q (.val (lifeF C f)) none
/-- two things, told alike just where due -/
def pAlike (C : Addr) : PSp := fun ds Q => ∃ f x due, ds = [lifeF C f, x, .bl due] ∧ FourOk f ∧ ((∃ g, x = lifeF C g ∧ FourOk g ∧ decide (f = g) = due) ∨ (othD x = true ∧ due = false)) ∧ Q (.val (.bl true)) none
def pFour : PSp := fun ds Q => ds = [potD] ∧ ∀ f, FourOk f → f.place ≤ 12 → f.hand ≤ 10 ^ 18 → -(10 ^ 18) ≤ f.hand → (∀ p ∈ f.drafts, p.2 ≤ 10 ^ 18) → f.drafts.length ≤ 8 → f.called.length ≤ 7 → f.called.Nodup → Q (.val (fourD f)) none
/-- fours unlike the given one -/
def pOthers : PSp := fun ds Q => ∃ f, ds = [fourD f] ∧ FourOk f ∧ f.place ≤ 12 ∧ f.hand ≤ 10 ^ 18 ∧ -(10 ^ 18) ≤ f.hand ∧ (∀ p ∈ f.drafts, p.2 ≤ 10 ^ 18) ∧ f.drafts.length ≤ 8 ∧ f.called.length ≤ 7 ∧ f.called.Nodup ∧ ∀ gs : List Four, (∀ g ∈ gs, FourOk g ∧ g ≠ f) → gs.length ≤ 10 → Q (.val (.lst (gs.map fourD))) none
theorem li_isiC {ta : TA} {pa : QA} (ic : LifeC K C) (ha : LiA X ta pa) (hK : X.K = K := by rfl) : LiE X (tCB (rIsi K) ta) (qCB (oIsiC C) pa) := li_cb (lc_isiC' ic hK) ha
theorem w_life {m : Str} {a b c d : D} {F : D → Prop} (e : (m == ("place" : Str)) = false ∧ (m == ("hand" : Str)) = false ∧ (m == ("drafts" : Str)) = false ∧ (m == ("called" : Str)) = false) (h : F (lifeD C a b c d)) : ∃ d', Rv.val (lifeD C a b c d) = .val d' ∧ IsI K C m d' ∧ F d' := by
  refine ⟨_, rfl, ?_, h⟩
  rintro G v ⟨x, dx, vs, rfl, hx, _, v1, r1, rfl, _, v2, r2, rfl, _, v3, r3, rfl, _, v4, r4, rfl, _, er⟩
  obtain rfl : r4 = [] := er
  refine ⟨x, dx, _, rfl, hx, ?_⟩
  show List.lookup m [(("place" : Str), v1), ("hand", v2), ("drafts", v3), ("called", v4)] = none
  simp only [List.lookup_cons, e.1, e.2.1, e.2.2.1, e.2.2.2, List.lookup_nil]
theorem w_key {a b c d : D} {Q : Rs → Option (List D) → Prop} (h : Q (.val (.tup [a, b, c, d])) none) : pKey C [lifeD C a b c d] Q := ⟨a, b, c, d, rfl, h⟩
abbrev DueO (C : Addr) (f : Four) (x : D) (due : Bool) : Prop := (∃ g, x = lifeF C g ∧ FourOk g ∧ decide (f = g) = due) ∨ (othD x = true ∧ due = false)
theorem own_a {neg c1 c2 : Bool} {f : Four} {x : D} {due : Bool} {Q : Bool → Prop} (hf : FourOk f) (o : DueO C f x due) (h : Q (if neg then !due else due)) : oOwn C neg (pEqL C) c1 c2 (lifeF C f) x Q := by
  rcases o with ⟨g, rfl, hg, e⟩ | ⟨o, rfl⟩
  · refine w_eqOwn1 (Or.inl ⟨_, _, rfl⟩) (Or.inl ⟨f, g, rfl, hf, hg, Or.inr rfl, _, rfl, ?_⟩)
    rw [e]
    exact h
  · exact w_eqOwn1 (Or.inr o) (Or.inr ⟨f, x, rfl, o, Or.inr rfl, _, rfl, h⟩)
theorem own_b {neg c1 c2 : Bool} {f : Four} {x : D} {due : Bool} {Q : Bool → Prop} (hf : FourOk f) (o : DueO C f x due) (h : Q (if neg then !due else due)) : oOwn C neg (pEqL C) c1 c2 x (lifeF C f) Q := by
  rcases o with ⟨g, rfl, hg, e⟩ | ⟨o, rfl⟩
  · refine w_eqOwn1 (Or.inl ⟨_, _, rfl⟩) (Or.inl ⟨g, f, rfl, hg, hf, Or.inr rfl, _, rfl, ?_⟩)
    have e2 : decide (g = f) = due := by
      rw [← e]
      exact decide_eq_decide.mpr eq_comm
    rw [e2]
    exact h
  · exact w_eqOwn2 o (Or.inr ⟨f, x, rfl, o, Or.inr rfl, _, rfl, h⟩)
theorem w_reprB4 {a b c d : Bool} {F : D → Prop} (h : F (.str (PyData.list [.bool a, .bool b, .bool c, .bool d]).shown)) : oRepr [.lst [.bl a, .bl b, .bl c, .bl d]] F := by
  refine w_repr (x := .list [.bool a, .bool b, .bool c, .bool d]) rfl ?_ ?_ ?_ h
  · cases a <;> cases b <;> cases c <;> cases d <;> rfl
  · cases a <;> cases b <;> cases c <;> cases d <;> decide
  · have e : ∀ z : Bool, (PyData.bool z).shown.length ≤ 5 := by decide
    have := shown_listG_le (B := 5) (ds := [.bool a, .bool b, .bool c, .bool d]) (fun x hx => by
      simp only [List.mem_cons, List.not_mem_nil, or_false] at hx
      rcases hx with rfl | rfl | rfl | rfl <;> exact e _)
    simp only [List.length_cons, List.length_nil] at this
    rw [sizeLine_eq]
    omega
/-! ### x, y, z = v, w, [..] -/
def tTupVVN (K : PySem.W.Frag) (i j k : Nat) (t u v : TE) : TS := tAsg (tTup (tCons t (tCons u (tCons v tNil)))) (gTup K 3 (gCons (gName i) (gCons (gName j) (gCons (gName k) gNil))))
theorem toTVVN {Y : Cx} {st : Stmt} {i j k : Nat} {t u v : TE} (h : PS Y st (tAsg (tTup (tCons t (tCons u (tCons v tNil)))) (gTup K 3 (gCons (gName i) (gCons (gName j) (gCons (gName k) gNil)))))) : PS Y st (tTupVVN K i j k t u v) := h
def sParVVN (i j k : Nat) (p q : QD) (r : QN) : QS := fun P ρ => p ρ fun d ρ1 => q ρ1 fun e ρ2 => r ρ2 fun es ρ3 => P.nx (((ρ3.set i (.val d)).set j (.val e)).set k (.own true es))
theorem ls_tupVVN {i j k : Nat} {t u v : TE} {p q : QD} {r : QN} (h1 : LiD X t p) (h2 : LiD X u q) (h3 : LiN X v r) (hK : X.K = K := by rfl) : LiS X (tTupVVN K i j k t u v) (sParVVN i j k p q r) := by
  subst hK
  intro c hX σ F H ρ D P R a h
  refine h1 c hX σ F H ρ _ _ R ?_ h
  intro d ρ1 v F1 H1 R1 s1 rv q1
  refine h2 c hX σ F1 H1 ρ1 _ _ R1 ?_ q1
  intro e ρ2 w F2 H2 R2 s2 rw2 q2
  refine h3 c hX σ F2 H2 ρ2 _ _ R2 ?_ q2
  intro es ρ3 p3 F3 H3 R3 s3 n3 q3
  refine ⟨(by show 3 ≤ sizeLine; decide), fun T nT => ?_⟩
  refine ⟨T, _, rfl, sqT_of upd_same, rfl, v, _, rfl, w, _, rfl, .ref p3, _, rfl, rfl, ?_⟩
  obtain ⟨us, hp3, hr3⟩ := n3.l
  have R4 := R3.allocH (o := .tup [v, w, .ref p3]) nT trivial
  have R5 := R4.setVal (i := i) ((rv.mono s2).mono s3)
  have R6 := R5.setVal (i := j) (rw2.mono s3)
  have R7 := R6.setOwn (i := k) (old_upd nT hp3) n3.f hr3 n3.n n3.b2 (nob_set (nob_set n3.o (Or.inr ⟨d, rfl⟩) R3.len) (Or.inr ⟨e, rfl⟩) R5.len)
  exact a.nx _ F3 _ _ R7 (tr s1 (tr s2 s3)) q3
theorem w_parVVN {ρ : PSt} {P : PEnds} {i j k : Nat} {p q : QD} {r : QN} (h : p ρ fun d ρ1 => q ρ1 fun e ρ2 => r ρ2 fun es ρ3 => P.nx (((ρ3.set i (.val d)).set j (.val e)).set k (.own true es))) : sParVVN i j k p q r P ρ := h
theorem io_1 {a : D} {i : Nat} : ∀ (k : Nat) (r : Rv), [Rv.val a, Rv.cell i][k]? = some r → k ≠ 1 → isCell r = false
  | 0, r, h, _ => by
    obtain rfl : Rv.val a = r := Option.some.inj h
    rfl
  | 1, r, h, n => absurd rfl n
  | k + 2, r, h, _ => nomatch h
end
end L3
/-! fours unlike a given one. -/
namespace L3
open PySem PySem.Spec PyProof.Rows L2 TB LamX OwnE
theorem ok_place {f : Four} (ok : FourOk f) (hp : f.place ≤ 12) : FourOk { f with place := f.place + 1 } := by
  have e19 : ((10 : Int) ^ 19) = 10000000000000000000 := by decide
  exact ⟨⟨by have := ok.p0.1; show 0 ≤ f.place + 1; omega, by rw [e19]; show f.place + 1 ≤ _; omega⟩, ok.h0, ok.d0, ok.c0, ok.dl, ok.cl⟩
theorem ok_hand {f : Four} {h : Int} (ok : FourOk f) (hb : -(10 ^ 19) ≤ h ∧ h ≤ 10 ^ 19) : FourOk { f with hand := h } := ⟨ok.p0, hb, ok.d0, ok.c0, ok.dl, ok.cl⟩
theorem ok_drafts {f : Four} {l : List (Str × Int)} (ok : FourOk f) (hl : ∀ p ∈ l, Nm p.1 ∧ -(10 ^ 19) ≤ p.2 ∧ p.2 ≤ 10 ^ 19) (n : l.length ≤ 20) : FourOk { f with drafts := l } := ⟨ok.p0, ok.h0, hl, ok.c0, n, ok.cl⟩
theorem ok_called {f : Four} {l : List Str} (ok : FourOk f) (hl : ∀ z ∈ l, Nm z) (n : l.length ≤ 20) : FourOk { f with called := l } := ⟨ok.p0, ok.h0, ok.d0, hl, ok.dl, n⟩
theorem ne_place {f : Four} {x : Int} (h : x ≠ f.place) : { f with place := x } ≠ f := fun e => h (congrArg Four.place e)
theorem ne_hand {f : Four} {x : Int} (h : x ≠ f.hand) : { f with hand := x } ≠ f := fun e => h (congrArg Four.hand e)
theorem ne_drafts {f : Four} {x : List (Str × Int)} (h : x ≠ f.drafts) : { f with drafts := x } ≠ f := fun e => h (congrArg Four.drafts e)
theorem ne_called {f : Four} {x : List Str} (h : x ≠ f.called) : { f with called := x } ≠ f := fun e => h (congrArg Four.called e)
theorem cut_last {α : Type} (g : α → D) (l : List α) : cutD (l.map g) none (some (-1)) = l.dropLast.map g := by
  unfold cutD
  have e1 : HT.sIx (l.map g).length 0 none = 0 := rfl
  have e2 : HT.sIx (l.map g).length (l.map g).length (some (-1)) = l.length - 1 := by
    simp only [HT.sIx, List.length_map]
    rw [if_pos (by decide)]
    omega
  rw [e1, e2, List.drop_zero, Nat.sub_zero, List.dropLast_eq_take, List.map_take]
theorem at_last {α : Type} (g : α → D) {l : List α} (h : l ≠ []) : atI (l.map g) (-1) = some (g (l.getLast h)) := by
  have hl : 0 < l.length := List.length_pos_iff.mpr h
  have e : ixN (l.map g).length (-1) = some (l.length - 1) := by
    simp only [ixN, List.length_map]
    rw [if_neg (by decide), if_pos (by omega)]
    congr 1
    omega
  unfold atI
  rw [e]
  show (l.map g)[l.length - 1]? = _
  rw [List.getElem?_map, List.getElem?_eq_getElem (by omega)]
  show some (g _) = _
  rw [List.getLast_eq_getElem]
theorem rev_ne {l : List Str} (nd : l.Nodup) (h : 1 < l.length) : l.reverse ≠ l := by
  intro e
  have h0 : l.reverse[0]? = l[0]? := by rw [e]
  rw [List.getElem?_reverse (by omega)] at h0
  have a1 : l[l.length - 1 - 0]? = some (l[l.length - 1]'(by omega)) := by
    rw [Nat.sub_zero]
    exact List.getElem?_eq_getElem _
  have a2 : l[0]? = some (l[0]'(by omega)) := List.getElem?_eq_getElem _
  rw [a1, a2] at h0
  have h1 := List.pairwise_iff_getElem.mp nd 0 (l.length - 1) (by omega) (by omega) (by omega)
  exact h1 (Option.some.inj h0).symm
theorem dropLast_ne {α : Type} {l : List α} (h : l ≠ []) : l.dropLast ≠ l := by
  intro e
  have := congrArg List.length e
  rw [List.length_dropLast] at this
  have hl : 0 < l.length := List.length_pos_iff.mpr h
  omega
theorem sh_notes {l : List (Str × Int)} (h : ∀ p ∈ l, Nm p.1) : SeqAt.shaped (.tuple (l.map dN)) = true := by
  have h1 : ∀ l : List (Str × Int), (∀ p ∈ l, Nm p.1) → PyData.canLayAll0 (l.map dN) = true := by
    intro l
    induction l with
    | nil => intro _; simp [PyData.canLayAll0]
    | cons z r ih =>
      intro h
      simp [PyData.canLayAll0, PyData.canLay0, dN, strOk_nm (h z List.mem_cons_self), ih fun y hy => h y (List.mem_cons_of_mem _ hy)]
  have d1 := depthAll_map (f := dN) (n := 2) (l := l) (fun x _ => by simp [dN, PyData.depth, PyData.depthAll])
  show (PyData.canLay0 (.tuple (l.map dN)) && decide ((PyData.tuple (l.map dN)).depth ≤ 64)) = true
  rw [Bool.and_eq_true]
  refine ⟨by simp only [PyData.canLay0]; exact h1 l h, decide_eq_true ?_⟩
  simp only [PyData.depth]
  omega
theorem sh_tupS {l : List Str} (h : ∀ p ∈ l, Nm p) : SeqAt.shaped (.tuple (l.map .str)) = true := by
  have h2 : ∀ l : List Str, (∀ p ∈ l, Nm p) → PyData.canLayAll0 (l.map PyData.str) = true := by
    intro l
    induction l with
    | nil => intro _; simp [PyData.canLayAll0]
    | cons z r ih =>
      intro h
      simp [PyData.canLayAll0, PyData.canLay0, strOk_nm (h z List.mem_cons_self), ih fun y hy => h y (List.mem_cons_of_mem _ hy)]
  have d1 := depthAll_map (f := PyData.str) (n := 1) (l := l) (fun x _ => by simp [PyData.depth])
  show (PyData.canLay0 (.tuple (l.map .str)) && decide ((PyData.tuple (l.map .str)).depth ≤ 64)) = true
  rw [Bool.and_eq_true]
  refine ⟨by simp only [PyData.canLay0]; exact h2 l h, decide_eq_true ?_⟩
  simp only [PyData.depth]
  omega
theorem pd_notes (l : List (Str × Int)) : pd (.tup (l.map nD)) = some (.tuple (l.map dN)) := by
  show (pdL (l.map nD)).map PyData.tuple = _
  rw [pdL_map (g := dN) (fun _ => rfl)]
  rfl
theorem pd_tupS (l : List Str) : pd (.tup (strsD l)) = some (.tuple (l.map .str)) := by
  show (pdL (l.map D.str)).map PyData.tuple = _
  rw [pdL_map (g := PyData.str) (fun _ => rfl)]
  rfl
theorem w_eqNilN {l : List (Str × Int)} {F : D → Prop} (h : ∀ p ∈ l, Nm p.1) (q : F (.bl (decide (l = [])))) : oEqD false (.tup (l.map nD)) (.tup []) F := by
  refine ⟨_, _, pd_notes l, pd_notes [], sh_notes h, sh_notes (fun _ z => nomatch z), ?_⟩
  have e1 : PyData.eqv (.tuple (l.map dN)) (.tuple (([] : List (Str × Int)).map dN)) = decide (l = []) := by
    rw [PyData.eqv]
    exact eqvAll_map (g := dN) eqv_n _ _
  show F (.bl (PyData.eqv (.tuple (l.map dN)) (.tuple (([] : List (Str × Int)).map dN))))
  rw [e1]
  exact q
theorem w_neNilC {l : List Str} {F : D → Prop} (h : ∀ p ∈ l, Nm p) (q : F (.bl (!decide (l = [])))) : oEqD true (.tup (strsD l)) (.tup []) F := by
  refine ⟨_, _, pd_tupS l, pd_tupS [], sh_tupS h, sh_tupS (fun _ z => nomatch z), ?_⟩
  have e1 : PyData.eqv (.tuple (l.map .str)) (.tuple (([] : List Str).map .str)) = decide (l = []) := by
    rw [PyData.eqv]
    exact eqvAll_map (g := PyData.str) eqv_str _ _
  show F (.bl (!PyData.eqv (.tuple (l.map .str)) (.tuple (([] : List Str).map .str))))
  rw [e1]
  exact q
/-- the first three -/
def three (f : Four) : List Four := [{ f with place := f.place + 1 }, { f with hand := f.hand + 1 }, { f with hand := -f.hand - 1 }]
theorem three_ok {f : Four} (ok : FourOk f) (hp : f.place ≤ 12) (h1 : f.hand ≤ 1000000000000000000) (h2 : -1000000000000000000 ≤ f.hand) : ∀ g ∈ three f, FourOk g ∧ g ≠ f := by
  have e19 : ((10 : Int) ^ 19) = 10000000000000000000 := by decide
  intro g hg
  simp only [three, List.mem_cons, List.not_mem_nil, or_false] at hg
  rcases hg with rfl | rfl | rfl
  · exact ⟨ok_place ok hp, ne_place (by omega)⟩
  · exact ⟨ok_hand ok (by rw [e19]; omega), ne_hand (by omega)⟩
  · exact ⟨ok_hand ok (by rw [e19]; omega), ne_hand (by omega)⟩
theorem all_app {P : Four → Prop} {l m : List Four} (h : ∀ g ∈ l, P g) (k : ∀ g ∈ m, P g) : ∀ g ∈ l ++ m, P g := fun g hg => (List.mem_append.mp hg).elim (h g) (k g)
theorem all_one {P : Four → Prop} {a : Four} (h : P a) : ∀ g ∈ [a], P g := fun g hg => by rw [List.mem_singleton.mp hg]; exact h
def pRight21 : PSp := fun ds Q => ∃ f, ds = [fourD f] ∧ FourOk f ∧ f.place ≤ 12 ∧ f.hand ≤ 10 ^ 18 ∧ -(10 ^ 18) ≤ f.hand ∧ (∀ p ∈ f.drafts, p.2 ≤ 10 ^ 18) ∧ f.drafts.length ≤ 8 ∧ f.called.length ≤ 7 ∧ f.called.Nodup ∧ Q (.val (.bl true)) none
open C8 (Mak) in
/-- C() with defaults alone -/
theorem pe_mk0 {X : Cx} {k j : Nat} {x : Str} {C : Addr} {sp : Sp} {dvs : List V} {p pos : Pos} (c : Mak X.prog X.w X.K X.mg X.base k x C sp dvs) (hr : Room j X.A) (hk : k + 1 ≤ j) (hg : Gl X x) (hdb : (x == ("__debug__" : Str)) = false := by decide) : PE X (.Call (.Name x p) [] [] pos) (tMake C sp dvs C8.E0 tNil) := by
  obtain ⟨f, fd, ps, ds, M, F, hm, b, d⟩ := c.ex
  exact pe_make0 M F (hr.mono hk) hg hm b d C8.pass0 hdb
theorem pd_fours (l : List Four) : pd (.lst (l.map fourD)) = some (.list (l.map dFour)) := by
  show (pdL (l.map fourD)).map PyData.list = _
  rw [pdL_map (g := dFour) pd_four]
  rfl
theorem w_reprFours {l : List Four} {F : D → Prop} (h : ∀ f ∈ l, FourOk f) (n : l.length ≤ 10) (q : F (.str (PyData.list (l.map dFour)).shown)) : oRepr [.lst (l.map fourD)] F := by
  refine w_repr (pd_fours l) ?_ ?_ ?_ q
  · simp only [PyData.showable]
    exact showAll_map fun x hx => (h x hx).show
  · have d1 := depthAll_map (f := dFour) (n := 5) (l := l) (fun x _ => FourOk.dep)
    simp only [PyData.depth]
    omega
  · have s1 := shown_list_le (f := dFour) (B := 14000) (l := l) (fun x hx => (h x hx).len)
    rw [sizeLine_eq]
    have s2 : l.length * 14000 ≤ 10 * 14000 := Nat.mul_le_mul_right _ n
    omega
/-- five with one value each -/
def five (f : Four) : List Four := [⟨0, 0, [], []⟩, ⟨f.place, 0, [], []⟩, ⟨0, f.hand, [], []⟩, ⟨0, 0, f.drafts, []⟩, ⟨0, 0, [], f.called⟩]
theorem five_ok {f : Four} (ok : FourOk f) : ∀ g ∈ five f, FourOk g := by
  have z : (0 : Int) ≤ 0 ∧ (0 : Int) ≤ 10 ^ 19 := by decide
  have z2 : -(10 ^ 19) ≤ (0 : Int) ∧ (0 : Int) ≤ 10 ^ 19 := by decide
  intro g hg
  simp only [five, List.mem_cons, List.not_mem_nil, or_false] at hg
  rcases hg with rfl | rfl | rfl | rfl | rfl
  · exact ⟨z, z2, (fun _ x => nomatch x), (fun _ x => nomatch x), by decide, by decide⟩
  · exact ⟨ok.p0, z2, (fun _ x => nomatch x), (fun _ x => nomatch x), by show 0 ≤ 20; decide, by show 0 ≤ 20; decide⟩
  · exact ⟨z, ok.h0, (fun _ x => nomatch x), (fun _ x => nomatch x), by show 0 ≤ 20; decide, by show 0 ≤ 20; decide⟩
  · exact ⟨z, z2, ok.d0, (fun _ x => nomatch x), ok.dl, by show 0 ≤ 20; decide⟩
  · exact ⟨z, z2, (fun _ x => nomatch x), ok.c0, by show 0 ≤ 20; decide, ok.cl⟩
end L3
/-! Ends of laws in plain data: names of arguments, class facts as truths, promises used from below. -/
namespace L3
open PySem PySem.Spec PyProof.Rows L2 TB LamX OwnE
open C8 (Cal Met Mak)
/-- positional values, then each one of the keywords' values or of those that lack -/
def gS {α : Type} (sel : List (Bool × Nat)) (us mv ws : List α) : List α := us ++ sel.filterMap fun p => if p.1 then ws[p.2]? else mv[p.2]?
theorem vals_get : ∀ {vs : List V} {us : List Value}, Vals vs us → ∀ i : Nat, (vs[i]? = none ∧ us[i]? = none) ∨ ∃ v u, vs[i]? = some v ∧ us[i]? = some u ∧ RelV v u
  | _, _, .nil, i => Or.inl ⟨rfl, rfl⟩
  | _, _, .cons h t, 0 => Or.inr ⟨_, _, rfl, rfl, h⟩
  | _, _, .cons h t, i + 1 => by
    rcases vals_get t i with ⟨a, b⟩ | ⟨v, u, a, b, c⟩
    · exact Or.inl ⟨by simpa using a, by simpa using b⟩
    · exact Or.inr ⟨v, u, by simpa using a, by simpa using b, c⟩
theorem vals_sel {mz zs : List V} {mv ws : List Value} (h2 : Vals mz mv) (h3 : Vals zs ws) : ∀ sel : List (Bool × Nat), Vals (sel.filterMap fun p => if p.1 then zs[p.2]? else mz[p.2]?) (sel.filterMap fun p => if p.1 then ws[p.2]? else mv[p.2]?)
  | [] => .nil
  | (true, i) :: sel => by
    rcases vals_get h3 i with ⟨a, b⟩ | ⟨v, u, a, b, c⟩
    · rw [List.filterMap_cons_none (by simpa using a), List.filterMap_cons_none (by simpa using b)]
      exact vals_sel h2 h3 sel
    · rw [List.filterMap_cons_some (b := v) (by simpa using a), List.filterMap_cons_some (b := u) (by simpa using b)]
      exact .cons c (vals_sel h2 h3 sel)
  | (false, i) :: sel => by
    rcases vals_get h2 i with ⟨a, b⟩ | ⟨v, u, a, b, c⟩
    · rw [List.filterMap_cons_none (by simpa using a), List.filterMap_cons_none (by simpa using b)]
      exact vals_sel h2 h3 sel
    · rw [List.filterMap_cons_some (b := v) (by simpa using a), List.filterMap_cons_some (b := u) (by simpa using b)]
      exact .cons c (vals_sel h2 h3 sel)
theorem gS_rel {sel : List (Bool × Nat)} {vs mz zs : List V} {us mv ws : List Value} (h1 : Vals vs us) (h2 : Vals mz mv) (h3 : Vals zs ws) : Vals (gS sel vs mz zs) (gS sel us mv ws) := h1.append (vals_sel h2 h3 sel)
section
variable {K : PySem.W.Frag} {d c : Addr}
theorem rp_nilT {F : Hp} (hd : ∀ H, SqT K H d []) : Rp K F (.tup []) (.ref d) := ⟨d, [], rfl, hd F, rfl⟩
theorem glif_p (hd : ∀ H, SqT K H d []) (hc : ∀ H, SqT K H c []) : GLif K 1 (fun vs zs => gS [(true, 0), (false, 0), (false, 1), (false, 2)] vs [.int 0, .ref d, .ref c] zs) g3p := by
  refine ⟨fun ds e h => ?_, fun F x ds zs a b c d r h => ?_⟩
  · match ds, h with
    | [_], _ => rfl
  · match ds, h with
    | [y], h =>
      cases h
      obtain ⟨v, rfl, q⟩ := rpl1 r
      exact ⟨_, _, _, _, rfl, q, rfl, rp_nilT hd, rp_nilT hc⟩
theorem glif_h (hd : ∀ H, SqT K H d []) (hc : ∀ H, SqT K H c []) : GLif K 1 (fun vs zs => gS [(false, 0), (true, 0), (false, 1), (false, 2)] vs [.int 0, .ref d, .ref c] zs) g3h := by
  refine ⟨fun ds e h => ?_, fun F x ds zs a b c d r h => ?_⟩
  · match ds, h with
    | [_], _ => rfl
  · match ds, h with
    | [y], h =>
      cases h
      obtain ⟨v, rfl, q⟩ := rpl1 r
      exact ⟨_, _, _, _, rfl, rfl, q, rp_nilT hd, rp_nilT hc⟩
theorem glif_d (hc : ∀ H, SqT K H c []) : GLif K 1 (fun vs zs => gS [(false, 0), (false, 1), (true, 0), (false, 2)] vs [.int 0, .int 0, .ref c] zs) g3d := by
  refine ⟨fun ds e h => ?_, fun F x ds zs a b c d r h => ?_⟩
  · match ds, h with
    | [_], _ => rfl
  · match ds, h with
    | [y], h =>
      cases h
      obtain ⟨v, rfl, q⟩ := rpl1 r
      exact ⟨_, _, _, _, rfl, rfl, rfl, q, rp_nilT hc⟩
theorem glif_c (hd : ∀ H, SqT K H d []) : GLif K 1 (fun vs zs => gS [(false, 0), (false, 1), (false, 2), (true, 0)] vs [.int 0, .int 0, .ref d] zs) g3c := by
  refine ⟨fun ds e h => ?_, fun F x ds zs a b c d r h => ?_⟩
  · match ds, h with
    | [_], _ => rfl
  · match ds, h with
    | [y], h =>
      cases h
      obtain ⟨v, rfl, q⟩ := rpl1 r
      exact ⟨_, _, _, _, rfl, rfl, rfl, rp_nilT hd, q⟩
theorem rpl4 {F : Hp} {vs : List V} {d d2 d3 d4 : D} (h : RpL K F [d, d2, d3, d4] vs) : ∃ v v2 v3 v4, vs = [v, v2, v3, v4] ∧ Rp K F d v ∧ Rp K F d2 v2 ∧ Rp K F d3 v3 ∧ Rp K F d4 v4 := by
  obtain ⟨v, t, rfl, q, h⟩ := h
  obtain ⟨v2, v3, v4, rfl, q2, q3, q4⟩ := rpl3 h
  exact ⟨v, v2, v3, v4, rfl, q, q2, q3, q4⟩
theorem glif_chpd : GLif K 4 (fun vs zs => gS [(true, 2), (true, 1), (true, 3), (true, 0)] vs [] zs) g3chpd := by
  refine ⟨fun ds e h => ?_, fun F x ds zs a b c d r h => ?_⟩
  · match ds, h with
    | [_, _, _, _], _ => rfl
  · match ds, h with
    | [_, _, _, _], h =>
      cases h
      obtain ⟨v, v2, v3, v4, rfl, q, q2, q3, q4⟩ := rpl4 r
      exact ⟨_, _, _, _, rfl, q3, q2, q4, q⟩
theorem glif_phdc : GLif K 4 (fun vs zs => gS [(true, 0), (true, 1), (true, 2), (true, 3)] vs [] zs) g3phdc := by
  refine ⟨fun ds e h => ?_, fun F x ds zs a b c d r h => ?_⟩
  · match ds, h with
    | [_, _, _, _], _ => rfl
  · match ds, h with
    | [_, _, _, _], h =>
      cases h
      obtain ⟨v, v2, v3, v4, rfl, q, q2, q3, q4⟩ := rpl4 r
      exact ⟨_, _, _, _, rfl, q, q2, q3, q4⟩
theorem glif_0 (hd : ∀ H, SqT K H d []) (hc : ∀ H, SqT K H c []) : GLif0 K (.int 0) (.int 0) (.ref d) (.ref c) := ⟨rfl, rfl, fun _ => rp_nilT hd, fun _ => rp_nilT hc⟩
end
theorem m4_p {α : Type} {a b c d q : α} (h : q ∈ [b, c, d]) : q ∈ [a, b, c, d] := by
  simp only [List.mem_cons, List.not_mem_nil, or_false] at h ⊢
  rcases h with h | h | h <;> simp [h]
theorem m4_h {α : Type} {a b c d q : α} (h : q ∈ [a, c, d]) : q ∈ [a, b, c, d] := by
  simp only [List.mem_cons, List.not_mem_nil, or_false] at h ⊢
  rcases h with h | h | h <;> simp [h]
theorem m4_d {α : Type} {a b c d q : α} (h : q ∈ [a, b, d]) : q ∈ [a, b, c, d] := by
  simp only [List.mem_cons, List.not_mem_nil, or_false] at h ⊢
  rcases h with h | h | h <;> simp [h]
theorem m4_c {α : Type} {a b c d q : α} (h : q ∈ [a, b, c]) : q ∈ [a, b, c, d] := by
  simp only [List.mem_cons, List.not_mem_nil, or_false] at h ⊢
  rcases h with h | h | h <;> simp [h]
/-! ### class facts as truths -/
def eqClsB (K : PySem.W.Frag) (C : Addr) : Bool := He.eqO (PySem.W.findIn K (.ref C) "__ne__") (some (some (.builtin "object.__ne__"))) && (decide (PySem.W.subIn K (.ref C) (.type "object") = some true) && (tys.all (fun T => decide (PySem.W.subIn K (.ref C) (.type T) = some false)) && tys.all (fun T => PySem.W.notFirst K C (.type T))))
theorem eqCls_of {K : PySem.W.Frag} {C f : Addr} (h : eqClsB K C = true) (e : PySem.W.findIn K (.ref C) "__eq__" = some (some (.ref f))) (fn : PySem.W.isFn K (.ref f) = true) : EqCls K C f := by
  unfold eqClsB at h
  simp only [Bool.and_eq_true, List.all_eq_true, decide_eq_true_eq] at h
  obtain ⟨h1, h2, h3, h4⟩ := h
  exact ⟨e, fn, He.eqO_ok h1, h2, h3, h4⟩
def insCB (K : PySem.W.Frag) (C : Addr) : Bool := He.eqO (PySem.W.findIn K (.ref C) "__class__") (some (some (.builtin "object.__class__"))) && (He.eqO (PySem.W.specialIn K (.builtin "object.__class__") "__get__") (some (some (.builtin "getset_descriptor.__get__"))) && (decide (PySem.W.takesIn K (.builtin "object.__class__") = some true) && (decide (PySem.W.mroIn K C (.type "object") = some true) && (decide (PySem.W.kitOne K (.ref C) (.ref C) = some true) && tys.all (fun T => decide (PySem.W.kitOne K (.type T) (.ref C) = some false))))))
theorem insC_of {K : PySem.W.Frag} {C : Addr} (h : insCB K C = true) (c : Cls K C) : C8.InsC K C ∧ ∀ T ∈ tys, PySem.W.kitOne K (.type T) (.ref C) = some false := by
  unfold insCB at h
  simp only [Bool.and_eq_true, List.all_eq_true, decide_eq_true_eq] at h
  obtain ⟨h1, h2, h3, h4, h5, h6⟩ := h
  exact ⟨⟨c, He.eqO_ok h1, He.eqO_ok h2, h3, h4, h5⟩, h6⟩
/-! ### promises used from below -/
theorem lsp_in {X : Sx} {P : PSp} {vs : List V} {ds : List D} {F H : Hp} {Q : VK} {E : XK} (en : Entry X none F H vs ds) (h : P ds fun r out => ∀ v F' H', Exit X none F H vs F' H' r out v → Q v H') : lsp X none P vs H Q E := ⟨F, ds, _, en, h, fun r out v F' H' ex q => q v F' H' ex⟩
theorem entry1 {K : PySem.W.Frag} {F H : Hp} {v : V} {d : D} (s : Same F H) (nt : NoT H) (r : Rp K F d v) : Entry ⟨K, []⟩ none F H [v] [d] :=
  { sub := s, nt := nt, tab := (fun _ z => nomatch z), tabF := (fun _ z => nomatch z), len := rfl, ioA := (fun _ z => nomatch z),
    arg := by
      intro j d' v' h1 h2 _
      match j, h1, h2 with
      | 0, h1, h2 =>
        cases Option.some.inj h1
        cases Option.some.inj h2
        exact r }
theorem same_new {H : Hp} {p : Addr} {o : HO} (h : H p = none) : Same H (upd H p o) := fun b u e => by
  rw [upd_ne (fun z => by rw [z, h] at e; exact nomatch e)]
  exact e
theorem pot_rp {K : PySem.W.Frag} {p : Addr} : Rp K (upd (fun _ => none) p (PotO p)) potD (.ref p) := ⟨p, rfl, upd_same⟩
theorem pot_same {H : Hp} {p : Addr} (h : H p = some (PotO p)) : Same (upd (fun _ => none) p (PotO p)) H := by
  intro b o e
  by_cases hb : b = p
  · subst hb
    rw [upd_same] at e
    rw [h, e]
  · rw [upd_ne hb] at e
    exact nomatch e
theorem Exit.kept {K : PySem.W.Frag} {F H F' H' : Hp} {vs : List V} {r : Rs} {o : Option (List D)} {v : V} (x : Exit ⟨K, []⟩ none F H vs F' H' r o v) : Same H H' := fun b ob e => x.step.kp b ob e (by intro z; exact nomatch z) (by intro z zz; exact nomatch zz)
theorem Exit.nt' {X : Sx} {F H F' H' : Hp} {vs : List V} {io : Option Nat} {r : Rs} {o : Option (List D)} {v : V} (x : Exit X io F H vs F' H' r o v) : NoT H' := x.step.nt
theorem Exit.sub' {X : Sx} {F H F' H' : Hp} {vs : List V} {io : Option Nat} {r : Rs} {o : Option (List D)} {v : V} (x : Exit X io F H vs F' H' r o v) : Same F' H' := x.step.sub
end L3
namespace TB
open PySem PySem.Spec PyProof.Rows L2
theorem only_noT {H : Hp} (h : Only H) : NoT H := fun a o e => by
  rcases h a with z | ⟨ob, xs, z⟩
  · rw [z] at e
    exact nomatch e
  · rw [z] at e
    cases e
    exact trivial
end TB
/-! Drawn pairs, the law's own search, the law's own lines. -/
namespace L3
open PySem PySem.Spec PyProof.Rows L2 TB LamX OwnE
open C8 (Cal Met Mak)
/-! ### the law's own search -/
structure RIn (qs : List Pr) (a : Str) (fs lf : List Str) (h : Str) (i : Nat) : Prop where
  nd : fs.Nodup
  sub : ∀ z ∈ fs, Rch qs a z
  lft : ∀ z ∈ lf, z = a ∨ z ∈ fs
  hr : h = a ∨ h ∈ fs
  cl : ∀ z, z = a ∨ z ∈ fs → z ∈ lf ∨ z = h ∨ ∀ c, (z, c) ∈ qs → c ∈ fs
  dn : ∀ (j : Nat) c, j < i → qs[j]? = some (h, c) → c ∈ fs
structure RInv (qs : List Pr) (a : Str) (fs lf : List Str) : Prop where
  nd : fs.Nodup
  sub : ∀ z ∈ fs, Rch qs a z
  lft : ∀ z ∈ lf, z = a ∨ z ∈ fs
  cl : ∀ z, z = a ∨ z ∈ fs → z ∈ lf ∨ ∀ c, (z, c) ∈ qs → c ∈ fs
theorem RInv.init {qs : List Pr} {a : Str} : RInv qs a [] [a] :=
  ⟨List.nodup_nil, (fun _ z => nomatch z), fun z h => Or.inl (List.mem_singleton.mp h), fun z h => h.elim (fun e => Or.inl (List.mem_singleton.mpr e)) (fun m => nomatch m)⟩
theorem RInv.done {qs : List Pr} {a : Str} {fs : List Str} (b : RInv qs a fs []) (z : Str) : z ∈ fs ↔ Rch qs a z := by
  refine ⟨b.sub z, fun h => ?_⟩
  induction h with
  | one m => exact (b.cl _ (Or.inl rfl)).elim (fun e => nomatch e) (fun e => e _ m)
  | step _ m ih => exact (b.cl _ (Or.inr ih)).elim (fun e => nomatch e) (fun e => e _ m)
theorem RInv.pop {qs : List Pr} {a h : Str} {fs lf : List Str} (b : RInv qs a fs (lf ++ [h])) : RIn qs a fs lf h 0 := by
  refine ⟨b.nd, b.sub, fun z hz => b.lft z (List.mem_append_left _ hz), b.lft h (List.mem_append_right _ (List.mem_singleton.mpr rfl)), fun z hz => ?_, fun j c hj => absurd hj (Nat.not_lt_zero _)⟩
  rcases b.cl z hz with e | e
  · rcases List.mem_append.mp e with e2 | e2
    · exact Or.inl e2
    · exact Or.inr (Or.inl (List.mem_singleton.mp e2))
  · exact Or.inr (Or.inr e)
theorem RIn.skip {qs : List Pr} {a h l z : Str} {fs lf : List Str} {i : Nat} (b : RIn qs a fs lf h i) (e : qs[i]? = some (l, z)) (n : l ≠ h ∨ z ∈ fs) : RIn qs a fs lf h (i + 1) := by
  refine ⟨b.nd, b.sub, b.lft, b.hr, b.cl, fun j c hj ej => ?_⟩
  by_cases c1 : j < i
  · exact b.dn j c c1 ej
  · obtain rfl : j = i := by omega
    rw [e] at ej
    cases Option.some.inj ej
    exact n.elim (fun n => absurd rfl n) id
theorem RIn.add {qs : List Pr} {a h z : Str} {fs lf : List Str} {i : Nat} (b : RIn qs a fs lf h i) (e : qs[i]? = some (h, z)) (n : z ∉ fs) : RIn qs a (fs ++ [z]) (lf ++ [z]) h (i + 1) := by
  have hm : (h, z) ∈ qs := List.mem_of_getElem? e
  have ap : ∀ {u}, u ∈ fs → u ∈ fs ++ [z] := fun m => List.mem_append_left _ m
  have az : z ∈ fs ++ [z] := List.mem_append_right _ (List.mem_singleton.mpr rfl)
  refine ⟨List.nodup_append.mpr ⟨b.nd, by simp, fun u hu v hv e2 => n (by rw [List.mem_singleton.mp hv] at e2; rw [← e2]; exact hu)⟩, fun u hu => ?_, fun u hu => ?_, b.hr.imp id ap, fun u hu => ?_, fun j c hj ej => ?_⟩
  · rcases List.mem_append.mp hu with m | m
    · exact b.sub u m
    · rw [List.mem_singleton.mp m]
      rcases b.hr with e2 | e2
      · rw [e2] at hm
        exact .one hm
      · exact .step (b.sub h e2) hm
  · rcases List.mem_append.mp hu with m | m
    · exact (b.lft u m).imp id ap
    · rw [List.mem_singleton.mp m]
      exact Or.inr az
  · have hu2 : (u = a ∨ u ∈ fs) ∨ u = z := by
      rcases hu with e2 | e2
      · exact Or.inl (Or.inl e2)
      · rcases List.mem_append.mp e2 with m | m
        · exact Or.inl (Or.inr m)
        · exact Or.inr (List.mem_singleton.mp m)
    rcases hu2 with e2 | e2
    · rcases b.cl u e2 with m | m | m
      · exact Or.inl (List.mem_append_left _ m)
      · exact Or.inr (Or.inl m)
      · exact Or.inr (Or.inr fun c hc => ap (m c hc))
    · rw [e2]
      exact Or.inl (List.mem_append_right _ (List.mem_singleton.mpr rfl))
  · by_cases c1 : j < i
    · exact ap (b.dn j c c1 ej)
    · obtain rfl : j = i := by omega
      rw [e] at ej
      cases Option.some.inj ej
      exact az
theorem RIn.out {qs : List Pr} {a h : Str} {fs lf : List Str} (b : RIn qs a fs lf h qs.length) : RInv qs a fs lf := by
  refine ⟨b.nd, b.sub, b.lft, fun z hz => ?_⟩
  rcases b.cl z hz with e | e | e
  · exact Or.inl e
  · refine Or.inr fun c hc => ?_
    rw [e] at hc
    obtain ⟨j, hj, ej⟩ := List.getElem_of_mem hc
    exact b.dn j c hj (by rw [List.getElem?_eq_getElem hj, ej])
  · exact Or.inr e
theorem rch_in {qs : List Pr} {a z : Str} (h : Rch qs a z) : z ∈ qs.map Prod.snd := by
  cases h with
  | one m => exact List.mem_map.mpr ⟨_, m, rfl⟩
  | step _ m => exact List.mem_map.mpr ⟨_, m, rfl⟩
theorem found_le {qs : List Pr} {a : Str} {fs : List Str} (nd : fs.Nodup) (sub : ∀ z ∈ fs, Rch qs a z) : fs.length ≤ qs.length := by
  have h := nodup_le (m := qs.map Prod.snd) nd fun z hz => rch_in (sub z hz)
  rw [List.length_map] at h
  exact h
theorem found_nm {qs : List Pr} {a : Str} {fs lf : List Str} (na : Nm a) (nq : ∀ p ∈ qs, NmP p) (sub : ∀ z ∈ fs, Rch qs a z) (lft : ∀ z ∈ lf, z = a ∨ z ∈ fs) : ∀ z ∈ lf, Nm z := by
  intro z hz
  rcases lft z hz with e | e
  · rw [e]
    exact na
  · obtain ⟨p, hp, e2⟩ := List.mem_map.mp (rch_in (sub z e))
    rw [← e2]
    exact (nq p hp).2
def pReached : PSp := fun ds Q => ∃ (qs : List Pr) (a : Str), ds = [.lst (qs.map prD), .str a] ∧ qs.length ≤ 300 ∧ Nm a ∧ (∀ p ∈ qs, NmP p) ∧ ∀ fs : List Str, (∀ z, z ∈ fs ↔ Rch qs a z) → Q (.new (strsD fs)) none
def pTwo : PSp := fun ds Q => ∃ ls : List Str, ds = [potD, .lst (strsD ls)] ∧ 1 ≤ ls.length ∧ ls.length ≤ 30 ∧ ∀ a ∈ ls, ∀ b ∈ ls, Q (.val (.tup [.str a, .str b])) none
/-- pairs, one behind another, none of which closes a ring -/
structure LP (ls : List Str) (qs : List Pr) : Prop where
  mem : ∀ p ∈ qs, p.1 ∈ ls ∧ p.2 ∈ ls
  ne : ∀ p ∈ qs, p.1 ≠ p.2
  nd : qs.Nodup
  nr : ∀ (i : Nat) p, qs[i]? = some p → ¬ Rch (qs.take i) p.2 p.1
theorem LP.nil {ls : List Str} : LP ls [] := ⟨(fun _ z => nomatch z), (fun _ z => nomatch z), List.nodup_nil, fun i p e => by simp at e⟩
theorem LP.snoc {ls : List Str} {qs : List Pr} {p : Pr} (h : LP ls qs) (h1 : p.1 ∈ ls) (h2 : p.2 ∈ ls) (n : p.1 ≠ p.2) (nm : p ∉ qs) (nr : ¬ Rch qs p.2 p.1) : LP ls (qs ++ [p]) := by
  refine ⟨fun u hu => ?_, fun u hu => ?_, List.nodup_append.mpr ⟨h.nd, by simp, fun u hu v hv e => nm (by rw [List.mem_singleton.mp hv] at e; rw [← e]; exact hu)⟩, fun i u e => ?_⟩
  · rcases List.mem_append.mp hu with m | m
    · exact h.mem u m
    · rw [List.mem_singleton.mp m]
      exact ⟨h1, h2⟩
  · rcases List.mem_append.mp hu with m | m
    · exact h.ne u m
    · rw [List.mem_singleton.mp m]
      exact n
  · by_cases c : i < qs.length
    · rw [List.getElem?_append_left c] at e
      rw [List.take_append_of_le_length (Nat.le_of_lt c)]
      exact h.nr i u e
    · have hl := (List.getElem?_eq_some_iff.mp e).1
      rw [List.length_append, List.length_singleton] at hl
      obtain rfl : i = qs.length := by omega
      rw [List.getElem?_append_right (Nat.le_refl _), Nat.sub_self] at e
      obtain rfl : p = u := by simpa using e
      rw [List.take_left]
      exact nr
theorem LP.take {ls : List Str} {qs : List Pr} (h : LP ls qs) (n : Nat) : LP ls (qs.take n) := by
  refine ⟨fun u hu => h.mem u (List.mem_of_mem_take hu), fun u hu => h.ne u (List.mem_of_mem_take hu), h.nd.sublist (List.take_sublist _ _), fun i u e => ?_⟩
  have hi : i < n := by
    have := (List.getElem?_eq_some_iff.mp e).1
    rw [List.length_take] at this
    omega
  rw [List.getElem?_take_of_lt hi] at e
  rw [List.take_take, Nat.min_eq_left (Nat.le_of_lt hi)]
  exact h.nr i u e
/-- one pair more: ways that did not go before pass by it -/
theorem rch_snoc {qs : List Pr} {p : Pr} {a b : Str} (h : Rch (qs ++ [p]) a b) : Rch qs a b ∨ ((a = p.1 ∨ Rch qs a p.1) ∧ (b = p.2 ∨ Rch qs p.2 b)) ∨ Rch qs p.2 p.1 := by
  induction h with
  | @one b m =>
    rcases List.mem_append.mp m with m | m
    · exact Or.inl (.one m)
    · have e := List.mem_singleton.mp m
      subst e
      exact Or.inr (Or.inl ⟨Or.inl rfl, Or.inl rfl⟩)
  | @step b c _ m ih =>
    rcases List.mem_append.mp m with m | m
    · rcases ih with ih | ⟨h1, h2⟩ | ih
      · exact Or.inl (.step ih m)
      · refine Or.inr (Or.inl ⟨h1, Or.inr ?_⟩)
        rcases h2 with h2 | h2
        · rw [← h2]
          exact .one m
        · exact .step h2 m
      · exact Or.inr (Or.inr ih)
    · have e := List.mem_singleton.mp m
      subst e
      rcases ih with ih | ⟨h1, h2⟩ | ih
      · exact Or.inr (Or.inl ⟨Or.inr ih, Or.inl rfl⟩)
      · rcases h2 with h2 | h2
        · exact Or.inr (Or.inl ⟨h1, Or.inl rfl⟩)
        · exact Or.inr (Or.inr h2)
      · exact Or.inr (Or.inr ih)
theorem LP.ac {ls : List Str} : ∀ {n : Nat} {qs : List Pr}, qs.length = n → LP ls qs → ∀ a, ¬ Rch qs a a
  | 0, qs, e, h, a, r => by
    rw [List.eq_nil_of_length_eq_zero e] at r
    cases r with
    | one m => exact nomatch m
    | step _ m => exact nomatch m
  | n + 1, qs, e, h, a, r => by
    have hn : n < qs.length := by omega
    have e2 : qs = qs.take n ++ [qs[n]] := by
      rw [List.take_append_getElem hn, ← e, List.take_length]
    have hg : qs[n]? = some qs[n] := List.getElem?_eq_getElem hn
    have nr := h.nr n _ hg
    have ne := h.ne qs[n] (List.getElem_mem hn)
    have ih := LP.ac (n := n) (qs := qs.take n) (by rw [List.length_take]; omega) (h.take n)
    rw [e2] at r
    rcases rch_snoc r with r | ⟨h1, h2⟩ | r
    · exact ih a r
    · rcases h1 with h1 | h1
      · rcases h2 with h2 | h2
        · exact ne (h1.symm.trans h2)
        · rw [h1] at h2
          exact nr h2
      · rcases h2 with h2 | h2
        · rw [h2] at h1
          exact nr h1
        · exact nr (h2.trans h1)
    · exact nr r
theorem Rch.same {ps qs : List Pr} (h : ∀ z, z ∈ ps ↔ z ∈ qs) {a b : Str} : Rch ps a b ↔ Rch qs a b := ⟨fun r => r.mono fun p hp => (h p).mp hp, fun r => r.mono fun p hp => (h p).mpr hp⟩
def pPairsL : PSp := fun ds Q => ∃ (ls : List Str) (m : Int), ds = [potD, .lst (strsD ls), .int m] ∧ 1 ≤ ls.length ∧ ls.length ≤ 30 ∧ (∀ z ∈ ls, Nm z) ∧ 0 ≤ m ∧ m ≤ 100 ∧ ∀ qs, LP ls qs → (qs.length : Int) ≤ m → Q (.new (qs.map prD)) none
def pFreeL : PSp := fun ds Q => ∃ (qs : List Pr) (z : Str) (xs : List Str), ds = [.lst (qs.map prD), .str z, .lst (strsD xs)] ∧ qs.length ≤ 900 ∧ Q (.val (.bl (freeB qs z xs))) none
theorem freeB_same {ps qs : List Pr} (h : ∀ z, z ∈ ps ↔ z ∈ qs) (z : Str) (xs : List Str) : freeB ps z xs = freeB qs z xs := by
  rw [Bool.eq_iff_iff, freeB_iff, freeB_iff]
  exact ⟨fun k a ha => k a ((h _).mpr ha), fun k a ha => k a ((h _).mp ha)⟩
theorem nextL_same {ps qs : List Pr} (h : ∀ z, z ∈ ps ↔ z ∈ qs) (ls fs : List Str) : nextL ls ps fs = nextL ls qs fs := by
  unfold nextL
  refine List.filter_congr fun y _ => ?_
  rw [freeB_same h]
theorem preOk_same {ps qs : List Pr} (h : ∀ z, z ∈ ps ↔ z ∈ qs) {xs : List Str} : PreOk ps xs ↔ PreOk qs xs := by
  unfold PreOk
  constructor
  · intro k i z e
    rw [← freeB_same h]
    exact k i z e
  · intro k i z e
    rw [freeB_same h]
    exact k i z e
theorem GL.uniq {ls : List Str} {ps qs : List Pr} {xs fs gs : List Str} (h : ∀ z, z ∈ ps ↔ z ∈ qs) (g1 : GL ls ps xs fs) (g2 : GL ls qs xs gs) (e : fs.length = gs.length) : fs = gs := by
  have key : ∀ n, n ≤ fs.length → fs.take n = gs.take n := by
    intro n
    induction n with
    | zero => intro _; rfl
    | succ n ih =>
      intro hn
      have ih := ih (by omega)
      have hf : n < fs.length := by omega
      have hg : n < gs.length := by omega
      have e1 := List.take_append_getElem hf
      have e2 := List.take_append_getElem hg
      by_cases c : n < xs.length
      · have p1 := g1.pre
        have p2 := g2.pre
        have t1 : fs.take (n + 1) = xs.take (n + 1) := by
          rw [← p1, List.take_take, Nat.min_eq_left c]
        have t2 : gs.take (n + 1) = xs.take (n + 1) := by
          rw [← p2, List.take_take, Nat.min_eq_left c]
        rw [t1, t2]
      · have l1 := g1.least n fs[n] (by omega) (List.getElem?_eq_getElem hf)
        have l2 := g2.least n gs[n] (by omega) (List.getElem?_eq_getElem hg)
        rw [ih, nextL_same h, l2] at l1
        rw [← e1, ← e2, ih, Option.some.inj l1]
  have k := key fs.length (Nat.le_refl _)
  rw [List.take_length] at k
  rw [e, List.take_length] at k
  exact k
theorem GL.swap {ls : List Str} {ps qs : List Pr} {xs fs : List Str} (h : ∀ z, z ∈ ps ↔ z ∈ qs) (g : GL ls qs xs fs) : GL ls ps xs fs :=
  ⟨g.nd, g.mem, g.pre, g.len, fun i z e => by rw [freeB_same h]; exact g.free i z e, fun i z l e => by rw [nextL_same h]; exact g.least i z l e⟩
theorem next_some2 {ls : List Str} {qs : List Pr} {fs : List Str} (nd0 : ls.Nodup) (mem0 : ∀ p ∈ qs, p.1 ∈ ls) (ac : ∀ a, ¬ Rch qs a a) (nd : fs.Nodup) (mem : ∀ z ∈ fs, z ∈ ls) (hl : fs.length < ls.length) : ∃ z r, nextL ls qs fs = z :: r := by
  have hne : (ls.filter fun y => !decide (y ∈ fs)) ≠ [] := by
    intro e
    have h1 := nodup_le (m := fs) nd0 (fun x hx => by
      have := List.filter_eq_nil_iff.mp e x hx
      simpa using this)
    omega
  obtain ⟨m, hm, h⟩ := least_of ac hne
  obtain ⟨h1, h2⟩ := List.mem_filter.mp hm
  have hin : m ∈ nextL ls qs fs := by
    refine List.mem_filter.mpr ⟨h1, ?_⟩
    rw [Bool.and_eq_true]
    refine ⟨h2, freeB_iff.mpr fun a ha => ?_⟩
    by_cases c : a ∈ fs
    · exact c
    · exact absurd (Rch.one ha) (h a (List.mem_filter.mpr ⟨mem0 _ ha, by simp [c]⟩))
  cases e : nextL ls qs fs with
  | nil => rw [e] at hin; exact nomatch hin
  | cons z r => exact ⟨z, r, rfl⟩
def pDue36 : PSp := fun ds Q => ∃ (ls : List Str) (qs : List Pr) (xs : List Str), ds = [.lst (strsD ls), .lst (qs.map prD), .lst (strsD xs)] ∧ ls.Nodup ∧ ls.length ≤ 30 ∧ (∀ p ∈ qs, p.1 ∈ ls) ∧ qs.length ≤ 900 ∧ (∀ a, ¬ Rch qs a a) ∧ (∀ z ∈ xs, z ∈ ls) ∧ xs.Nodup ∧
  (¬ PreOk qs xs → Q (.val .non) none) ∧ (PreOk qs xs → ∀ line, GL ls qs xs line → line.length = ls.length → Q (.new (strsD line)) none)
def pSome36 : PSp := fun ds Q => ∃ ls line : List Str, ds = [potD, .lst (strsD ls), .lst (strsD line)] ∧ line.Perm ls ∧ ls.Nodup ∧ ls.length ≤ 30 ∧ ∀ xs : List Str, (∀ z ∈ xs, z ∈ ls) → xs.Nodup → Q (.new (strsD xs)) none
/-- an order and the pairs it was made of -/
structure OP (ls : List Str) (ps qs : List Pr) : Prop where
  ok : OrdOk ls ps
  lp : LP ls qs
  sm : ∀ z, z ∈ ps ↔ z ∈ qs
  l1 : 1 ≤ ls.length
def pRight36 (C : Addr) : PSp := fun ds Q => ∃ (ls : List Str) (ps qs : List Pr), ds = [potD, ordD C ls ps, .lst (strsD ls), .lst (qs.map prD)] ∧ OP ls ps qs ∧ Q (.val (.bl true)) none
section
variable {X : Sx} {K : PySem.W.Frag}
/-! ### a call by names that tells a new list; is True -/
def qCallKN (P : PSp) (pa pk : QA) : QN := fun ρ Q => pa ρ fun rs ρ0 => pk ρ0 fun ss ρ1 => some1 (fun ds => P ds fun r _ => newOk ((rs ++ ss).any isCell) r fun d => Q d ρ1) (rdL ρ1 (rs ++ ss))
theorem li_callKN {P : PSp} {ta tk : TA} {pa pk : QA} {E : XK} {gV : List V → List V → List V} (h1 : LiA X ta pa) (h2 : LiA X tk pk) (hg : ∀ vs zs, gV vs zs = vs ++ zs) : LiN X (tCallK (lsp X none P) gV E ta tk) (qCallKN P pa pk) := by
  intro c hX σ F H ρ Q Q3 R hq h
  subst hX
  refine h1 c rfl σ F H ρ _ _ R ?_ h
  intro rs0 ρ0 vs0 F0 H0 R0 s0 rv0 q0
  refine h2 c rfl σ F0 H0 ρ0 _ _ R0 ?_ q0
  intro ss ρ1 zs F1 H1 R1 s1 rv1 q1
  rw [hg]
  have rv : RVL c F1 σ (rs0 ++ ss) (vs0 ++ zs) := RVL.app (rv0.mono s1) rv1
  have s1 : Same F F1 := tr s0 s1
  generalize rs0 ++ ss = rs at rv q1 ⊢
  generalize vs0 ++ zs = vs at rv ⊢
  cases e : rdL ρ1 rs with
  | none => rw [e] at q1; exact q1.elim
  | some ds =>
    rw [e] at q1
    have q1 : P ds fun r _ => newOk (rs.any isCell) r fun d => Q3 d ρ1 := q1
    by_cases nc : rs.any isCell = false
    · refine ⟨F1, ds, _, enterV R1 rv e nc, q1, ?_⟩
      intro r out v F' H' ex q
      have R2 := Step.own ex.step R1
      match r, ex.res, q with
      | .new es, ⟨p, ws, ev, hF, hn, hp, hr⟩, ⟨_, q⟩ =>
        subst ev
        exact hq es ρ1 p F' H' R2 (tr s1 ex.step.fr) (new_of R1 R2 hn hp hF hr) q
    · refine ⟨_, ds, _, enter R1 rv e, q1, ?_⟩
      intro r out v F' H' ex q
      have R2 := Step.back ex.step R1
      match r, ex.res, q with
      | .new es, ⟨p, ws, ev, hF, hn, hp, hr⟩, ⟨fl, q⟩ =>
        subst ev
        exact hq es ρ1 p F1 H' R2 s1 (new_of R1 R2 hn hp (R1.fnone hn) (RpL.flat (fl.resolve_left nc) hr)) q
theorem w_callK {ρ : PSt} {Q : Rv → PSt → Prop} {P : PSp} {pa pk : QA} (h : pa ρ fun rs ρ0 => pk ρ0 fun ss ρ1 => some1 (fun ds => P ds fun r _ => resOk ((rs ++ ss).any isCell) r fun d => Q (.val d) ρ1) (rdL ρ1 (rs ++ ss))) : qCallK P pa pk ρ Q := h
theorem w_callKN {ρ : PSt} {Q : List D → PSt → Prop} {P : PSp} {pa pk : QA} (h : pa ρ fun rs ρ0 => pk ρ0 fun ss ρ1 => some1 (fun ds => P ds fun r _ => newOk ((rs ++ ss).any isCell) r fun d => Q d ρ1) (rdL ρ1 (rs ++ ss))) : qCallKN P pa pk ρ Q := h
theorem w_callD {ρ : PSt} {Q : Rv → PSt → Prop} {d0 : D} {P : PSp} {pa : QA} (h : pa ρ fun rs ρ1 => some1 (fun ds => P ds fun r _ => resOk ((rs ++ [Rv.val d0]).any isCell) r fun d => Q (.val d) ρ1) (rdL ρ1 (rs ++ [Rv.val d0]))) : qCallD d0 P pa ρ Q := h
def oIsB (neg : Bool) : O2 := fun dx dy Q => ∃ a b : Bool, dx = .bl a ∧ dy = .bl b ∧ Q (.bl (if neg then !decide (a = b) else decide (a = b)))
theorem lr_isB : LiR X rIsB (oIsB false) := by
  intro c hX σ F H ρ x y dx dy Q Q3 R rx ry hq h
  obtain ⟨a, b, rfl, rfl, h⟩ := h
  exact ⟨a, b, rx, ry, hq (.bl _) _ F H R (Same.refl F) rfl h⟩
theorem lr_notB : LiR X rNotB (oIsB true) := by
  intro c hX σ F H ρ x y dx dy Q Q3 R rx ry hq h
  obtain ⟨a, b, rfl, rfl, h⟩ := h
  exact ⟨a, b, rx, ry, hq (.bl _) _ F H R (Same.refl F) rfl h⟩
theorem w_isB {a b : Bool} {F : D → Prop} (h : F (.bl (decide (a = b)))) : oIsB false (.bl a) (.bl b) F := ⟨a, b, rfl, rfl, h⟩
theorem w_notB {a b : Bool} {F : D → Prop} (h : F (.bl (!decide (a = b)))) : oIsB true (.bl a) (.bl b) F := ⟨a, b, rfl, rfl, h⟩
end
end L3
/-! The law itself in plain data: its script, its pots; orders made of pairs. -/
namespace L3
open PySem PySem.Spec PyProof.Rows L2 TB LamX OwnE
open C8 (Cal Met Mak)
section
variable {X : Sx} {K : PySem.W.Frag}
/-! ### len of the script, max, min -/
def oLenS (K : PySem.W.Frag) : OL := fun as Q => ∃ ns : List Int, as = [scrD K ns] ∧ Q (.int ns.length)
theorem lc_lenS (hK : X.K = K := by rfl) : LiC X (rLenL K) (oLenS K) := by
  subst hK
  intro c hX σ F H ρ xs dxs Q Q3 R rx hq h
  subst hX
  obtain ⟨ns, rfl, h⟩ := h
  obtain ⟨v, t, rfl, ⟨a, rfl, ha⟩, et⟩ := rx
  obtain rfl : t = [] := et
  refine ⟨a, ns.map V.int, rfl, Or.inl (sqL_mono R.sub ha), ?_⟩
  rw [List.length_map]
  exact hq (.int _) _ F H R (Same.refl F) rfl h
theorem w_lenS {ns : List Int} {F : D → Prop} (h : F (.int ns.length)) : oLenS K [scrD K ns] F := ⟨ns, rfl, h⟩
/-- the script's length -/
def tScr (r : List V → Hp → VK → Prop) (ta : TA) : TE := tCB r ta
theorem toScr {Y : Cx} {e : Expr} {r : List V → Hp → VK → Prop} {ta : TA} (h : PE Y e (tCB r ta)) : PE Y e (tScr r ta) := h
theorem li_scr {ta : TA} {pa : QA} (ha : LiA X ta pa) (hK : X.K = K := by rfl) : LiE X (tScr (rLenL K) ta) (qCB (oLenS K) pa) := li_cb (lc_lenS hK) ha
def oMM (f : Int → Int → Int) : OL := fun as Q => ∃ i j, as = [.int i, .int j] ∧ Q (.int (f i j))
theorem lc_mm (f : Int → Int → Int) : LiC X (fun xs H Q => ∃ i j, xs = [.int i, .int j] ∧ Q (.int (f i j)) H) (oMM f) := by
  intro c hX σ F H ρ xs dxs Q Q3 R rx hq h
  obtain ⟨i, j, rfl, h⟩ := h
  obtain ⟨v, t, rfl, e1, v2, t2, rfl, e2, et⟩ := rx
  obtain rfl : t2 = [] := et
  obtain rfl : v = .int i := e1
  obtain rfl : v2 = .int j := e2
  exact ⟨i, j, rfl, hq (.int _) _ F H R (Same.refl F) rfl h⟩
theorem lc_max : LiC X (fun xs H Q => ∃ i j, xs = [.int i, .int j] ∧ Q (.int (if j > i then j else i)) H) (oMM fun i j => if j > i then j else i) := lc_mm _
theorem lc_min : LiC X (fun xs H Q => ∃ i j, xs = [.int i, .int j] ∧ Q (.int (if j < i then j else i)) H) (oMM fun i j => if j < i then j else i) := lc_mm _
theorem w_mm {f : Int → Int → Int} {i j : Int} {F : D → Prop} (h : F (.int (f i j))) : oMM f [.int i, .int j] F := ⟨i, j, rfl, h⟩
/-! ### calls by names -/
structure CalN (P : Program) (w : World) (K : PySem.W.Frag) (mg : Str → Option Value) (base : Heap) (k : Nat) (x : Str) (sp : Sp) (n m : Nat) (ks : List Str) (gV : List V → List V → List V) : Prop where
  nl : ks.length = m
  nex : ∃ (f : Addr) (fd : FuncData) (ps : List Str) (g : List Value → List Value → List Value), FnOk P w K mg base C8.CX0 k f fd ps sp ∧ mg x = some (.ref f) ∧ PySem.W.keepIn K (.ref f) = true ∧ KBn K fd ps n ks g gV
theorem pe_cN {Y : Cx} {k j n m : Nat} {x : Str} {sp : Sp} {ks : List Str} {gV : List V → List V → List V} {e : Expr} {es : List Expr} {kws : List Keyword} {t tk : TA} {p pos : Pos} (c : CalN Y.prog Y.w Y.K Y.mg Y.base k x sp n m ks gV) (hr : Room j Y.A) (hk : k ≤ j) (hg : Gl Y x) (ha : PA Y (e :: es) t) (hkw : PK Y kws tk)
    (hall : (backToKw pos (keywordEach kws Y.env)).all (·.1.isSome) = true := by rfl) (hks : (backToKw pos (keywordEach kws Y.env)).filterMap (·.1) = ks := by rfl) (hdb : (x == ("__debug__" : Str)) = false := by decide)
    (he : starEach (e :: es) Y.env = (false, eval e Y.env) :: starEach es Y.env := by rfl) (hpl : ((backTo pos (starEach (e :: es) Y.env)).any (·.1) || (backToKw pos (keywordEach kws Y.env)).any (·.1.isNone)) = false := by rfl) : PE Y (.Call (.Name x p) (e :: es) kws pos) (tCallN n m sp gV C8.E0 t tk) := by
  rw [← c.nl]
  obtain ⟨f, fd, ps, g, F, hm, kp, hb⟩ := c.nex
  exact pe_callN F (hr.mono hk) hg hm kp hb pass0 ha hkw hall hks hdb he hpl
/-- names that stand as they come -/
structure InRow (n m : Nat) (gV : List V → List V → List V) : Prop where
  row : ∀ vs zs : List V, vs.length = n → zs.length = m → gV vs zs = vs ++ zs
def andLen (rs : List Rv) (n : Nat) (ss : List Rv) (m : Nat) (G : Prop) : Prop := rs.length = n ∧ ss.length = m ∧ G
def qCallV (n m : Nat) (P : PSp) (pa pk : QA) : QE := fun ρ Q => pa ρ fun rs ρ0 => pk ρ0 fun ss ρ1 => rs.length = n ∧ ss.length = m ∧ some1 (fun ds => P ds fun r _ => resOk ((rs ++ ss).any isCell) r fun d => Q (.val d) ρ1) (rdL ρ1 (rs ++ ss))
def qCallVN (n m : Nat) (P : PSp) (pa pk : QA) : QN := fun ρ Q => pa ρ fun rs ρ0 => pk ρ0 fun ss ρ1 => rs.length = n ∧ ss.length = m ∧ some1 (fun ds => P ds fun r _ => newOk ((rs ++ ss).any isCell) r fun d => Q d ρ1) (rdL ρ1 (rs ++ ss))
theorem li_callV {n m : Nat} {P : PSp} {ta tk : TA} {pa pk : QA} {E : XK} {gV : List V → List V → List V} (hg : InRow n m gV) (h1 : LiA X ta pa) (h2 : LiA X tk pk) : LiE X (tCallN n m (lsp X none P) gV E ta tk) (qCallV n m P pa pk) := by
  intro c hX σ F H ρ Q Q3 R hq h
  subst hX
  refine h1 c rfl σ F H ρ _ _ R ?_ h
  intro rs ρ0 vs F0 H0 R0 s0 rv0 q0
  refine h2 c rfl σ F0 H0 ρ0 _ _ R0 ?_ q0
  intro ss ρ1 zs F1 H1 R1 s1 rv1 ⟨l1, l2, q1⟩
  have l3 := rv0.len
  have l4 := rv1.len
  refine ⟨by omega, by omega, ?_⟩
  rw [hg.row vs zs (by omega) (by omega)]
  cases e : rdL ρ1 (rs ++ ss) with
  | none => rw [e] at q1; exact q1.elim
  | some ds =>
    rw [e] at q1
    exact call_end R1 (tr s0 s1) (RVL.app (rv0.mono s1) rv1) e hq q1
theorem li_callVN {n m : Nat} {P : PSp} {ta tk : TA} {pa pk : QA} {E : XK} {gV : List V → List V → List V} (hg : InRow n m gV) (h1 : LiA X ta pa) (h2 : LiA X tk pk) : LiN X (tCallN n m (lsp X none P) gV E ta tk) (qCallVN n m P pa pk) := by
  intro c hX σ F H ρ Q Q3 R hq h
  subst hX
  refine h1 c rfl σ F H ρ _ _ R ?_ h
  intro rs0 ρ0 vs0 F0 H0 R0 s0 rv0 q0
  refine h2 c rfl σ F0 H0 ρ0 _ _ R0 ?_ q0
  intro ss ρ1 zs F1 H1 R1 s1 rv1 ⟨l1, l2, q1⟩
  have l3 := rv0.len
  have l4 := rv1.len
  refine ⟨by omega, by omega, ?_⟩
  rw [hg.row vs0 zs (by omega) (by omega)]
  have rv : RVL c F1 σ (rs0 ++ ss) (vs0 ++ zs) := RVL.app (rv0.mono s1) rv1
  have s1 : Same F F1 := tr s0 s1
  generalize rs0 ++ ss = rs at rv q1 ⊢
  generalize vs0 ++ zs = vs at rv ⊢
  cases e : rdL ρ1 rs with
  | none => rw [e] at q1; exact q1.elim
  | some ds =>
    rw [e] at q1
    have q1 : P ds fun r _ => newOk (rs.any isCell) r fun d => Q3 d ρ1 := q1
    by_cases nc : rs.any isCell = false
    · refine ⟨F1, ds, _, enterV R1 rv e nc, q1, ?_⟩
      intro r out v F' H' ex q
      have R2 := Step.own ex.step R1
      match r, ex.res, q with
      | .new es, ⟨p, ws, ev, hF, hn, hp, hr⟩, ⟨_, q⟩ =>
        subst ev
        exact hq es ρ1 p F' H' R2 (tr s1 ex.step.fr) (new_of R1 R2 hn hp hF hr) q
    · refine ⟨_, ds, _, enter R1 rv e, q1, ?_⟩
      intro r out v F' H' ex q
      have R2 := Step.back ex.step R1
      match r, ex.res, q with
      | .new es, ⟨p, ws, ev, hF, hn, hp, hr⟩, ⟨fl, q⟩ =>
        subst ev
        exact hq es ρ1 p F1 H' R2 s1 (new_of R1 R2 hn hp (R1.fnone hn) (RpL.flat (fl.resolve_left nc) hr)) q
theorem w_callV {ρ : PSt} {n m : Nat} {Q : Rv → PSt → Prop} {P : PSp} {pa pk : QA} (h : pa ρ fun rs ρ0 => pk ρ0 fun ss ρ1 => andLen rs n ss m (some1 (fun ds => P ds fun r _ => resOk ((rs ++ ss).any isCell) r fun d => Q (.val d) ρ1) (rdL ρ1 (rs ++ ss)))) : qCallV n m P pa pk ρ Q := h
theorem w_callVN {ρ : PSt} {n m : Nat} {Q : List D → PSt → Prop} {P : PSp} {pa pk : QA} (h : pa ρ fun rs ρ0 => pk ρ0 fun ss ρ1 => andLen rs n ss m (some1 (fun ds => P ds fun r _ => newOk ((rs ++ ss).any isCell) r fun d => Q d ρ1) (rdL ρ1 (rs ++ ss)))) : qCallVN n m P pa pk ρ Q := h
theorem w_andLen {rs ss : List Rv} {n m : Nat} {G : Prop} (e1 : rs.length = n) (e2 : ss.length = m) (h : G) : andLen rs n ss m G := ⟨e1, e2, h⟩
/-! ### pots -/
def pPot (K : PySem.W.Frag) : PSp := fun ds Q => ∃ (ns : List Int) (k : Int), ds = [scrD K ns, .int k] ∧ 0 ≤ k ∧ k < 1000 ∧ Q (.val potD) none
theorem i_pot {spD : Sp} (hs : ∀ (l : Addr) (ns : List Int) (k : Int) (H : Hp) (Q : VK) (E : XK), SqL X.K H l (ns.map V.int) → 0 ≤ k → k < 1000 → NoT H → (∀ p : Addr, H p = none → Q (.ref p) (upd H p (PotO p))) → spD [.ref l, .int k] H Q E) : ∀ vs H Q E, lsp X none (pPot X.K) vs H Q E → spD vs H Q E := by
  rintro vs H Q E ⟨F, ds, Q3, en, ⟨ns, k, rfl, h0, h1, h⟩, hQ⟩
  obtain ⟨v1, v2, rfl, ⟨a, rfl, ha⟩, e2⟩ := rpl2 en.rpl
  obtain rfl : v2 = .int k := e2
  refine hs a ns k H Q E (sqL_mono en.sub ha) h0 h1 en.nt fun p np => ?_
  exact hQ (.val potD) none (.ref p) (upd F p (PotO p)) (upd H p (PotO p)) ⟨(en.rel []).alloc np trivial, ⟨p, rfl, upd_same⟩, fun _ _ z => nomatch z⟩ h
/-! ### an order made of pairs -/
def spInitP (K : PySem.W.Frag) (C T : Addr) (q : Str) : Sp := fun vs H Q _ => ∃ (x dx l d : Addr) (ls : List Str) (qs : List Pr) (rs : List V) (F : Hp), vs = [.ref x, .ref l, .ref d] ∧ H x = some (.ins C dx []) ∧ H l = some (.lst (ls.map V.str)) ∧ H d = some (.lst rs) ∧
  Same F H ∧ F x = none ∧ F T = none ∧ RpL K F (qs.map prD) rs ∧ OrdOk ls [] ∧ LP ls qs ∧ qs.length ≤ 900 ∧ NoT H ∧ TabS H T q ∧
  ∀ (H' : Hp) (ps : List Pr), Kp [x, T] H H' → NoT H' → TabS H' T q → OrdAt C H' x ls ps → OrdOk ls ps → (∀ z, z ∈ ps ↔ z ∈ qs) → Q .non H'
def qMkOrd2 (C : Addr) (pa : QA) : QE := fun ρ Q => pa ρ fun rs ρ1 => ∃ (ls : List Str) (qs : List Pr), rdL ρ1 rs = some [.lst (strsD ls), .lst (qs.map prD)] ∧ OrdOk ls [] ∧ LP ls qs ∧ qs.length ≤ 900 ∧ ∀ ps, OrdOk ls ps → (∀ z, z ∈ ps ↔ z ∈ qs) → Q (.val (ordD C ls ps)) ρ1
theorem w_mkOrd2 {ρ : PSt} {C : Addr} {pa : QA} {Q : Rv → PSt → Prop} (h : pa ρ fun rs ρ1 => ∃ (ls : List Str) (qs : List Pr), rdL ρ1 rs = some [.lst (strsD ls), .lst (qs.map prD)] ∧ OrdOk ls [] ∧ LP ls qs ∧ qs.length ≤ 900 ∧ ∀ ps, OrdOk ls ps → (∀ z, z ∈ ps ↔ z ∈ qs) → Q (.val (ordD C ls ps)) ρ1) : qMkOrd2 C pa ρ Q := h
theorem li_mkOrd2 {C T0 : Addr} {q0 : Str} {ta : TA} {pa : QA} {E : XK} (h1 : LiA X ta pa) (hK : X.K = K := by rfl) (hT : X.tb = [(T0, q0)] := by rfl) : LiE X (tMake C (spInitP K C T0 q0) [] E ta) (qMkOrd2 C pa) := by
  subst hK
  intro c hX σ F H ρ Q Q3 R hq h
  subst hX
  refine h1 c rfl σ F H ρ _ _ R ?_ h
  rintro rs ρ1 vs F1 H1 R1 s1 rv ⟨ls, qs, e, ok0, lp, ql, q⟩
  obtain ⟨v, t, rfl, ⟨l, us, rfl, hl, hr⟩, v2, t2, rfl, ⟨d, ws, rfl, hd, hr2⟩, et⟩ := rv.rn R1 e
  obtain rfl : t2 = [] := et
  obtain rfl := hr.strs
  intro x dx nx ndx nxx
  have ndx2 : upd H1 dx (.own x) x = none := by
    rw [upd_ne (fun z => nxx z.symm)]
    exact nx
  have Ra := R1.allocH (o := .own x) ndx trivial
  have Rb := Ra.allocH (o := .ins C dx []) ndx2 trivial
  have hTm : (T0, q0) ∈ c.X.tb := by
    rw [hT]
    exact List.mem_singleton.mpr rfl
  have sb : Same H1 (upd (upd H1 dx (.own x)) x (.ins C dx [])) := fun b o z => old_upd ndx2 (old_upd ndx z)
  have tb1 : TabS H1 T0 q0 := R1.tab _ hTm
  refine ⟨x, dx, l, d, ls, qs, ws, F1, rfl, upd_same, sb _ _ hl, sb _ _ hd, tr R1.sub sb, R1.fnone nx, R1.tabF _ hTm, hr2, ok0, lp, ql, Rb.nt, tb1.ext sb, ?_⟩
  intro H' ps kp nt tb' oa ok hm
  refine ⟨rfl, ?_⟩
  have hb : ∀ b o, H1 b = some o → b ≠ T0 → H' b = some o := fun b o z n => kp b o (sb _ _ z) (fun m => by
    rcases List.mem_cons.mp m with m | m
    · rw [m, nx] at z
      exact nomatch z
    · exact n (List.mem_singleton.mp m))
  have nTF : ∀ b o, F1 b = some o → b ≠ T0 := fun b o z n => by
    rw [n, R1.tabF _ hTm] at z
    exact nomatch z
  have sF : Same F1 H' := fun b o z => hb b o (R1.sub _ _ z) (nTF b o z)
  have sA : Same F1 (addF F1 H1 H') := fun b o z => by
    unfold addF
    simp only [z]
  have T1 : ∃ o, H1 T0 = some o := by
    obtain ⟨ts, e2, _⟩ := tb1
    exact ⟨_, e2⟩
  have T2 : ∃ ts, H' T0 = some (.tbl ts) := by
    obtain ⟨ts, e2, _⟩ := tb'
    exact ⟨_, e2⟩
  have dm : ∀ b, H' b = none → H1 b = none := fun b z => by
    cases w : H1 b with
    | none => rfl
    | some o =>
      by_cases n : b = T0
      · obtain ⟨ts, e2⟩ := T2
        rw [n, e2] at z
        exact nomatch z
      · rw [hb b o w n] at z
        exact nomatch z
  have R2 : Rel c (addF F1 H1 H') H' σ ρ1 := by
    refine ⟨R1.len, fun b o z => (addF_is sF z).1, fun i pv hi => (R1.slot i pv hi).mono sA fun fr ds p e1 e2 => ?_, R1.sep, nt, fun x hx => ?_, fun x hx => ?_, fun _ _ z => sA _ _ (R1.fr _ _ z), fun b o z n m => ?_, fun b z => R1.dom b (dm b z), fun b o z => ?_, fun p z => R1.new p (dm p z)⟩
    · subst e1
      obtain ⟨fp, vs, lp⟩ := R1.ownAt hi e2
      have np : p ≠ T0 := fun z => by
        obtain ⟨ts, e2, _⟩ := tb1
        rw [z, e2] at lp
        exact nomatch lp
      refine ⟨?_, fun _ z => hb _ _ z np⟩
      cases w : addF F1 H1 H' p with
      | none => rfl
      | some o =>
        obtain ⟨w1, w2⟩ := addF_is sF w
        rw [hb _ _ lp np] at w1
        cases w1
        rcases w2 with w2 | w2 | w2
        · rw [fp] at w2
          exact nomatch w2
        · rw [lp] at w2
          exact nomatch w2
        · exact w2.elim
    · have hx2 : x ∈ [(T0, q0)] := by rw [← hT]; exact hx
      rw [List.mem_singleton.mp hx2]
      exact tb'
    · have hx2 : x ∈ [(T0, q0)] := by rw [← hT]; exact hx
      rw [List.mem_singleton.mp hx2]
      cases w : addF F1 H1 H' T0 with
      | none => rfl
      | some o =>
        obtain ⟨w1, w2⟩ := addF_is sF w
        obtain ⟨ts, e2⟩ := T2
        rw [e2] at w1
        cases w1
        rcases w2 with w2 | w2 | w2
        · rw [R1.tabF _ hTm] at w2
          exact nomatch w2
        · obtain ⟨o, e3⟩ := T1
          rw [e3] at w2
          exact nomatch w2
        · exact w2.elim
    · have nb : b ≠ T0 := fun z2 => m _ hTm z2
      exact hb b o (R1.kp b o z n m) nb
    · rcases (addF_is sF z).2 with w | w | w
      · exact R1.nw b o w
      · exact Or.inr (Or.inl (R1.dom b w))
      · exact Or.inr (Or.inr (Or.inr w))
  exact hq (.val (ordD C ls ps)) ρ1 (.ref x) _ H' R2 (tr s1 sA) ⟨x, rfl, ord_addF sF oa nx⟩ (q ps ok hm)
end
/-! ### shown -/
theorem w_reprNon {F : D → Prop} (h : F (.str PyData.none.shown)) : oRepr [.non] F := w_repr (x := .none) rfl rfl (by decide) (by decide +kernel) h
theorem w_reprStrs {ws : List Str} {F : D → Prop} (nw : ∀ z ∈ ws, Nm z) (hw : ws.length ≤ 1000) (h : F (.str (dStrs ws).shown)) : oRepr [.lst (ws.map D.str)] F := by
  have e1 := strs_len nw
  exact w_repr (pd_strs ws) (strs_show ws) (Nat.le_trans (strs_depth ws) (by decide)) (by rw [sizeLine_eq]; omega) h
theorem gS_row1 : InRow 1 1 (fun vs zs => gS [(true, 0)] vs [] zs) := ⟨fun vs zs h1 h2 => by
  match zs, h2 with
  | [z], _ => rfl⟩
/-! ### the law -/
def pLaw (K : PySem.W.Frag) : PSp := fun ds Q => ∃ ns : List Int, ds = [scrD K ns] ∧ ns.length ≤ 63 ∧ Q (.val (.bl true)) none
def spLawT (K : PySem.W.Frag) (T0 : Addr) (q : Str) : Sp := fun vs H Q _ => ∃ (a : Addr) (ns : List Int), vs = [.ref a] ∧ SqL K H a (ns.map V.int) ∧ a ≠ T0 ∧ ns.length ≤ 63 ∧ NoT H ∧ TabS H T0 q ∧ ∀ H', Q (.bl true) H'
def spLaw0 (K : PySem.W.Frag) : Sp := fun vs H Q _ => ∃ (a : Addr) (ns : List Int), vs = [.ref a] ∧ SqL K H a (ns.map V.int) ∧ ns.length ≤ 63 ∧ NoT H ∧ ∀ H', Q (.bl true) H'
open Classical in
noncomputable def noAt (T0 : Addr) (H : Hp) : Hp := fun b => if b = T0 then none else H b
open Classical in
theorem law_impT {K : PySem.W.Frag} {T0 : Addr} {q : Str} : ∀ vs H Q E, spLawT K T0 q vs H Q E → lsp ⟨K, [(T0, q)]⟩ none (pLaw K) vs H Q E := by
  rintro vs H Q E ⟨a, ns, rfl, ha, hT, hn, nt, tb, k⟩
  have f1 : ∀ b, b = T0 → noAt T0 H b = none := fun b e => if_pos e
  have f2 : ∀ b, b ≠ T0 → noAt T0 H b = H b := fun b e => if_neg e
  refine ⟨noAt T0 H, [scrD K ns], fun r _ => r = .val (.bl true), ?_, ⟨ns, rfl, hn, rfl⟩, ?_⟩
  · refine { sub := ?_, nt := nt, tab := ?_, tabF := ?_, len := rfl, arg := ?_, ioA := (fun _ z => nomatch z) }
    · intro b o e
      by_cases c : b = T0
      · rw [f1 b c] at e
        exact nomatch e
      · rw [f2 b c] at e
        exact e
    · intro x hx
      rw [List.mem_singleton.mp hx]
      exact tb
    · intro x hx
      rw [List.mem_singleton.mp hx]
      exact f1 _ rfl
    · intro j d v h1 h2 _
      match j, h1, h2 with
      | 0, h1, h2 =>
        cases Option.some.inj h1
        cases Option.some.inj h2
        refine ⟨a, rfl, ?_⟩
        rcases ha with (h | ⟨o, h⟩) | h
        · exact Or.inl (Or.inl (by rw [f2 a hT]; exact h))
        · exact Or.inl (Or.inr ⟨o, by rw [f2 a hT]; exact h⟩)
        · exact Or.inr h
  · rintro r out v F' H' ex rfl
    obtain rfl : v = .bl true := ex.res
    exact k H'
theorem law_imp0 {K : PySem.W.Frag} : ∀ vs H Q E, spLaw0 K vs H Q E → lsp ⟨K, []⟩ none (pLaw K) vs H Q E := by
  rintro vs H Q E ⟨a, ns, rfl, ha, hn, nt, k⟩
  refine ⟨H, [scrD K ns], fun r _ => r = .val (.bl true), entry1 (fun _ _ e => e) nt ⟨a, rfl, ha⟩, ⟨ns, rfl, hn, rfl⟩, ?_⟩
  rintro r out v F' H' ex rfl
  obtain rfl : v = .bl true := ex.res
  exact k H'
theorem range_at {m i : Nat} {d : D} (e : ((List.range m).map fun i : Nat => D.int (0 + (i : Int)))[i]? = some d) : i < m ∧ d = .int (i : Int) := by
  have h1 := (List.getElem?_eq_some_iff.mp e).1
  rw [List.length_map, List.length_range] at h1
  rw [List.getElem?_map, List.getElem?_range h1] at e
  refine ⟨h1, ?_⟩
  have e2 : d = D.int (0 + (i : Int)) := (Option.some.inj e).symm
  rw [Int.zero_add] at e2
  exact e2
/-- how many cells are gone through -/
theorem cells_at {n : Nat} {m : Int} (hm : 1 ≤ m) (hm2 : m ≤ 100) : ∃ k : Nat, (if (if m < (n : Int) then m else (n : Int)) > 1 then (if m < (n : Int) then m else (n : Int)) else 1) = (k : Int) ∧ k ≤ 100 := by
  by_cases h1 : m < (n : Int)
  · rw [if_pos h1]
    by_cases h2 : m > 1
    · rw [if_pos h2]
      exact ⟨m.toNat, by omega, by omega⟩
    · rw [if_neg h2]
      exact ⟨1, rfl, by decide⟩
  · rw [if_neg h1]
    by_cases h2 : (n : Int) > 1
    · rw [if_pos h2]
      exact ⟨n, rfl, by omega⟩
    · rw [if_neg h2]
      exact ⟨1, rfl, by decide⟩
end L3
/-! list(range(n)); min of lists of ints; list.index. -/
namespace L3
open PySem PySem.Spec PyProof.Rows L2 TB LamX OwnE
open C8 (Cal Met Mak)
section
variable {X : Sx} {K : PySem.W.Frag}
/-! ### list(range(n)) -/
def rgD (n : Nat) : List D := (List.range n).map fun i : Nat => D.int (i : Int)
def qRgN (pe : QE) : QN := fun ρ Q => pe ρ fun r ρ1 => ∃ n : Nat, r = .val (.int (n : Int)) ∧ n ≤ 1000 ∧ Q (rgD n) ρ1
theorem li_rgN {te : TE} {pe : QE} (h1 : LiE X te pe) : LiN X (tLstRg (tRg1 te)) (qRgN pe) := by
  intro c hX σ F H ρ Q Q3 R hq h
  refine h1 c hX σ F H ρ _ _ R ?_ h
  rintro r ρ1 v F1 H1 R1 s1 rv ⟨n, rfl, hn, q⟩
  obtain rfl : v = .int (n : Int) := rv
  refine ⟨(n : Int), rfl, RgOk.of_le (by omega) (by omega) (by omega) (by omega), fun p np => ?_⟩
  have rr : RpL c.K F1 (rgD n) (rgV 0 (n : Int)) := by
    unfold rgD rgV
    rw [show ((n : Int) - 0).toNat = n by omega]
    exact RpL.map (f := fun i : Nat => D.int (i : Int)) (g := fun i : Nat => V.int (0 + (i : Int))) (fun i => by show V.int (0 + (i : Int)) = V.int (i : Int); rw [Int.zero_add]) _
  obtain ⟨R2, n2⟩ := NewL.made R1 np rr
  exact hq _ _ p F1 _ R2 s1 n2 q
theorem w_rgN {ρ : PSt} {pe : QE} {Q : List D → PSt → Prop} (h : pe ρ fun r ρ1 => ∃ n : Nat, r = .val (.int (n : Int)) ∧ n ≤ 1000 ∧ Q (rgD n) ρ1) : qRgN pe ρ Q := h
end
/-! ### min -/
def minL (x : List Int) (iss : List (List Int)) : List Int := iss.foldl (fun a y => if y < a then y else a) x
theorem lt_nt {x y z : List Int} (h : ¬ y < x) (k : ¬ z < y) : ¬ z < x := fun l => by
  have h1 : x ≤ y := List.not_lt.mp h
  have h2 : y ≤ z := List.not_lt.mp k
  exact (List.not_lt.mpr (List.le_trans h1 h2)) l
theorem minL_ok : ∀ (iss : List (List Int)) (x : List Int), minL x iss ∈ x :: iss ∧ ∀ y ∈ x :: iss, ¬ y < minL x iss
  | [], x => ⟨List.mem_singleton.mpr rfl, fun y hy => by rw [List.mem_singleton.mp hy]; exact List.lt_irrefl _⟩
  | z :: iss, x => by
    show minL (if z < x then z else x) iss ∈ x :: z :: iss ∧ ∀ y ∈ x :: z :: iss, ¬ y < minL (if z < x then z else x) iss
    by_cases c : z < x
    · rw [if_pos c]
      obtain ⟨h1, h2⟩ := minL_ok iss z
      refine ⟨List.mem_cons_of_mem _ h1, fun y hy => ?_⟩
      rcases List.mem_cons.mp hy with rfl | hy
      · have h3 := h2 z List.mem_cons_self
        exact lt_nt h3 (fun l => List.lt_asymm c l)
      · exact h2 y hy
    · rw [if_neg c]
      obtain ⟨h1, h2⟩ := minL_ok iss x
      refine ⟨?_, fun y hy => ?_⟩
      · rcases List.mem_cons.mp h1 with h1 | h1
        · rw [h1]
          exact List.mem_cons_self
        · exact List.mem_cons_of_mem _ (List.mem_cons_of_mem _ h1)
      · rcases List.mem_cons.mp hy with rfl | hy
        · exact h2 y List.mem_cons_self
        · rcases List.mem_cons.mp hy with rfl | hy
          · exact lt_nt (h2 x List.mem_cons_self) c
          · exact h2 y (List.mem_cons_of_mem _ hy)
theorem minD_is : ∀ (iss : List (List Int)) (x : List Int), PySem.W.minD (dInts x) (iss.map dInts) = dInts (minL x iss)
  | [], x => rfl
  | z :: iss, x => by
    show PySem.W.minD (if PySem.W.dataLt (dInts z) (dInts x) = true then dInts z else dInts x) (iss.map dInts) = dInts (minL (if z < x then z else x) iss)
    have e : PySem.W.dataLt (dInts z) (dInts x) = decide (z < x) := (PySem.W.dataLt_list _ _).trans (PySem.W.dataLt_ints z x)
    by_cases c : z < x
    · rw [e, decide_eq_true c, if_pos rfl, if_pos c]
      exact minD_is iss z
    · rw [e, decide_eq_false c, if_neg (by simp), if_neg c]
      exact minD_is iss x
theorem dInts_inj {a b : List Int} (h : dInts a = dInts b) : a = b := by
  unfold dInts at h
  injection h with h
  have : ∀ {a b : List Int}, a.map PyData.int = b.map PyData.int → a = b := by
    intro a
    induction a with
    | nil => intro b h; cases b with
      | nil => rfl
      | cons _ _ => exact nomatch h
    | cons x a ih => intro b h; cases b with
      | nil => exact nomatch h
      | cons y b =>
        injection h with h1 h2
        injection h1 with h1
        rw [h1, ih h2]
  exact this h
theorem alike_dInts (a b : List Int) : PySem.W.alike (dInts a) (dInts b) = true := PySem.W.alike_ints a b
theorem dpAll_len {K : PySem.W.Frag} {H : Hp} : ∀ {vs : List V} {ds : List PyData}, DpAll K H vs ds → vs.length = ds.length
  | _, _, .nil => rfl
  | _, _, .cons _ t => congrArg Nat.succ (dpAll_len t)
theorem dpAll_get {K : PySem.W.Frag} {H : Hp} : ∀ {vs : List V} {ds : List PyData}, DpAll K H vs ds → ∀ {i : Nat} {v : V} {d : PyData}, vs[i]? = some v → ds[i]? = some d → Dp K H v d
  | _, _, .nil, i, _, _, h, _ => by simp at h
  | _, _, .cons h t, 0, v, d, e1, e2 => by
    obtain rfl := Option.some.inj (show some _ = some v from e1)
    obtain rfl := Option.some.inj (show some _ = some d from e2)
    exact h
  | _, _, .cons h t, i + 1, v, d, e1, e2 => dpAll_get t (by simpa using e1) (by simpa using e2)
def rMinIs (K : PySem.W.Frag) : List V → Hp → VK → Prop := fun xs H Q => ∃ (a : Addr) (vs : List V) (x : List Int) (iss : List (List Int)), xs = [.ref a] ∧ SqL K H a vs ∧ DpAll K H vs ((x :: iss).map dInts) ∧
  ∀ (i : Nat) v m, vs[i]? = some v → (x :: iss)[i]? = some m → (∀ y ∈ x :: iss, ¬ y < m) → Q v H
theorem cr_minIs {Y : Cx} (K : PySem.W.Frag) (hc : Y.calm = true) (hu : Y.A.units + 65 < cLine) (hK : Y.K = K := by rfl) : CallR Y (.builtin "min") (rMinIs K) := by
  subst hK
  intro pins s σ H vs us Q I r h
  obtain ⟨a, ws, x, iss, rfl, hs, dp, q⟩ := h
  obtain ⟨its, rv, hl, _⟩ := I.list hs
  rw [Vals.ref1 r]
  obtain ⟨as, ra⟩ := Dp.readsAll I _ ws its dp rv
  have dd : PyData.depthAll ((x :: iss).map dInts) ≤ 1 := depthAll_map (f := dInts) (n := 1) (l := x :: iss) fun y _ => by
    show PyData.depth (.list (y.map .int)) ≤ 1
    rw [PyData.depth, PySem.W.depth_ints]
    exact Nat.le_refl _
  have al : PySem.W.AlikeAll ((x :: iss).map dInts) := by
    refine ⟨fun u hu v hv => ?_, fun u hu => ?_⟩
    · obtain ⟨p, _, rfl⟩ := List.mem_map.mp hu
      obtain ⟨p2, _, rfl⟩ := List.mem_map.mp hv
      exact alike_dInts p p2
    · obtain ⟨p, _, rfl⟩ := List.mem_map.mp hu
      exact fun z => nomatch z
  refine PySem.W.min_list_data (vs := its.toArray) (x := dInts x) (xs := iss.map dInts) (I.ok.hd hc) hl.isList (by rw [List.toList_toArray]; exact ra) al (by show Y.A.units + 1 + PyData.depthAll ((x :: iss).map dInts) < cLine; omega) ?_
  intro i v h' tk bs hv rd hk
  have hv2 : its[i]? = some v := by
    rw [← List.getElem?_toArray]
    exact hv
  obtain ⟨w, hw, rel⟩ : ∃ w, ws[i]? = some w ∧ RelV w v := by
    rcases vals_get rv i with ⟨_, z⟩ | ⟨w, u, z1, z2, z3⟩
    · rw [z] at hv2
      exact nomatch hv2
    · rw [z2] at hv2
      cases Option.some.inj hv2
      exact ⟨w, z1, z3⟩
  have hlen : ws.length = (x :: iss).length := by
    have := dpAll_len dp
    rw [List.length_map] at this
    exact this
  have hi : i < (x :: iss).length := by
    rw [← hlen]
    exact (List.getElem?_eq_some_iff.mp hw).1
  obtain ⟨cs, rd2⟩ := Dp.reads I _ _ v (dpAll_get dp hw (d := dInts (x :: iss)[i]) (by rw [List.getElem?_map, List.getElem?_eq_getElem hi]; rfl)) rel
  have e1 := PySem.W.alike_unique _ _ v _ _ (by rw [minD_is]; exact alike_dInts _ _) (PyProof.Rows.Reads.keeps hk rd2) rd
  rw [minD_is] at e1
  have e2 := dInts_inj e1
  obtain ⟨m1, m2⟩ := minL_ok iss x
  refine ⟨w, H, I.kept hk, rel, q i w (x :: iss)[i] hw (List.getElem?_eq_getElem hi) (by rw [e2]; exact m2)⟩
section
variable {X : Sx} {K : PySem.W.Frag}
abbrev isD (l : List Int) : D := .lst (l.map D.int)
def oMinIs : OL := fun as Q => ∃ (x : List Int) (iss : List (List Int)), as = [.lst ((x :: iss).map isD)] ∧ ∀ m ∈ x :: iss, (∀ y ∈ x :: iss, ¬ y < m) → Q (isD m)
theorem lc_minIs (hK : X.K = K := by rfl) : LiC X (rMinIs K) oMinIs := by
  subst hK
  intro c hX σ F H ρ xs dxs Q Q3 R rx hq h
  subst hX
  obtain ⟨x, iss, rfl, h⟩ := h
  obtain ⟨v, t, rfl, ⟨p, vs, rfl, hp, r⟩, et⟩ := rx
  obtain rfl : t = [] := et
  refine ⟨p, vs, x, iss, rfl, sqL_of hp, pdL_dp R.sub r (pdL_map (g := dInts) pd_ints _), fun i v m e1 e2 mn => ?_⟩
  obtain ⟨d, e3, rp⟩ := r.get e1
  rw [List.getElem?_map, e2] at e3
  obtain rfl := Option.some.inj e3
  exact hq (isD m) v F H R (Same.refl F) rp (h m (List.mem_of_getElem? e2) mn)
/-! ### list.index of texts -/
theorem mt_indexK {Y : Cx} (K : PySem.W.Frag) (hK : Y.K = K := by rfl) : MtR Y "list.index" (rIndex K) := by subst hK; exact mt_index
def qIndex (pe pe2 : QE) : QE := fun ρ Q => pe ρ fun r ρ0 => ∃ ws0, rdR ρ0 r = some (.lst ws0) ∧ pe2 ρ0 fun r2 ρ1 => ∃ (ws : List Str) (z : Str), rdR ρ1 r = some (.lst (ws.map D.str)) ∧ rdR ρ1 r2 = some (.str z) ∧ z ∈ ws ∧ Q (.val (.int (ixS ws z : Int))) ρ1
theorem li_index {te te2 : TE} {pe pe2 : QE} (h1 : LiE X te pe) (h2 : LiE X te2 pe2) (hK : X.K = K := by rfl) : LiE X (tBM K "list" (rIndex K) te (tCons te2 tNil)) (qIndex pe pe2) := by
  subst hK
  intro c hX σ F H ρ Q Q3 R hq h
  subst hX
  refine h1 c rfl σ F H ρ _ _ R ?_ h
  rintro r ρ0 v F0 H0 R0 s0 rv0 ⟨ws0, e0, q0⟩
  obtain ⟨a, us, rfl, ha, _⟩ := rv0.rn R0 e0
  refine ⟨Or.inl ⟨rfl, _, sqL_of ha⟩, ?_⟩
  refine h2 c rfl σ F0 H0 ρ0 _ _ R0 ?_ q0
  rintro r2 ρ1 v2 F1 H1 R1 s1 rv1 ⟨ws, z, e1, e2, hz, q⟩
  obtain ⟨a', us', e', ha', hr'⟩ := (rv0.mono s1).rn R1 e1
  cases e'
  obtain rfl := hr'.strs
  obtain rfl : v2 = .str z := rv1.rn R1 e2
  obtain ⟨i1, i2⟩ := ixS_at hz
  refine ⟨a, ws.map V.str, .str z, ixS ws z, .str z, rfl, rfl, sqL_of ha', rfl, ?_, by rw [List.getElem?_map, i1]; rfl, ?_, ?_, hq (.val (.int _)) ρ1 _ F1 H1 R1 (tr s0 s1) rfl q⟩
  · rw [List.all_map, List.all_eq_true]
    exact fun _ _ => rfl
  · show (z == z) = true
    exact beq_self_eq_true z
  · intro m z' hm e
    rw [List.getElem?_map] at e
    obtain ⟨y, ey, rfl⟩ := Option.map_eq_some_iff.mp e
    show (y == z) = false
    exact beq_eq_false_iff_ne.mpr fun e3 => i2 m hm (by rw [ey, e3])
theorem w_index {ρ : PSt} {pe pe2 : QE} {Q : Rv → PSt → Prop} (h : pe ρ fun r ρ0 => ∃ ws0, rdR ρ0 r = some (.lst ws0) ∧ pe2 ρ0 fun r2 ρ1 => ∃ (ws : List Str) (z : Str), rdR ρ1 r = some (.lst (ws.map D.str)) ∧ rdR ρ1 r2 = some (.str z) ∧ z ∈ ws ∧ Q (.val (.int (ixS ws z : Int))) ρ1) : qIndex pe pe2 ρ Q := h
theorem w_ilst {ρ : PSt} {r : Rv} {ds : List D} {G : Prop} (e : rdR ρ r = some (.lst ds)) (h : G) : ∃ ws0, rdR ρ r = some (.lst ws0) ∧ G := ⟨ds, e, h⟩
end
end L3

namespace TB
open PySem PySem.Spec PyProof.Rows L2 L3
theorem st_iany {K : PySem.W.Frag} {tl : TE} {σ : L2.St} {H : Hp} {R : It → Hp → Prop} (h : tl σ H fun x H1 => (∃ a, x = .ref a ∧ (∃ xs, SqL K H1 a xs) ∧ R (Itl K a) H1) ∨ ∃ a, x = .ref a ∧ (∃ xs, SqT K H1 a xs) ∧ R (Itt K a) H1) : iAny K tl σ H R := h
end TB
namespace L3
open PySem PySem.Spec PyProof.Rows L2 TB LamX OwnE
section
variable {X : Sx} {K : PySem.W.Frag}
/-- a call with one default, known everywhere, that tells a new list -/
def qCallDN (d0 : D) (P : PSp) (pa : QA) : QN := fun ρ Q => pa ρ fun rs ρ1 => some1 (fun ds => P ds fun r _ => newOk ((rs ++ [Rv.val d0]).any isCell) r fun d => Q d ρ1) (rdL ρ1 (rs ++ [Rv.val d0]))
theorem li_callDN {P : PSp} {ta : TA} {pa : QA} {E : XK} {v0 : V} {d0 : D} (hd : ∀ F, Rp X.K F d0 v0) (h1 : LiA X ta pa) : LiN X (tCall (lsp X none P) [v0] E ta) (qCallDN d0 P pa) := by
  intro c hX σ F H ρ Q Q3 R hq h
  subst hX
  refine h1 c rfl σ F H ρ _ _ R ?_ h
  intro rs0 ρ1 vs0 F1 H1 R1 s1 rv0 q1
  have rv : RVL c F1 σ (rs0 ++ [Rv.val d0]) (vs0 ++ [v0]) := RVL.app rv0 ⟨v0, [], rfl, hd F1, rfl⟩
  generalize rs0 ++ [Rv.val d0] = rs at rv q1 ⊢
  generalize vs0 ++ [v0] = vs at rv ⊢
  cases e : rdL ρ1 rs with
  | none => rw [e] at q1; exact q1.elim
  | some ds =>
    rw [e] at q1
    have q1 : P ds fun r _ => newOk (rs.any isCell) r fun d => Q3 d ρ1 := q1
    by_cases nc : rs.any isCell = false
    · refine ⟨F1, ds, _, enterV R1 rv e nc, q1, ?_⟩
      intro r out v F' H' ex q
      have R2 := Step.own ex.step R1
      match r, ex.res, q with
      | .new es, ⟨p, ws, ev, hF, hn, hp, hr⟩, ⟨_, q⟩ =>
        subst ev
        exact hq es ρ1 p F' H' R2 (tr s1 ex.step.fr) (new_of R1 R2 hn hp hF hr) q
    · refine ⟨_, ds, _, enter R1 rv e, q1, ?_⟩
      intro r out v F' H' ex q
      have R2 := Step.back ex.step R1
      match r, ex.res, q with
      | .new es, ⟨p, ws, ev, hF, hn, hp, hr⟩, ⟨fl, q⟩ =>
        subst ev
        exact hq es ρ1 p F1 H' R2 s1 (new_of R1 R2 hn hp (R1.fnone hn) (RpL.flat (fl.resolve_left nc) hr)) q
theorem w_callDN {ρ : PSt} {Q : List D → PSt → Prop} {d0 : D} {P : PSp} {pa : QA} (h : pa ρ fun rs ρ1 => some1 (fun ds => P ds fun r _ => newOk ((rs ++ [Rv.val d0]).any isCell) r fun d => Q d ρ1) (rdL ρ1 (rs ++ [Rv.val d0]))) : qCallDN d0 P pa ρ Q := h
end
end L3
/-! All orders of some, and the least line among them. -/
namespace L3
open PySem PySem.Spec PyProof.Rows L2 TB LamX OwnE
def insAll (x : Int) (one : List Int) : List (List Int) := (List.range (one.length + 1)).map fun k => one.take k ++ [x] ++ one.drop k
def stepO (found : List (List Int)) (x : Int) : List (List Int) := found.flatMap (insAll x)
def allO (is : List Int) : List (List Int) := is.foldl stepO [[]]
theorem allO_snoc (is : List Int) (x : Int) : allO (is ++ [x]) = stepO (allO is) x := by
  unfold allO
  rw [List.foldl_append]
  rfl
theorem insAll_mem {x : Int} {one o : List Int} : o ∈ insAll x one ↔ ∃ a b, one = a ++ b ∧ o = a ++ [x] ++ b := by
  unfold insAll
  rw [List.mem_map]
  constructor
  · rintro ⟨k, _, rfl⟩
    exact ⟨one.take k, one.drop k, (List.take_append_drop k one).symm, rfl⟩
  · rintro ⟨a, b, rfl, rfl⟩
    refine ⟨a.length, List.mem_range.mpr (by rw [List.length_append]; omega), ?_⟩
    rw [List.take_left, List.drop_left]
theorem allO_mem : ∀ (n : Nat) (is : List Int), is.length = n → ∀ o, o ∈ allO is ↔ o.Perm is
  | 0, is, e, o => by
    obtain rfl := List.eq_nil_of_length_eq_zero e
    show o ∈ [[]] ↔ _
    rw [List.mem_singleton, List.perm_nil]
  | n + 1, is, e, o => by
    have hne : is ≠ [] := by
      rintro rfl
      exact nomatch e
    obtain ⟨l, x, rfl⟩ : ∃ l x, is = l ++ [x] := ⟨is.dropLast, is.getLast hne, (List.dropLast_concat_getLast hne).symm⟩
    rw [List.length_append, List.length_singleton] at e
    have hl : l.length = n := by omega
    rw [allO_snoc]
    unfold stepO
    rw [List.mem_flatMap]
    constructor
    · rintro ⟨one, h1, h2⟩
      obtain ⟨a, b, rfl, rfl⟩ := insAll_mem.mp h2
      have h3 := (allO_mem n l hl _).mp h1
      have h4 : (a ++ [x] ++ b).Perm ((a ++ b) ++ [x]) := by
        rw [List.append_assoc, List.append_assoc]
        exact List.Perm.append_left a List.perm_append_comm
      exact h4.trans (h3.append_right [x])
    · intro h
      have hx : x ∈ o := h.mem_iff.mpr (List.mem_append_right _ (List.mem_singleton.mpr rfl))
      obtain ⟨a, b, rfl⟩ := List.append_of_mem hx
      have h4 : (a ++ [x] ++ b).Perm ((a ++ b) ++ [x]) := by
        rw [List.append_assoc, List.append_assoc]
        exact List.Perm.append_left a List.perm_append_comm
      have h5 : ((a ++ b) ++ [x]).Perm (l ++ [x]) := h4.symm.trans (by rw [List.append_assoc]; exact h)
      refine ⟨a ++ b, (allO_mem n l hl _).mpr ((List.perm_append_right_iff [x]).mp h5), insAll_mem.mpr ⟨a, b, rfl, by rw [List.append_assoc]; rfl⟩⟩
theorem insAll_len (x : Int) (one : List Int) : (insAll x one).length = one.length + 1 := by
  unfold insAll
  rw [List.length_map, List.length_range]
theorem stepO_len {n : Nat} {x : Int} : ∀ {found : List (List Int)}, (∀ o ∈ found, o.length = n) → (stepO found x).length = found.length * (n + 1)
  | [], _ => by
    unfold stepO
    simp
  | o :: found, h => by
    have ih := stepO_len (n := n) (x := x) (found := found) fun u hu => h u (List.mem_cons_of_mem _ hu)
    unfold stepO at ih ⊢
    rw [List.flatMap_cons, List.length_append, ih, insAll_len, h o List.mem_cons_self, List.length_cons, Nat.succ_mul, Nat.add_comm]
theorem allO_len5 {is : List Int} (h : is.length ≤ 5) : (allO is).length ≤ 120 := by
  have key : ∀ (n : Nat) (is : List Int), is.length = n → n ≤ 5 → (allO is).length ≤ [1, 1, 2, 6, 24, 120].getD n 120 := by
    intro n
    induction n with
    | zero =>
      intro is e _
      rw [List.eq_nil_of_length_eq_zero e]
      decide
    | succ n ih =>
      intro is e hn
      have hne : is ≠ [] := by
        rintro rfl
        exact nomatch e
      obtain ⟨l, x, rfl⟩ : ∃ l x, is = l ++ [x] := ⟨is.dropLast, is.getLast hne, (List.dropLast_concat_getLast hne).symm⟩
      rw [List.length_append, List.length_singleton] at e
      have hl : l.length = n := by omega
      rw [allO_snoc, stepO_len (n := n) (fun o ho => by rw [((allO_mem n l hl o).mp ho).length_eq, hl])]
      have h1 := ih l hl (by omega)
      have h2 := Nat.mul_le_mul_right (n + 1) h1
      refine Nat.le_trans h2 ?_
      match n, hn with
      | 0, _ => decide
      | 1, _ => decide
      | 2, _ => decide
      | 3, _ => decide
      | 4, _ => decide
  have h1 := key is.length is rfl h
  refine Nat.le_trans h1 ?_
  match is.length, h with
  | 0, _ => decide
  | 1, _ => decide
  | 2, _ => decide
  | 3, _ => decide
  | 4, _ => decide
  | 5, _ => decide
theorem stepO_snoc (l : List (List Int)) (o : List Int) (x : Int) : stepO (l ++ [o]) x = stepO l x ++ insAll x o := by
  unfold stepO
  rw [List.flatMap_append, List.flatMap_cons, List.flatMap_nil, List.append_nil]
theorem allO_le {is : List Int} (h : is.length ≤ 5) {j i : Nat} {x : Int} (hx : is[i]? = some x) : (stepO ((allO (is.take i)).take j) x).length ≤ 120 := by
  have h1 : (allO (is.take (i + 1))).length ≤ 120 := allO_len5 (by rw [List.length_take]; omega)
  rw [take_next hx, allO_snoc] at h1
  have h2 : stepO (allO (is.take i)) x = stepO ((allO (is.take i)).take j) x ++ stepO ((allO (is.take i)).drop j) x := by
    unfold stepO
    rw [← List.flatMap_append, List.take_append_drop]
  rw [h2, List.length_append] at h1
  omega
def pAllO : PSp := fun ds Q => ∃ is : List Int, ds = [.lst (is.map D.int)] ∧ is.length ≤ 5 ∧ Q (.val (.lst ((allO is).map isD))) none
/-- of each pair the one stands ahead of the other -/
def aheadB (qs : List Pr) (line : List Str) : Bool := (qs.map fun p => decide ((ixS line p.1 : Int) < (ixS line p.2 : Int))).all id
def pIsL : PSp := fun ds Q => ∃ (qs : List Pr) (line : List Str), ds = [.lst (qs.map prD), .lst (strsD line)] ∧ qs.length ≤ 900 ∧ (∀ p ∈ qs, p.1 ∈ line ∧ p.2 ∈ line) ∧ Q (.val (.bl (aheadB qs line))) none
end L3
/-! sorted of pairs of a number and a list of numbers. -/
namespace L3
open PySem PySem.Spec PyProof.Rows L2 TB LamX OwnE
abbrev WK := Int × List Int
def dWK (b : WK) : PyData := .tuple [.int b.1, .list (b.2.map .int)]
def kltW (p q : WK) : Prop := p.1 < q.1 ∨ (p.1 = q.1 ∧ p.2 < q.2)
instance (p q : WK) : Decidable (kltW p q) := inferInstanceAs (Decidable (_ ∨ _))
theorem dataLt_WK (p q : WK) : PySem.W.dataLt (dWK p) (dWK q) = decide (kltW p q) := by
  unfold dWK
  rw [PySem.W.dataLt_pair (by simp [PySem.W.alike]) (by rw [PySem.W.alike]; exact PySem.W.alike_ints _ _), PySem.W.dataLt_int]
  have e3 : PySem.W.dataLt (.list (p.2.map .int)) (.list (q.2.map .int)) = decide (p.2 < q.2) := (PySem.W.dataLt_list _ _).trans (PySem.W.dataLt_ints _ _)
  have e4 : PyData.eqv (.list (p.2.map .int)) (.list (q.2.map .int)) = decide (p.2 = q.2) := eqv_ints2 p.2 q.2
  rw [e3, e4]
  unfold kltW
  simp only [PyData.eqv, beq_iff_eq]
  by_cases h1 : p.1 = q.1
  · rw [if_pos h1]
    by_cases h2 : p.2 = q.2
    · rw [decide_eq_true h2, if_pos rfl]
      refine (decide_eq_false fun h => ?_).symm
      rcases h with h | ⟨_, h⟩
      · omega
      · rw [h2] at h
        exact List.lt_irrefl _ h
    · rw [decide_eq_false h2, if_neg (by simp)]
      refine decide_eq_decide.mpr ⟨fun h => Or.inr ⟨h1, h⟩, fun h => ?_⟩
      rcases h with h | ⟨_, h⟩
      · omega
      · exact h
  · rw [if_neg h1]
    refine decide_eq_decide.mpr ⟨Or.inl, fun h => ?_⟩
    rcases h with h | ⟨h, _⟩
    · exact h
    · exact absurd h h1
theorem kltW_tr {p q r : WK} (h : ¬ kltW q p) (k : ¬ kltW r q) : ¬ kltW r p := by
  unfold kltW at *
  intro l
  have h1 : ¬ q.1 < p.1 := fun z => h (Or.inl z)
  have k1 : ¬ r.1 < q.1 := fun z => k (Or.inl z)
  rcases l with l | ⟨l, m⟩
  · omega
  · have e1 : q.1 = p.1 := by omega
    have e2 : r.1 = q.1 := by omega
    exact lt_nt (fun z => h (Or.inr ⟨e1, z⟩)) (fun z => k (Or.inr ⟨e2, z⟩)) m
theorem kltW_as {p q : WK} (h : kltW p q) : ¬ kltW q p := by
  unfold kltW at *
  intro l
  rcases h with h | ⟨h, m⟩ <;> rcases l with l | ⟨l, n⟩
  · omega
  · omega
  · omega
  · exact List.lt_asymm m n
def leW (p q : WK) : Bool := !decide (kltW q p)
theorem sort_head {bs cs : List WK} {c : WK} {r : List WK} (e : cs = bs.mergeSort leW) (ec : cs = c :: r) : cs.Perm bs ∧ ∀ y ∈ bs, ¬ kltW y c := by
  have pm : cs.Perm bs := by
    rw [e]
    exact List.mergeSort_perm _ _
  refine ⟨pm, fun y hy => ?_⟩
  have sr := List.pairwise_mergeSort (le := leW) (fun a b d h1 h2 => by
    unfold leW at *
    simp only [Bool.not_eq_true', decide_eq_false_iff_not] at *
    exact kltW_tr h1 h2) (fun a b => by
    unfold leW
    by_cases h : kltW b a
    · have := kltW_as h
      simp [h, this]
    · simp [h]) bs
  rw [← e, ec] at sr
  have hy2 := pm.mem_iff.mpr hy
  rw [ec] at hy2
  rcases List.mem_cons.mp hy2 with rfl | hy2
  · exact fun z => kltW_as z z
  · have := (List.pairwise_cons.mp sr).1 y hy2
    unfold leW at this
    simpa using this
def rSortW (K : PySem.W.Frag) : List V → Hp → VK → Prop := fun xs H Q => ∃ (a : Addr) (vs : List V) (bs : List WK) (Rq : V → WK → Prop), xs = [.ref a] ∧ SqL K H a vs ∧ DpAll K H vs (bs.map dWK) ∧ (∀ (i : Nat) v b, vs[i]? = some v → bs[i]? = some b → Rq v b) ∧ bs.length ≤ 1000000 ∧
  ∀ (l : Addr) (ws : List V) (cs : List WK), H l = none → cs.Perm bs → (∀ c r, cs = c :: r → ∀ y ∈ bs, ¬ kltW y c) → ws.length = cs.length → (∀ (i : Nat) v b, ws[i]? = some v → cs[i]? = some b → Rq v b) → Q (.ref l) (upd H l (.lst ws))
theorem each_of_get {α β : Type} {R : α → β → Prop} : ∀ {as : List α} {bs : List β}, as.length = bs.length → (∀ (i : Nat) a b, as[i]? = some a → bs[i]? = some b → R a b) → PySem.W.EachIs R as bs
  | [], [], _, _ => .nil
  | [], _ :: _, e, _ => nomatch e
  | _ :: _, [], e, _ => nomatch e
  | a :: as, b :: bs, e, h => .cons (h 0 a b rfl rfl) (each_of_get (Nat.succ.inj e) fun i x y h1 h2 => h (i + 1) x y (by simpa using h1) (by simpa using h2))
theorem get_of_each {α β : Type} {R : α → β → Prop} : ∀ {as : List α} {bs : List β}, PySem.W.EachIs R as bs → as.length = bs.length ∧ ∀ (i : Nat) a b, as[i]? = some a → bs[i]? = some b → R a b
  | _, _, .nil => ⟨rfl, fun i a b h => by simp at h⟩
  | _, _, .cons h t => by
    obtain ⟨l, g⟩ := get_of_each t
    refine ⟨congrArg Nat.succ l, fun i a b h1 h2 => ?_⟩
    cases i with
    | zero =>
      obtain rfl := Option.some.inj (show some _ = some a from h1)
      obtain rfl := Option.some.inj (show some _ = some b from h2)
      exact h
    | succ i => exact g i a b (by simpa using h1) (by simpa using h2)
theorem choose_vals {Rq : V → WK → Prop} : ∀ {us : List Value} {cs : List WK}, PySem.W.EachIs (fun u b => ∃ w, RelV w u ∧ Rq w b) us cs → ∃ ws : List V, Vals ws us ∧ ws.length = cs.length ∧ ∀ (i : Nat) v b, ws[i]? = some v → cs[i]? = some b → Rq v b
  | _, _, .nil => ⟨[], .nil, rfl, fun i v b h => by simp at h⟩
  | _, _, .cons ⟨w, r, q⟩ t => by
    obtain ⟨ws, v, l, g⟩ := choose_vals t
    refine ⟨w :: ws, .cons r v, congrArg Nat.succ l, fun i a b h1 h2 => ?_⟩
    cases i with
    | zero =>
      obtain rfl := Option.some.inj (show some _ = some a from h1)
      obtain rfl := Option.some.inj (show some _ = some b from h2)
      exact q
    | succ i => exact g i a b (by simpa using h1) (by simpa using h2)
theorem cr_sortW {Y : Cx} (K : PySem.W.Frag) (hu : Y.A.units + 65 < cLine) (hK : Y.K = K := by rfl) : CallR Y (.builtin "sorted") (rSortW K) := by
  subst hK
  intro pins s σ H vs us Q I r h
  obtain ⟨a, ws, bs, Rq, rfl, hs, dp, hq, hl0, q⟩ := h
  obtain ⟨its, rv, hl, _⟩ := I.list hs
  rw [Vals.ref1 r]
  obtain ⟨as, ra⟩ := Dp.readsAll I _ ws its dp rv
  have lw : ws.length = bs.length := by
    have := dpAll_len dp
    rw [List.length_map] at this
    exact this
  have li : its.length = bs.length := by rw [← rv.length, lw]
  have hal : PySem.W.AllAlike (bs.map dWK) := PySem.W.AllAlike.of fun b b' => by
    unfold dWK
    simp only [PySem.W.alike, PySem.W.alikeAll, Bool.and_true, Bool.true_and]
    exact PySem.W.alike_ints _ _
  refine PySem.W.sorted_data (bs := bs) (enc := dWK) (R := fun u b => ∃ w, RelV w u ∧ Rq w b) hl.isList (each_of_get li fun i u b h1 h2 => ?_) (PySem.W.readsAll_each dWK ra) hal (PySem.W.Sortable.tuples fun b => ⟨_, _, rfl⟩) (by rw [sizeLine_eq]; omega) (fun b _ => ?_) fun out ho he => ?_
  · rcases vals_get rv i with ⟨_, z⟩ | ⟨w, u', z1, z2, z3⟩
    · rw [z] at h1
      exact nomatch h1
    · rw [z2] at h1
      cases Option.some.inj h1
      exact ⟨w, z3, hq i w b z1 h2⟩
  · have e1 : (dWK b).depth ≤ 2 := by
      unfold dWK
      simp only [PyData.depth, PyData.depthAll, PySem.W.depth_ints]
      omega
    show Y.A.units + 2 + (dWK b).depth < cLine
    omega
  · obtain ⟨zs, vz, lz, gz⟩ := choose_vals he
    have el : (bs.mergeSort (PySem.W.dataLe false dWK)) = bs.mergeSort leW := by
      have : PySem.W.dataLe false dWK = leW := by
        funext p q
        show (!PySem.W.dataLt (dWK q) (dWK p)) = _
        rw [dataLt_WK]
        rfl
      rw [this]
    rw [el] at lz gz
    have pm : (bs.mergeSort leW).Perm bs := List.mergeSort_perm _ _
    obtain ⟨ep, he'⟩ := PyProof.Rows.sortedAll_at s.heap its (List.toArray out)
    refine ⟨.ref _, upd H (s.heap.objs.size + 1) (.lst zs), I.laid (t' := s.toks) (fun _ _ => PyProof.Rows.sortedAll_old) (Nat.le_succ _) ⟨by rw [lz, pm.length_eq, sizeLine_eq]; omega, out, ep, vz, he'⟩, rfl, q _ zs (bs.mergeSort leW) (I.hok.fresh (Nat.le_succ _)) pm (fun c r e => (sort_head rfl e).2) lz gz⟩
section
variable {X : Sx} {K : PySem.W.Frag}
abbrev kD (b : WK) : D := .tup [.int b.1, isD b.2]
theorem pd_kD (b : WK) : pd (kD b) = some (dWK b) := by
  show (pdL [.int b.1, isD b.2]).map PyData.tuple = _
  show (consO (some (.int b.1)) (consO (pd (isD b.2)) (some []))).map PyData.tuple = _
  rw [show pd (isD b.2) = some (dInts b.2) from pd_ints b.2]
  rfl
def oSortW : OLN := fun as Q => ∃ bs : List WK, as = [.lst (bs.map kD)] ∧ bs.length ≤ 1000000 ∧ ∀ cs : List WK, cs.Perm bs → (∀ c r, cs = c :: r → ∀ y ∈ bs, ¬ kltW y c) → Q (cs.map kD)
theorem lc_sortW (hK : X.K = K := by rfl) : LiCN X (rSortW K) oSortW := by
  subst hK
  intro c hX σ F H ρ xs dxs Q Q3 R rx hq h
  subst hX
  obtain ⟨bs, rfl, hl, h⟩ := h
  obtain ⟨v, t, rfl, ⟨p, vs, rfl, hp, r⟩, et⟩ := rx
  obtain rfl : t = [] := et
  refine ⟨p, vs, bs, fun v b => Rp c.K F (kD b) v, rfl, sqL_of hp, pdL_dp R.sub r (pdL_map (g := dWK) pd_kD _), fun i v b e1 e2 => ?_, hl, fun l ws cs nl pm mn lw gw => ?_⟩
  · obtain ⟨d, e3, rp⟩ := r.get e1
    rw [List.getElem?_map, e2] at e3
    obtain rfl := Option.some.inj e3
    exact rp
  · have rr : RpL c.K F (cs.map kD) ws := RpL.of_get (by rw [List.length_map]; exact lw) fun j d v h1 h2 => by
      rw [List.getElem?_map] at h1
      obtain ⟨b, hb, rfl⟩ := Option.map_eq_some_iff.mp h1
      exact gw j v b h2 hb
    obtain ⟨R2, n2⟩ := NewL.made R nl rr
    exact hq _ l F _ R2 (Same.refl F) n2 (h cs pm mn)
end
end L3
/-! The line grown step by step is the least of all. -/
namespace L3
open PySem PySem.Spec PyProof.Rows L2 TB LamX OwnE
def places (n : Nat) : List Int := (List.range n).map fun i : Nat => (i : Int)
theorem rgD_places (n : Nat) : rgD n = (places n).map D.int := by
  unfold rgD places
  rw [List.map_map]
  rfl
theorem places_len (n : Nat) : (places n).length = n := by
  unfold places
  rw [List.length_map, List.length_range]
theorem mem_places {n : Nat} {p : Int} : p ∈ places n ↔ 0 ≤ p ∧ p < n := by
  unfold places
  rw [List.mem_map]
  constructor
  · rintro ⟨k, hk, rfl⟩
    have := List.mem_range.mp hk
    omega
  · rintro ⟨h1, h2⟩
    exact ⟨p.toNat, List.mem_range.mpr (by omega), by omega⟩
theorem places_nd (n : Nat) : (places n).Nodup := by
  unfold places
  have on := List.nodup_range (n := n)
  rw [List.nodup_iff_pairwise_ne] at on ⊢
  rw [List.pairwise_map]
  exact on.imp fun hab e => hab (by omega)
def atL (ls : List Str) (p : Int) : Str := ls.getD p.toNat Str.empty
def lineOf (ls : List Str) (o : List Int) : List Str := o.map (atL ls)
def placesOf (ls line : List Str) : List Int := line.map fun z => (ixS ls z : Int)
theorem atL_get {ls : List Str} {p : Int} (h1 : 0 ≤ p) (h2 : p < ls.length) : ls[p.toNat]? = some (atL ls p) := by
  have h : p.toNat < ls.length := by omega
  unfold atL
  rw [List.getD_eq_getElem?_getD, List.getElem?_eq_getElem h]
  rfl
theorem atL_mem {ls : List Str} {p : Int} (h1 : 0 ≤ p) (h2 : p < ls.length) : atL ls p ∈ ls := List.mem_of_getElem? (atL_get h1 h2)
theorem ixS_lt {ls : List Str} {z : Str} (h : z ∈ ls) : ixS ls z < ls.length := (List.getElem?_eq_some_iff.mp (ixS_at h).1).1
theorem ixS_of {ls : List Str} (nd : ls.Nodup) {k : Nat} {z : Str} (h : ls[k]? = some z) : ixS ls z = k := by
  obtain ⟨h1, h2⟩ := ixS_at (List.mem_of_getElem? h)
  obtain ⟨hk, e⟩ := List.getElem?_eq_some_iff.mp h
  obtain ⟨hj, e2⟩ := List.getElem?_eq_some_iff.mp h1
  exact (List.getElem_inj nd).mp (e2.trans e.symm)
theorem ixS_atL {ls : List Str} (nd : ls.Nodup) {p : Int} (h1 : 0 ≤ p) (h2 : p < ls.length) : (ixS ls (atL ls p) : Int) = p := by
  rw [ixS_of nd (atL_get h1 h2)]
  omega
theorem atL_ixS {ls : List Str} {z : Str} (h : z ∈ ls) : atL ls (ixS ls z : Int) = z := by
  have h1 := atL_get (ls := ls) (p := (ixS ls z : Int)) (by omega) (by have := ixS_lt h; omega)
  rw [Int.toNat_natCast, (ixS_at h).1] at h1
  exact (Option.some.inj h1).symm
theorem aheadB_iff {qs : List Pr} {line : List Str} : aheadB qs line = true ↔ ∀ p ∈ qs, ixS line p.1 < ixS line p.2 := by
  unfold aheadB
  rw [List.all_map, List.all_eq_true]
  constructor
  · intro h p hp
    have := h p hp
    simpa using this
  · intro h p hp
    have := h p hp
    simpa using this
/-- a full line: all locks -/
structure Full (ls : List Str) (qs : List Pr) (line : List Str) : Prop where
  nd : ls.Nodup
  mem : ∀ p ∈ qs, p.1 ∈ ls ∧ p.2 ∈ ls
  gl : GL ls qs [] line
  len : line.length = ls.length
theorem Full.all {ls : List Str} {qs : List Pr} {line : List Str} (h : Full ls qs line) : ∀ z, z ∈ line ↔ z ∈ ls := by
  intro z
  refine ⟨h.gl.mem z, fun hz => ?_⟩
  by_cases c : z ∈ line
  · exact c
  · have h1 := nodup_le (l := z :: line) (m := ls) (List.nodup_cons.mpr ⟨c, h.gl.nd⟩) (fun u hu => by
      rcases List.mem_cons.mp hu with rfl | hu
      · exact hz
      · exact h.gl.mem u hu)
    have := h.len
    rw [List.length_cons] at h1
    omega
theorem Full.perm {ls : List Str} {qs : List Pr} {line : List Str} (h : Full ls qs line) : line.Perm ls := (List.perm_ext_iff_of_nodup h.gl.nd h.nd).mpr h.all
/-- it follows the pairs -/
theorem Full.ahead {ls : List Str} {qs : List Pr} {line : List Str} (h : Full ls qs line) : aheadB qs line = true := by
  refine aheadB_iff.mpr fun p hp => ?_
  have h2 := (h.all p.2).mpr (h.mem p hp).2
  have f := h.gl.free _ _ (ixS_at h2).1
  have h3 := freeB_iff.mp f p.1 hp
  obtain ⟨k, hk, e⟩ := List.getElem_of_mem h3
  rw [List.length_take] at hk
  rw [List.getElem_take] at e
  have e2 : line[k]? = some p.1 := by
    rw [List.getElem?_eq_getElem (by omega), e]
  rw [ixS_of h.gl.nd e2]
  omega
/-- of those that may stand next it is the first -/
theorem head_first {ls : List Str} (nd : ls.Nodup) {P : Str → Bool} {z u : Str} (h : (ls.filter P).head? = some z) (hu : u ∈ ls) (pu : P u = true) : ixS ls z ≤ ixS ls u := by
  induction ls with
  | nil => exact nomatch hu
  | cons a r ih =>
    by_cases c : P a = true
    · rw [List.filter_cons_of_pos c] at h
      obtain rfl : a = z := Option.some.inj h
      rw [ixS_of nd (k := 0) rfl]
      exact Nat.zero_le _
    · rw [List.filter_cons_of_neg c] at h
      have hua : u ≠ a := fun e => c (e ▸ pu)
      have hur : u ∈ r := (List.mem_cons.mp hu).resolve_left hua
      have ndr := (List.nodup_cons.mp nd).2
      have h2 := ih ndr h hur
      have hz : z ∈ r := by
        have := List.mem_of_mem_head? (by rw [h]; rfl : z ∈ (r.filter P).head?)
        exact (List.mem_filter.mp this).1
      have e1 : ixS (a :: r) u = ixS r u + 1 := ixS_of nd (by rw [List.getElem?_cons_succ]; exact (ixS_at hur).1)
      have e2 : ixS (a :: r) z = ixS r z + 1 := ixS_of nd (by rw [List.getElem?_cons_succ]; exact (ixS_at hz).1)
      omega
/-- one that might stand earlier doesn't stand free -/
theorem Full.least {ls : List Str} {qs : List Pr} {line : List Str} (h : Full ls qs line) {k : Nat} {z u : Str} (hk : line[k]? = some z) (hu : u ∈ ls) (n : u ∉ line.take k) (f : freeB qs u (line.take k) = true) : ixS ls z ≤ ixS ls u := by
  have h1 := h.gl.least k z (Nat.zero_le _) hk
  refine head_first h.nd h1 hu ?_
  rw [f, decide_eq_false n]
  rfl
theorem lineOf_get {ls : List Str} {o : List Int} {k : Nat} {p : Int} (h : o[k]? = some p) : (lineOf ls o)[k]? = some (atL ls p) := by
  unfold lineOf
  rw [List.getElem?_map, h]
  rfl
theorem lineOf_nd {ls : List Str} (nd : ls.Nodup) {o : List Int} (h : o.Perm (places ls.length)) : (lineOf ls o).Nodup := by
  unfold lineOf
  have on : o.Nodup := h.nodup_iff.mpr (places_nd _)
  rw [List.nodup_iff_pairwise_ne] at on ⊢
  rw [List.pairwise_map]
  refine List.Pairwise.imp_of_mem ?_ on
  intro a b ha hb hab e
  have a1 := mem_places.mp (h.mem_iff.mp ha)
  have b1 := mem_places.mp (h.mem_iff.mp hb)
  apply hab
  rw [← ixS_atL nd a1.1 a1.2, ← ixS_atL nd b1.1 b1.2, e]
theorem lineOf_mem {ls : List Str} {o : List Int} (h : o.Perm (places ls.length)) {z : Str} (hz : z ∈ ls) : z ∈ lineOf ls o := by
  refine List.mem_map.mpr ⟨(ixS ls z : Int), h.mem_iff.mpr (mem_places.mpr ⟨by omega, by have := ixS_lt hz; omega⟩), atL_ixS hz⟩
theorem placesOf_get {ls line : List Str} {i : Nat} {z : Str} (h : line[i]? = some z) : (placesOf ls line)[i]? = some (ixS ls z : Int) := by
  unfold placesOf
  rw [List.getElem?_map, h]
  rfl
theorem not_less {ls : List Str} {qs : List Pr} {line : List Str} (h : Full ls qs line) {o : List Int} (ho : o.Perm (places ls.length)) (ha : aheadB qs (lineOf ls o) = true) : ¬ o < placesOf ls line := by
  intro lt
  have hol : o.length = ls.length := by
    rw [ho.length_eq, places_len]
  have hpl : (placesOf ls line).length = ls.length := by
    unfold placesOf
    rw [List.length_map, h.len]
  rcases List.lt_iff_exists.mp lt with ⟨_, l⟩ | ⟨i, h1, h2, same, less⟩
  · omega
  · have hi : i < line.length := by
      rw [h.len]
      omega
    have e1 : (placesOf ls line)[i] = (ixS ls line[i] : Int) := by
      have := placesOf_get (ls := ls) (List.getElem?_eq_getElem hi)
      rw [List.getElem?_eq_getElem h2] at this
      exact Option.some.inj this
    rw [e1] at less
    have op : ∀ j (hj : j < o.length), 0 ≤ o[j] ∧ o[j] < ls.length := fun j hj => mem_places.mp (ho.mem_iff.mp (List.getElem_mem hj))
    have ci := op i h1
    have same2 : ∀ j, j < i → (lineOf ls o)[j]? = line[j]? := by
      intro j hj
      have hj1 : j < o.length := by omega
      have hj2 : j < line.length := by omega
      have e2 := same j hj
      have e3 : (placesOf ls line)[j]'(by omega) = (ixS ls line[j] : Int) := by
        have := placesOf_get (ls := ls) (List.getElem?_eq_getElem hj2)
        rw [List.getElem?_eq_getElem (by omega)] at this
        exact Option.some.inj this
      rw [e3] at e2
      rw [lineOf_get (List.getElem?_eq_getElem hj1), e2, atL_ixS (h.gl.mem _ (List.getElem_mem hj2)), List.getElem?_eq_getElem hj2]
    have gi : (lineOf ls o)[i]? = some (atL ls o[i]) := lineOf_get (List.getElem?_eq_getElem h1)
    have nd2 := lineOf_nd h.nd ho
    have nin : atL ls o[i] ∉ line.take i := by
      intro m
      obtain ⟨j, hj, e⟩ := List.getElem_of_mem m
      rw [List.length_take] at hj
      rw [List.getElem_take] at e
      have e2 : (lineOf ls o)[j]? = some (atL ls o[i]) := by
        rw [same2 j (by omega), List.getElem?_eq_getElem (by omega), e]
      have := (ixS_of nd2 e2).symm.trans (ixS_of nd2 gi)
      omega
    have fr : freeB qs (atL ls o[i]) (line.take i) = true := by
      refine freeB_iff.mpr fun a hm => ?_
      have a1 := aheadB_iff.mp ha _ hm
      rw [ixS_of nd2 gi] at a1
      have al := lineOf_mem ho (h.mem _ hm).1
      have e2 := (ixS_at al).1
      rw [same2 _ a1] at e2
      obtain ⟨hj, e3⟩ := List.getElem?_eq_some_iff.mp e2
      have e4 : (line.take i)[ixS (lineOf ls o) a]? = some a := by
        rw [List.getElem?_take_of_lt a1, e2]
      exact List.mem_of_getElem? e4
    have le := h.least (k := i) (z := line[i]) (List.getElem?_eq_getElem hi) (atL_mem ci.1 ci.2) nin fr
    have e5 := ixS_atL h.nd ci.1 ci.2
    omega
theorem placesOf_perm {ls : List Str} {qs : List Pr} {line : List Str} (h : Full ls qs line) : (placesOf ls line).Perm (places ls.length) := by
  have nd : (placesOf ls line).Nodup := by
    unfold placesOf
    have on := h.gl.nd
    rw [List.nodup_iff_pairwise_ne] at on ⊢
    rw [List.pairwise_map]
    refine List.Pairwise.imp_of_mem ?_ on
    intro a b ha hb hab e
    exact hab (ixS_inj (h.gl.mem a ha) (h.gl.mem b hb) (by omega))
  refine (List.perm_ext_iff_of_nodup nd (places_nd _)).mpr fun p => ?_
  rw [mem_places]
  unfold placesOf
  rw [List.mem_map]
  constructor
  · rintro ⟨z, hz, rfl⟩
    have := ixS_lt (h.gl.mem z hz)
    omega
  · rintro ⟨p1, p2⟩
    exact ⟨atL ls p, (h.all _).mpr (atL_mem p1 p2), ixS_atL h.nd p1 p2⟩
theorem lineOf_places {ls : List Str} {qs : List Pr} {line : List Str} (h : Full ls qs line) : lineOf ls (placesOf ls line) = line := by
  unfold lineOf placesOf
  rw [List.map_map]
  have : ∀ l : List Str, (∀ z ∈ l, z ∈ ls) → l.map (atL ls ∘ fun z => (ixS ls z : Int)) = l := by
    intro l
    induction l with
    | nil => intro _; rfl
    | cons a l ih =>
      intro hl
      rw [List.map_cons, ih (fun z hz => hl z (List.mem_cons_of_mem _ hz))]
      show atL ls (ixS ls a : Int) :: l = _
      rw [atL_ixS (hl a List.mem_cons_self)]
  exact this line h.gl.mem
def goodO (ls : List Str) (qs : List Pr) : List (List Int) := (allO (places ls.length)).filter fun o => aheadB qs (lineOf ls o)
theorem good_min {ls : List Str} {qs : List Pr} {line : List Str} (h : Full ls qs line) {m : List Int} (hm : m ∈ goodO ls qs) (mn : ∀ y ∈ goodO ls qs, ¬ y < m) : m = placesOf ls line := by
  have g1 : placesOf ls line ∈ goodO ls qs := by
    refine List.mem_filter.mpr ⟨(allO_mem _ _ rfl _).mpr (placesOf_perm h), ?_⟩
    rw [lineOf_places h]
    exact h.ahead
  obtain ⟨m1, m2⟩ := List.mem_filter.mp hm
  have n1 := not_less h ((allO_mem _ _ rfl _).mp m1) m2
  have n2 := mn _ g1
  exact List.le_antisymm (List.not_lt.mp n2) (List.not_lt.mp n1)
theorem good_ne {ls : List Str} {qs : List Pr} {line : List Str} (h : Full ls qs line) : ∃ x r, goodO ls qs = x :: r := by
  have g1 : placesOf ls line ∈ goodO ls qs := by
    refine List.mem_filter.mpr ⟨(allO_mem _ _ rfl _).mpr (placesOf_perm h), ?_⟩
    rw [lineOf_places h]
    exact h.ahead
  cases e : goodO ls qs with
  | nil => rw [e] at g1; exact nomatch g1
  | cons x r => exact ⟨x, r, rfl⟩
def pLeastL : PSp := fun ds Q => ∃ (ls : List Str) (qs : List Pr) (line : List Str), ds = [.lst (strsD ls), .lst (qs.map prD)] ∧ ls.length ≤ 5 ∧ qs.length ≤ 900 ∧ Full ls qs line ∧ Q (.new (strsD line)) none
def pNoneE : PSp := fun ds Q => ∃ (ls : List Str) (qs : List Pr) (line : List Str), ds = [.lst (strsD ls), .lst (qs.map prD), .lst (strsD line)] ∧ ls.length ≤ 30 ∧ (∀ z ∈ ls, Nm z) ∧ qs.length ≤ 900 ∧ Full ls qs line ∧ Q (.val (.bl true)) none
theorem GL.bare {ls : List Str} (nd : ls.Nodup) : GL ls [] [] ls := by
  refine ⟨nd, fun _ h => h, rfl, Nat.zero_le _, (fun i z _ => freeB_iff.mpr fun a ha => nomatch ha), fun i z _ e => ?_⟩
  unfold nextL
  have e1 : ls = ls.take i ++ ls.drop i := (List.take_append_drop i ls).symm
  have e2 : (ls.filter fun y => !decide (y ∈ ls.take i) && freeB [] y (ls.take i)) = ls.drop i := by
    have f0 : ∀ y, freeB [] y (ls.take i) = true := fun y => freeB_iff.mpr fun a ha => nomatch ha
    have h1 : (ls.take i ++ ls.drop i).filter (fun y => !decide (y ∈ ls.take i) && freeB [] y (ls.take i)) = ls.drop i := by
      rw [List.filter_append]
      have a1 : (ls.take i).filter (fun y => !decide (y ∈ ls.take i) && freeB [] y (ls.take i)) = [] := List.filter_eq_nil_iff.mpr fun y hy => by
        rw [decide_eq_true hy]
        simp
      have a2 : (ls.drop i).filter (fun y => !decide (y ∈ ls.take i) && freeB [] y (ls.take i)) = ls.drop i := List.filter_eq_self.mpr fun y hy => by
        have nin : y ∉ ls.take i := fun hm => by
          rw [e1] at nd
          exact (List.nodup_append.mp nd).2.2 y hm y hy rfl
        rw [decide_eq_false nin, f0 y]
        rfl
      rw [a1, a2]
      rfl
    rw [List.take_append_drop] at h1
    exact h1
  rw [e2, List.head?_drop]
  exact e
def pRight35 : PSp := fun ds Q => ∃ (ls : List Str) (qs : List Pr), ds = [.lst (strsD ls), .lst (qs.map prD)] ∧ ls.Nodup ∧ (∀ z ∈ ls, Nm z) ∧ 1 ≤ ls.length ∧ ls.length ≤ 7 ∧ LP ls qs ∧ qs.length ≤ 100 ∧ Q (.val (.bl true)) none
end L3
/-! Ways by pairs: the least of the shortest. -/
namespace L3
open PySem PySem.Spec PyProof.Rows L2 TB LamX OwnE
/-- w is a way by pairs from a -/
inductive Way (ps : List Pr) (a : Str) : List Str → Prop
  | one : Way ps a [a]
  | step {w : List Str} {u v : Str} : Way ps a w → w.getLast? = some u → (u, v) ∈ ps → Way ps a (w ++ [v])
theorem Way.ne {ps : List Pr} {a : Str} {w : List Str} (h : Way ps a w) : w ≠ [] := by
  cases h with
  | one => simp
  | step _ _ _ => simp
theorem last_snoc (w : List Str) (v : Str) : (w ++ [v]).getLast? = some v := by simp
theorem Way.rch {ps : List Pr} {a : Str} {w : List Str} (h : Way ps a w) : ∀ v, w.getLast? = some v → v = a ∨ Rch ps a v := by
  induction h with
  | one =>
    intro v e
    obtain rfl : a = v := by simpa using e
    exact Or.inl rfl
  | @step w u v hw hu m ih =>
    intro v' e
    rw [last_snoc] at e
    obtain rfl := Option.some.inj e
    rcases ih u hu with rfl | r
    · exact Or.inr (.one m)
    · exact Or.inr (.step r m)
theorem Way.of_rch {ps : List Pr} {a b : Str} (h : Rch ps a b) : ∃ w, Way ps a w ∧ w.getLast? = some b := by
  induction h with
  | one m => exact ⟨_, .step .one (by simp) m, last_snoc _ _⟩
  | step _ m ih =>
    obtain ⟨w, hw, e⟩ := ih
    exact ⟨_, .step hw e m, last_snoc _ _⟩
theorem Way.mem {ls : List Str} {ps : List Pr} (hm : ∀ p ∈ ps, p.1 ∈ ls ∧ p.2 ∈ ls) {a : Str} (ha : a ∈ ls) {w : List Str} (h : Way ps a w) : ∀ z ∈ w, z ∈ ls := by
  induction h with
  | one =>
    intro z hz
    rw [List.mem_singleton.mp hz]
    exact ha
  | step _ _ m ih =>
    intro z hz
    rcases List.mem_append.mp hz with h | h
    · exact ih z h
    · rw [List.mem_singleton.mp h]
      exact (hm _ m).2
/-- the key of a way -/
def keyW (ls : List Str) (w : List Str) : WK := ((w.length : Int), placesOf ls w)
def kLt (ls : List Str) (u w : List Str) : Prop := kltW (keyW ls u) (keyW ls w)
theorem placesOf_len (ls w : List Str) : (placesOf ls w).length = w.length := by
  unfold placesOf
  rw [List.length_map]
theorem placesOf_snoc (ls w : List Str) (v : Str) : placesOf ls (w ++ [v]) = placesOf ls w ++ [(ixS ls v : Int)] := by
  unfold placesOf
  rw [List.map_append]
  rfl
theorem lt_app {p q : List Int} (hl : p.length = q.length) (h : p < q) (i j : Int) : p ++ [i] < q ++ [j] := by
  rcases List.lt_iff_exists.mp h with ⟨_, l⟩ | ⟨k, h1, h2, same, less⟩
  · omega
  · refine List.lt_iff_exists.mpr (Or.inr ⟨k, by rw [List.length_append]; omega, by rw [List.length_append]; omega, fun j hj => ?_, ?_⟩)
    · rw [List.getElem_append_left (by omega), List.getElem_append_left (by omega)]
      exact same j hj
    · rw [List.getElem_append_left h1, List.getElem_append_left h2]
      exact less
theorem lt_last (p : List Int) {i j : Int} (h : i < j) : p ++ [i] < p ++ [j] := by
  refine List.lt_iff_exists.mpr (Or.inr ⟨p.length, by simp, by simp, fun k hk => ?_, ?_⟩)
  · rw [List.getElem_append_left hk, List.getElem_append_left hk]
  · simp
    exact h
theorem kLt_snoc {ls u w : List Str} (h : kLt ls u w) (x y : Str) : kLt ls (u ++ [x]) (w ++ [y]) := by
  unfold kLt kltW keyW at *
  simp only [List.length_append, List.length_singleton, placesOf_snoc] at *
  rcases h with h | ⟨h, l⟩
  · exact Or.inl (by omega)
  · refine Or.inr ⟨by omega, lt_app (by rw [placesOf_len, placesOf_len]; omega) l _ _⟩
theorem kLt_last {ls : List Str} (w : List Str) {x y : Str} (h : ixS ls x < ixS ls y) : kLt ls (w ++ [x]) (w ++ [y]) := by
  unfold kLt kltW keyW
  simp only [List.length_append, List.length_singleton, placesOf_snoc]
  exact Or.inr ⟨trivial, lt_last _ (by omega)⟩
theorem kLt_len {ls u w : List Str} (h : u.length < w.length) : kLt ls u w := Or.inl (by show (u.length : Int) < w.length; omega)
theorem kLt_irr {ls u : List Str} : ¬ kLt ls u u := fun h => kltW_as h h
theorem kLt_tr {ls u v w : List Str} (h : kLt ls u v) (k : kLt ls v w) : kLt ls u w := by
  by_cases c : kLt ls u w
  · exact c
  · exact absurd h (kltW_tr (kltW_as k) c)
theorem kLt_le {ls u v w : List Str} (h : ¬ kLt ls v u) (k : kLt ls v w) : kLt ls u w := by
  by_cases c : kLt ls u w
  · exact c
  · exact absurd k (kltW_tr c h)
theorem kLt_or {ls u w : List Str} (hu : ∀ z ∈ u, z ∈ ls) (hw : ∀ z ∈ w, z ∈ ls) (h1 : ¬ kLt ls u w) (h2 : ¬ kLt ls w u) : u = w := by
  unfold kLt kltW keyW at h1 h2
  simp only at h1 h2
  have n1 : ¬ (u.length : Int) < w.length := fun z => h1 (Or.inl z)
  have n2 : ¬ (w.length : Int) < u.length := fun z => h2 (Or.inl z)
  have e : (u.length : Int) = w.length := by omega
  have p1 : ¬ placesOf ls u < placesOf ls w := fun z => h1 (Or.inr ⟨e, z⟩)
  have p2 : ¬ placesOf ls w < placesOf ls u := fun z => h2 (Or.inr ⟨e.symm, z⟩)
  have ep : placesOf ls u = placesOf ls w := List.le_antisymm (List.not_lt.mp p2) (List.not_lt.mp p1)
  have back : ∀ l : List Str, (∀ z ∈ l, z ∈ ls) → lineOf ls (placesOf ls l) = l := by
    intro l hl
    unfold lineOf placesOf
    rw [List.map_map]
    refine (List.map_congr_left fun z hz => ?_).trans (List.map_id l)
    exact atL_ixS (hl z hz)
  rw [← back u hu, ← back w hw, ep]
/-! ### the search -/
def endOf (w : List Str) : Str := w.getLast?.getD Str.empty
theorem endOf_snoc (w : List Str) (v : Str) : endOf (w ++ [v]) = v := by
  unfold endOf
  rw [last_snoc]
  rfl
theorem endOf_last {w : List Str} (h : w ≠ []) : w.getLast? = some (endOf w) := by
  unfold endOf
  obtain ⟨v, e⟩ : ∃ v, w.getLast? = some v := ⟨w.getLast h, List.getLast?_eq_some_getLast h⟩
  rw [e]
  rfl
structure Bfs (ls : List Str) (ps : List Pr) (a : Str) (W : List (List Str)) (i : Nat) : Prop where
  way : ∀ w ∈ W, Way ps a w
  nd : (W.map endOf).Nodup
  srt : W.Pairwise (kLt ls)
  st : [a] ∈ W
  cl : ∀ (j : Nat) w, j < i → W[j]? = some w → ∀ v, (endOf w, v) ∈ ps → v ∈ W.map endOf
  min : ∀ w ∈ W, ∀ q, Way ps a q → endOf q = endOf w → ¬ kLt ls q w
/-- in the midst of a round: cs is what has been gone through -/
structure BfsM (ls : List Str) (ps : List Pr) (a : Str) (W : List (List Str)) (i : Nat) (wi : List Str) (cs : List Str) : Prop where
  b : Bfs ls ps a W i
  at_ : W[i]? = some wi
  dn : ∀ v ∈ cs, v ∈ W.map endOf
  low : ∀ w ∈ W, w = [a] ∨ ∃ u x, w = u ++ [x] ∧ (kLt ls u wi ∨ (u = wi ∧ x ∈ cs))
theorem Bfs.get_lt {ls : List Str} {ps : List Pr} {a : Str} {W : List (List Str)} {i j k : Nat} {u w : List Str} (h : Bfs ls ps a W i) (hj : W[j]? = some u) (hk : W[k]? = some w) (l : kLt ls u w) : j < k := by
  by_cases c : j < k
  · exact c
  · exfalso
    obtain ⟨h1, e1⟩ := List.getElem?_eq_some_iff.mp hj
    obtain ⟨h2, e2⟩ := List.getElem?_eq_some_iff.mp hk
    by_cases c2 : k = j
    · subst c2
      rw [e1] at e2
      rw [e2] at l
      exact kLt_irr l
    · have := List.pairwise_iff_getElem.mp h.srt k j h2 h1 (by omega)
      rw [e1, e2] at this
      exact kltW_as l this
/-- what is less than the way at i has its end among those found -/
theorem Bfs.below {ls : List Str} {ps : List Pr} {a : Str} {W : List (List Str)} {i : Nat} {wi : List Str} (h : Bfs ls ps a W i) (hi : W[i]? = some wi) {q : List Str} (hq : Way ps a q) : kLt ls q wi → endOf q ∈ W.map endOf := by
  induction hq with
  | one => exact fun _ => List.mem_map.mpr ⟨[a], h.st, rfl⟩
  | @step q u v hq hu m ih =>
    intro l
    have l1 : kLt ls q wi := kLt_tr (kLt_len (by rw [List.length_append, List.length_singleton]; omega)) l
    obtain ⟨w, hw, e⟩ := List.mem_map.mp (ih l1)
    obtain ⟨j, hj, ej⟩ := List.getElem_of_mem hw
    have gj : W[j]? = some w := by rw [List.getElem?_eq_getElem hj, ej]
    have l2 : kLt ls w wi := kLt_le (h.min w hw q hq e.symm) l1
    have hji := h.get_lt gj hi l2
    rw [endOf_snoc]
    refine h.cl j w hji gj v ?_
    have eu : endOf q = u := by
      unfold endOf
      rw [hu]
      rfl
    rw [e, eu]
    exact m
theorem BfsM.add {ls : List Str} {ps : List Pr} {a : Str} {W : List (List Str)} {i : Nat} {wi cs : List Str} {v : Str} (h : BfsM ls ps a W i wi cs) (hm : (endOf wi, v) ∈ ps) (hn : v ∉ W.map endOf) (hc : ∀ x ∈ cs, ixS ls x < ixS ls v) :
    BfsM ls ps a (W ++ [wi ++ [v]]) i wi (cs ++ [v]) := by
  have hwi : wi ∈ W := List.mem_of_getElem? h.at_
  have hil : i < W.length := (List.getElem?_eq_some_iff.mp h.at_).1
  have wy := h.b.way wi hwi
  have wnew : Way ps a (wi ++ [v]) := .step wy (endOf_last wy.ne) hm
  have me : ∀ {x}, x ∈ W.map endOf → x ∈ (W ++ [wi ++ [v]]).map endOf := fun hx => by rw [List.map_append]; exact List.mem_append_left _ hx
  have mv : v ∈ (W ++ [wi ++ [v]]).map endOf := List.mem_map.mpr ⟨wi ++ [v], List.mem_append_right _ (List.mem_singleton.mpr rfl), endOf_snoc _ _⟩
  have wpos : 1 ≤ wi.length := by
    have := wy.ne
    cases wi with
    | nil => exact absurd rfl this
    | cons _ _ => rw [List.length_cons]; omega
  refine ⟨⟨fun w hw => ?_, ?_, ?_, List.mem_append_left _ h.b.st, fun j w hj e x hx => ?_, fun w hw q hq e => ?_⟩, by rw [List.getElem?_append_left hil]; exact h.at_, fun x hx => ?_, fun w hw => ?_⟩
  · rcases List.mem_append.mp hw with m | m
    · exact h.b.way w m
    · rw [List.mem_singleton.mp m]
      exact wnew
  · rw [List.map_append, List.nodup_append]
    refine ⟨h.b.nd, by simp, fun x hx y hy e => hn ?_⟩
    have ey : y = v := by
      have := List.mem_singleton.mp hy
      rw [this, endOf_snoc]
    rw [← ey, ← e]
    exact hx
  · rw [List.pairwise_append]
    refine ⟨h.b.srt, by simp, fun w hw y hy => ?_⟩
    rw [List.mem_singleton.mp hy]
    rcases h.low w hw with e | ⟨u, x, e, l | ⟨e2, hx⟩⟩
    · rw [e]
      exact kLt_len (by rw [List.length_append, List.length_singleton, List.length_singleton]; omega)
    · rw [e]
      exact kLt_snoc l x v
    · rw [e, e2]
      exact kLt_last wi (hc x hx)
  · have hj2 : j < W.length := by omega
    rw [List.getElem?_append_left hj2] at e
    exact me (h.b.cl j w hj e x hx)
  · rcases List.mem_append.mp hw with m | m
    · exact h.b.min w m q hq e
    · have ew := List.mem_singleton.mp m
      subst ew
      rw [endOf_snoc] at e
      intro l
      cases hq with
      | one =>
        have : endOf [a] = v := e
        exact hn (List.mem_map.mpr ⟨[a], h.b.st, this⟩)
      | @step q u v' hq hu m2 =>
        rw [endOf_snoc] at e
        subst e
        have l1 : kLt ls q wi := by
          unfold kLt kltW keyW at l ⊢
          simp only [List.length_append, List.length_singleton, placesOf_snoc] at l
          rcases l with l | ⟨l, p⟩
          · exact Or.inl (by show (q.length : Int) < wi.length; omega)
          · have el : (placesOf ls q).length = (placesOf ls wi).length := by
              rw [placesOf_len, placesOf_len]
              omega
            refine Or.inr ⟨by show (q.length : Int) = wi.length; omega, ?_⟩
            by_cases c : placesOf ls q < placesOf ls wi
            · exact c
            · exfalso
              by_cases c2 : placesOf ls wi < placesOf ls q
              · exact List.lt_asymm p (lt_app el.symm c2 _ _)
              · have ep : placesOf ls q = placesOf ls wi := List.le_antisymm (List.not_lt.mp c2) (List.not_lt.mp c)
                rw [ep] at p
                exact List.lt_irrefl _ p
        obtain ⟨w, hw2, e2⟩ := List.mem_map.mp (h.b.below h.at_ hq l1)
        obtain ⟨j, hj, ej⟩ := List.getElem_of_mem hw2
        have gj : W[j]? = some w := by rw [List.getElem?_eq_getElem hj, ej]
        have l2 : kLt ls w wi := kLt_le (h.b.min w hw2 q hq e2.symm) l1
        have eu : endOf q = u := by
          unfold endOf
          rw [hu]
          rfl
        exact hn (h.b.cl j w (h.b.get_lt gj h.at_ l2) gj _ (by rw [e2, eu]; exact m2))
  · rcases List.mem_append.mp hx with m | m
    · exact me (h.dn x m)
    · rw [List.mem_singleton.mp m]
      exact mv
  · rcases List.mem_append.mp hw with m | m
    · rcases h.low w m with e | ⟨u, x, e, l | ⟨e2, hx⟩⟩
      · exact Or.inl e
      · exact Or.inr ⟨u, x, e, Or.inl l⟩
      · exact Or.inr ⟨u, x, e, Or.inr ⟨e2, List.mem_append_left _ hx⟩⟩
    · exact Or.inr ⟨wi, v, List.mem_singleton.mp m, Or.inr ⟨rfl, List.mem_append_right _ (List.mem_singleton.mpr rfl)⟩⟩
theorem BfsM.skip {ls : List Str} {ps : List Pr} {a : Str} {W : List (List Str)} {i : Nat} {wi cs : List Str} {v : Str} (h : BfsM ls ps a W i wi cs) (hn : v ∈ W.map endOf) : BfsM ls ps a W i wi (cs ++ [v]) := by
  refine ⟨h.b, h.at_, fun x hx => ?_, fun w hw => ?_⟩
  · rcases List.mem_append.mp hx with m | m
    · exact h.dn x m
    · rw [List.mem_singleton.mp m]
      exact hn
  · rcases h.low w hw with e | ⟨u, x, e, l | ⟨e2, hx⟩⟩
    · exact Or.inl e
    · exact Or.inr ⟨u, x, e, Or.inl l⟩
    · exact Or.inr ⟨u, x, e, Or.inr ⟨e2, List.mem_append_left _ hx⟩⟩
/-- the round's end, the next one's beginning -/
theorem BfsM.next {ls : List Str} {ps : List Pr} {a : Str} {W : List (List Str)} {i : Nat} {wi cs : List Str} (h : BfsM ls ps a W i wi cs) (hall : ∀ v, (endOf wi, v) ∈ ps → v ∈ cs) : Bfs ls ps a W (i + 1) := by
  refine ⟨h.b.way, h.b.nd, h.b.srt, h.b.st, fun j w hj e v hv => ?_, h.b.min⟩
  by_cases c : j < i
  · exact h.b.cl j w c e v hv
  · obtain rfl : j = i := by omega
    rw [h.at_] at e
    obtain rfl := Option.some.inj e
    exact h.dn v (hall v hv)
structure BfsL (ls : List Str) (a : Str) (W : List (List Str)) (i : Nat) : Prop where
  low : ∀ wi, W[i]? = some wi → ∀ w ∈ W, w = [a] ∨ ∃ u x, w = u ++ [x] ∧ kLt ls u wi
theorem BfsM.nextL {ls : List Str} {ps : List Pr} {a : Str} {W : List (List Str)} {i : Nat} {wi cs : List Str} (h : BfsM ls ps a W i wi cs) : BfsL ls a W (i + 1) := by
  refine ⟨fun wn hn w hw => ?_⟩
  have lt : kLt ls wi wn := by
    obtain ⟨h1, e1⟩ := List.getElem?_eq_some_iff.mp h.at_
    obtain ⟨h2, e2⟩ := List.getElem?_eq_some_iff.mp hn
    have := List.pairwise_iff_getElem.mp h.b.srt i (i + 1) h1 h2 (by omega)
    rw [e1, e2] at this
    exact this
  rcases h.low w hw with e | ⟨u, x, e, l | ⟨e2, hx⟩⟩
  · exact Or.inl e
  · exact Or.inr ⟨u, x, e, kLt_tr l lt⟩
  · rw [e2] at e
    exact Or.inr ⟨wi, x, e, lt⟩
theorem Bfs.begin {ls : List Str} {ps : List Pr} {a : Str} {W : List (List Str)} {i : Nat} {wi : List Str} (h : Bfs ls ps a W i) (l : BfsL ls a W i) (hi : W[i]? = some wi) : BfsM ls ps a W i wi [] :=
  ⟨h, hi, (fun _ z => nomatch z), fun w hw => (l.low wi hi w hw).imp id fun ⟨u, x, e, k⟩ => ⟨u, x, e, Or.inl k⟩⟩
theorem Bfs.first {ls : List Str} {ps : List Pr} {a : Str} (ac : ∀ z, ¬ Rch ps z z) : Bfs ls ps a [[a]] 0 ∧ BfsL ls a [[a]] 0 := by
  refine ⟨⟨fun w hw => ?_, by simp, by simp, List.mem_singleton.mpr rfl, fun j w hj => absurd hj (Nat.not_lt_zero _), fun w hw q hq e => ?_⟩, ⟨fun wi _ w hw => Or.inl (List.mem_singleton.mp hw)⟩⟩
  · rw [List.mem_singleton.mp hw]
    exact .one
  · have ew := List.mem_singleton.mp hw
    subst ew
    intro l
    cases hq with
    | one => exact kLt_irr l
    | @step q u v hq hu m =>
      rw [endOf_snoc] at e
      have ev : v = a := e
      rw [ev] at m
      rcases hq.rch u hu with e3 | r
      · rw [e3] at m
        exact ac a (.one m)
      · exact ac a (.step r m)
/-- as long as the goal hasn't been met there is a further way -/
theorem Bfs.more {ls : List Str} {ps : List Pr} {a b : Str} {W : List (List Str)} {i : Nat} (h : Bfs ls ps a W i) (hr : Rch ps a b) (hb : ∀ (j : Nat) w, j < i → W[j]? = some w → endOf w ≠ b) : i < W.length := by
  by_cases c : i < W.length
  · exact c
  · exfalso
    have cl : ∀ w ∈ W, ∀ v, (endOf w, v) ∈ ps → v ∈ W.map endOf := fun w hw v hv => by
      obtain ⟨j, hj, ej⟩ := List.getElem_of_mem hw
      exact h.cl j w (by omega) (by rw [List.getElem?_eq_getElem hj, ej]) v hv
    have key : ∀ {x}, Rch ps a x → x ∈ W.map endOf := by
      intro x r
      induction r with
      | one m => exact cl [a] h.st _ m
      | step _ m ih =>
        obtain ⟨w, hw, e⟩ := List.mem_map.mp ih
        exact cl w hw _ (by rw [e]; exact m)
    obtain ⟨w, hw, e⟩ := List.mem_map.mp (key hr)
    obtain ⟨j, hj, ej⟩ := List.getElem_of_mem hw
    exact hb j w (by omega) (by rw [List.getElem?_eq_getElem hj, ej]) e
/-- the least of the shortest ways from a to b -/
structure Best (ls : List Str) (ps : List Pr) (a b : Str) (w : List Str) : Prop where
  way : Way ps a w
  last : w.getLast? = some b
  min : ∀ q, Way ps a q → q.getLast? = some b → ¬ kLt ls q w
theorem Bfs.best {ls : List Str} {ps : List Pr} {a b : Str} {W : List (List Str)} {i : Nat} (h : Bfs ls ps a W i) {w : List Str} (hw : w ∈ W) (e : endOf w = b) : Best ls ps a b w := by
  have wy := h.way w hw
  refine ⟨wy, by rw [endOf_last wy.ne, e], fun q hq eq => h.min w hw q hq ?_⟩
  rw [e]
  unfold endOf
  rw [eq]
  rfl
end L3
namespace L3
open PySem PySem.Spec PyProof.Rows L2 TB LamX OwnE
/-- what stands behind a lock by a pair stands in the locks' order -/
theorem after_sorted {ls : List Str} {ps : List Pr} (ok : OrdOk ls ps) (z : Str) : (afterP ps z).Pairwise fun x y => ixS ls x < ixS ls y := by
  have key : ∀ l : List Pr, l.Nodup → SortP ls l → (∀ p ∈ l, p.1 ∈ ls ∧ p.2 ∈ ls) → (afterP l z).Pairwise fun x y => ixS ls x < ixS ls y := by
    intro l
    induction l with
    | nil => intro _ _ _; exact List.Pairwise.nil
    | cons p l ih =>
      intro nd sr hm
      obtain ⟨n1, n2⟩ := List.nodup_cons.mp nd
      obtain ⟨s1, s2⟩ := List.pairwise_cons.mp sr
      have ih := ih n2 s2 fun q hq => hm q (List.mem_cons_of_mem _ hq)
      unfold afterP at ih ⊢
      by_cases c : p.1 = z
      · rw [List.filterMap_cons_some (b := p.2) (by rw [if_pos c])]
        refine List.pairwise_cons.mpr ⟨fun y hy => ?_, ih⟩
        have hy2 : (z, y) ∈ l := mem_afterP.mp hy
        have h1 := s1 _ hy2
        have hne : p.2 ≠ y := fun e => n1 (by rw [show p = (z, y) from Prod.ext c e]; exact hy2)
        have hne2 : ixS ls p.2 ≠ ixS ls y := fun e => hne (ixS_inj (hm p List.mem_cons_self).2 (hm _ (List.mem_cons_of_mem _ hy2)).2 e)
        unfold keyP at h1
        simp only [c] at h1
        unfold SrtO.lexB at h1
        simp at h1
        omega
      · rw [List.filterMap_cons_none (by rw [if_neg c])]
        exact ih
  exact key ps ok.pnd ok.srt ok.mem
end L3
namespace L3
open PySem PySem.Spec PyProof.Rows L2 TB LamX OwnE
/-- the ways as they stand: the list at wa of lists, none of them met before -/
structure WAt (H0 H : Hp) (wa ma : Addr) (as : List Addr) (W : List (List Str)) : Prop where
  len : as.length = W.length
  at_ : ∀ (j : Nat) p w, as[j]? = some p → W[j]? = some w → H p = some (.lst (w.map V.str)) ∧ H0 p = none ∧ p ≠ wa ∧ p ≠ ma
theorem WAt.keep {H0 H H' : Hp} {wa ma : Addr} {as : List Addr} {W : List (List Str)} (h : WAt H0 H wa ma as W) (k : ∀ b o, H b = some o → b ≠ wa → b ≠ ma → H' b = some o) : WAt H0 H' wa ma as W :=
  ⟨h.len, fun j p w h1 h2 => by
    obtain ⟨a, b, c, d⟩ := h.at_ j p w h1 h2
    exact ⟨k p _ a c d, b, c, d⟩⟩
theorem WAt.snoc {H0 H : Hp} {wa ma : Addr} {as : List Addr} {W : List (List Str)} {p : Addr} {w : List Str} (h : WAt H0 H wa ma as W) (hp : H p = some (.lst (w.map V.str))) (h0 : H0 p = none) (n1 : p ≠ wa) (n2 : p ≠ ma) : WAt H0 H wa ma (as ++ [p]) (W ++ [w]) := by
  have hl := h.len
  refine ⟨by rw [List.length_append, List.length_append, hl]; rfl, fun j q u e1 e2 => ?_⟩
  by_cases c : j < as.length
  · rw [List.getElem?_append_left c] at e1
    rw [List.getElem?_append_left (by omega)] at e2
    exact h.at_ j q u e1 e2
  · have hl1 := (List.getElem?_eq_some_iff.mp e1).1
    rw [List.length_append, List.length_singleton] at hl1
    obtain rfl : j = as.length := by omega
    rw [List.getElem?_append_right (Nat.le_refl _), Nat.sub_self] at e1
    rw [hl, List.getElem?_append_right (Nat.le_refl _), Nat.sub_self] at e2
    obtain rfl : p = q := by simpa using e1
    obtain rfl : w = u := by simpa using e2
    exact ⟨hp, h0, n1, n2⟩
def spWay (C : Addr) : Sp := fun vs H Q _ => ∃ (x : Addr) (a b : Str) (ls : List Str) (ps : List Pr), vs = [.ref x, .str a, .str b] ∧ OrdAt C H x ls ps ∧ OrdOk ls ps ∧ (∀ z, ¬ Rch ps z z) ∧ a ∈ ls ∧ b ∈ ls ∧ NoT H ∧ (¬ Rch ps a b → Q .non H) ∧
  (Rch ps a b → ∀ (l : Addr) (w : List Str) (H' : Hp), H l = none → Same H H' → NoT H' → H' l = some (.lst (w.map V.str)) → Best ls ps a b w → Q (.ref l) H')
theorem Way.len {ls : List Str} {ps : List Pr} {a : Str} {W : List (List Str)} {i : Nat} (ok : OrdOk ls ps) (ha : a ∈ ls) (h : Bfs ls ps a W i) : W.length ≤ ls.length := by
  have := nodup_le (l := W.map endOf) (m := ls) h.nd fun z hz => by
    obtain ⟨w, hw, rfl⟩ := List.mem_map.mp hz
    have wy := h.way w hw
    exact wy.mem ok.mem ha _ (List.mem_of_getLast? (endOf_last wy.ne))
  rw [List.length_map] at this
  exact this
/-- a way is no longer than there are locks -/
theorem Best.len {ls : List Str} {ps : List Pr} {a : Str} (ok : OrdOk ls ps) (ac : ∀ z, ¬ Rch ps z z) (ha : a ∈ ls) {w : List Str} (h : Way ps a w) : w.Nodup ∧ ∀ x ∈ w, ∀ v, w.getLast? = some v → x = v ∨ Rch ps x v := by
  induction h with
  | one => exact ⟨by simp, fun x hx v e => by
      obtain rfl : a = v := by simpa using e
      exact Or.inl (List.mem_singleton.mp hx)⟩
  | @step w u v hw hu m ih =>
    obtain ⟨nd, ih⟩ := ih
    have hx2 : ∀ x ∈ w, Rch ps x v := fun x hx => by
      rcases ih x hx u hu with rfl | r
      · exact .one m
      · exact .step r m
    refine ⟨List.nodup_append.mpr ⟨nd, by simp, fun x hx y hy e => ?_⟩, fun x hx y e => ?_⟩
    · rw [List.mem_singleton.mp hy] at e
      rw [← e] at hx2
      exact ac x (hx2 x hx)
    · rw [last_snoc] at e
      obtain rfl := Option.some.inj e
      rcases List.mem_append.mp hx with h | h
      · exact Or.inr (hx2 x h)
      · exact Or.inl (List.mem_singleton.mp h)
end L3
namespace L3
open PySem PySem.Spec PyProof.Rows L2 TB LamX OwnE
theorem endOf_split {w : List Str} (h : w ≠ []) : ∃ u, w = u ++ [endOf w] := by
  refine ⟨w.dropLast, ?_⟩
  have e : endOf w = w.getLast h := by
    unfold endOf
    rw [List.getLast?_eq_some_getLast h]
    rfl
  rw [e]
  exact (List.dropLast_concat_getLast h).symm
theorem atI_end {w : List Str} (h : w ≠ []) : atI (w.map V.str) (-1) = some (.str (endOf w)) := by
  obtain ⟨u, e⟩ := endOf_split h
  have e2 : w.map V.str = u.map V.str ++ [V.str (endOf w)] := by
    conv => lhs; rw [e]
    rw [List.map_append]
    rfl
  rw [e2]
  exact L2.atI_last _ _
end L3
/-! Calls that tell None or a new list; calls by names alone, in any order; ways as a promise. -/
namespace L3
open PySem PySem.Spec PyProof.Rows L2 TB LamX OwnE
open C8 (Cal Met Mak)
section
variable {X : Sx} {K : PySem.W.Frag}
/-! ### x = f(..), None or a new list -/
def tAsgM (te : TE) (i : Nat) : TS := tAsg te (gName i)
theorem toM {Y : Cx} {st : Stmt} {te : TE} {i : Nat} (h : PS Y st (tAsg te (gName i))) : PS Y st (tAsgM te i) := h
def mayOk (hc : Bool) (G : PV → Prop) : Rs → Prop
  | .val d => d = .non ∧ G (.val .non)
  | .new es => (hc = false ∨ ∀ e ∈ es, e.flat = true) ∧ G (.own true es)
def sMay (i : Nat) (P : PSp) (pa : QA) : QS := fun E ρ => pa ρ fun rs ρ1 => some1 (fun ds => P ds fun r _ => mayOk (rs.any isCell) (fun pv => E.nx (ρ1.set i pv)) r) (rdL ρ1 rs)
theorem ls_may {i : Nat} {P : PSp} {ta : TA} {pa : QA} {E : XK} (h1 : LiA X ta pa) : LiS X (tAsgM (tCall (lsp X none P) [] E ta) i) (sMay i P pa) := by
  intro c hX σ F H ρ D P' R a h
  subst hX
  refine h1 c rfl σ F H ρ _ _ R ?_ h
  intro rs ρ1 vs F1 H1 R1 s1 rv q1
  rw [List.append_nil]
  cases e : rdL ρ1 rs with
  | none => rw [e] at q1; exact q1.elim
  | some ds =>
    rw [e] at q1
    have q1 : P ds fun r _ => mayOk (rs.any isCell) (fun pv => P'.nx (ρ1.set i pv)) r := q1
    by_cases nc : rs.any isCell = false
    · refine ⟨F1, ds, _, enterV R1 rv e nc, q1, ?_⟩
      intro r out v F' H' ex q
      have R2 := Step.own ex.step R1
      match r, ex.res, q with
      | .val d, rx, ⟨ed, q⟩ =>
        subst ed
        exact a.nx _ F' H' _ (R2.setVal (i := i) rx) (tr s1 ex.step.fr) q
      | .new es, ⟨p, ws, ev, hF, hn, hp, hr⟩, ⟨_, q⟩ =>
        subst ev
        have n := new_of R1 R2 hn hp hF hr
        exact a.nx _ F' H' _ (R2.setOwn hp n.f hr n.n n.b2 n.o) (tr s1 ex.step.fr) q
    · refine ⟨_, ds, _, enter R1 rv e, q1, ?_⟩
      intro r out v F' H' ex q
      have R2 := Step.back ex.step R1
      match r, ex.res, q with
      | .val d, rx, ⟨ed, q⟩ =>
        subst ed
        exact a.nx _ F1 H' _ (R2.setVal (i := i) (d := .non) (Rp.flat (F := F') (d := .non) rfl rx)) s1 q
      | .new es, ⟨p, ws, ev, hF, hn, hp, hr⟩, ⟨fl, q⟩ =>
        subst ev
        have n := new_of R1 R2 hn hp (R1.fnone hn) (RpL.flat (fl.resolve_left nc) hr)
        exact a.nx _ F1 H' _ (R2.setOwn hp n.f (RpL.flat (fl.resolve_left nc) hr) n.n n.b2 n.o) s1 q
theorem w_may {ρ : PSt} {E : PEnds} {i : Nat} {P : PSp} {pa : QA} (h : pa ρ fun rs ρ1 => some1 (fun ds => P ds fun r _ => mayOk (rs.any isCell) (fun pv => E.nx (ρ1.set i pv)) r) (rdL ρ1 rs)) : sMay i P pa E ρ := h
theorem w_mayN {hc : Bool} {G : PV → Prop} (h : G (.val .non)) : mayOk hc G (.val .non) := ⟨rfl, h⟩
theorem w_mayS {hc : Bool} {G : PV → Prop} {ws : List Str} (h : G (.own true (ws.map D.str))) : mayOk hc G (.new (ws.map D.str)) := ⟨Or.inr (flat_strs4 ws), h⟩
/-! ### f(k = v, ..) -/
theorem pe_cN0 {Y : Cx} {k j m : Nat} {x : Str} {sp : Sp} {ks : List Str} {gV : List V → List V → List V} {kws : List Keyword} {tk : TA} {p pos : Pos} (c : CalN Y.prog Y.w Y.K Y.mg Y.base k x sp 0 m ks gV) (hr : Room j Y.A) (hk : k ≤ j) (hg : Gl Y x) (hkw : PK Y kws tk)
    (hall : (backToKw pos (keywordEach kws Y.env)).all (·.1.isSome) = true := by rfl) (hks : (backToKw pos (keywordEach kws Y.env)).filterMap (·.1) = ks := by rfl) (hdb : (x == ("__debug__" : Str)) = false := by decide)
    (hpl : ((backTo pos (starEach [] Y.env)).any (·.1) || (backToKw pos (keywordEach kws Y.env)).any (·.1.isNone)) = false := by rfl) : PE Y (.Call (.Name x p) [] kws pos) (tCallN 0 m sp gV C8.E0 tNil tk) := by
  rw [← c.nl]
  obtain ⟨f, fd, ps, g, F, hm, kp, hb⟩ := c.nex
  refine ⟨fun pins s σ H Q I h => ?_⟩
  refine wpAny_Call_Name_kw (ld_glob I hg hm ?_ hdb)
  refine PySem.W.callWith_KW0 (h₀ := Y.base) I.ok.mod.kin kp hall ?_ hpl
  refine thn (hkw.run pos pins s σ H _ I h) fun ws s2 ⟨zs, H2, I2, rz, l1, l2, q2⟩ => ⟨I2.kIn, ?_⟩
  rw [hks]
  exact run_fnN (us := []) (vs := []) F (hr.mono hk) hb pass0 I2 .nil rz rfl l2 q2
/-- names in any order: sel says which value stands where -/
structure InSel (n m : Nat) (sel : List Nat) (gV : List V → List V → List V) : Prop where
  row : ∀ vs zs : List V, vs.length = n → zs.length = m → gV vs zs = sel.filterMap fun i => (vs ++ zs)[i]?
theorem RVL.at {c : Ct} {F : Hp} {σ : L2.St} : ∀ {rs : List Rv} {vs : List V}, RVL c F σ rs vs → ∀ i : Nat, (rs[i]? = none ∧ vs[i]? = none) ∨ ∃ r v, rs[i]? = some r ∧ vs[i]? = some v ∧ RV c F σ r v
  | [], _, h, i => by
    rw [show _ = [] from h]
    exact Or.inl ⟨rfl, rfl⟩
  | r :: rs, _, h, 0 => by
    obtain ⟨v, t, rfl, q, z⟩ := h
    exact Or.inr ⟨r, v, rfl, rfl, q⟩
  | r :: rs, _, h, i + 1 => by
    obtain ⟨v, t, rfl, q, z⟩ := h
    rcases RVL.at z i with ⟨a, b⟩ | ⟨r', v', a, b, e⟩
    · exact Or.inl ⟨by simpa using a, by simpa using b⟩
    · exact Or.inr ⟨r', v', by simpa using a, by simpa using b, e⟩
theorem RVL.sel {c : Ct} {F : Hp} {σ : L2.St} {rs : List Rv} {vs : List V} (h : RVL c F σ rs vs) : ∀ sel : List Nat, RVL c F σ (sel.filterMap fun i => rs[i]?) (sel.filterMap fun i => vs[i]?)
  | [] => rfl
  | i :: sel => by
    rcases RVL.at h i with ⟨a, b⟩ | ⟨r, v, a, b, e⟩
    · rw [List.filterMap_cons_none a, List.filterMap_cons_none b]
      exact RVL.sel h sel
    · rw [List.filterMap_cons_some a, List.filterMap_cons_some b]
      exact ⟨v, _, rfl, e, RVL.sel h sel⟩
def qCallZ (n m : Nat) (sel : List Nat) (P : PSp) (pa pk : QA) : QE := fun ρ Q => pa ρ fun rs ρ0 => pk ρ0 fun ss ρ1 => andLen rs n ss m (some1 (fun ds => P ds fun r _ => resOk ((sel.filterMap fun i => (rs ++ ss)[i]?).any isCell) r fun d => Q (.val d) ρ1) (rdL ρ1 (sel.filterMap fun i => (rs ++ ss)[i]?)))
theorem li_callZ {n m : Nat} {sel : List Nat} {P : PSp} {ta tk : TA} {pa pk : QA} {E : XK} {gV : List V → List V → List V} (hg : InSel n m sel gV) (h1 : LiA X ta pa) (h2 : LiA X tk pk) : LiE X (tCallN n m (lsp X none P) gV E ta tk) (qCallZ n m sel P pa pk) := by
  intro c hX σ F H ρ Q Q3 R hq h
  subst hX
  refine h1 c rfl σ F H ρ _ _ R ?_ h
  intro rs ρ0 vs F0 H0 R0 s0 rv0 q0
  refine h2 c rfl σ F0 H0 ρ0 _ _ R0 ?_ q0
  intro ss ρ1 zs F1 H1 R1 s1 rv1 ⟨l1, l2, q1⟩
  have l3 := rv0.len
  have l4 := rv1.len
  refine ⟨by omega, by omega, ?_⟩
  rw [hg.row vs zs (by omega) (by omega)]
  cases e : rdL ρ1 (sel.filterMap fun i => (rs ++ ss)[i]?) with
  | none => rw [e] at q1; exact q1.elim
  | some ds =>
    rw [e] at q1
    exact call_end R1 (tr s0 s1) (RVL.sel (RVL.app (rv0.mono s1) rv1) sel) e hq q1
theorem w_callZ {ρ : PSt} {n m : Nat} {sel : List Nat} {Q : Rv → PSt → Prop} {P : PSp} {pa pk : QA} (h : pa ρ fun rs ρ0 => pk ρ0 fun ss ρ1 => andLen rs n ss m (some1 (fun ds => P ds fun r _ => resOk ((sel.filterMap fun i => (rs ++ ss)[i]?).any isCell) r fun d => Q (.val d) ρ1) (rdL ρ1 (sel.filterMap fun i => (rs ++ ss)[i]?)))) : qCallZ n m sel P pa pk ρ Q := h
/-! ### a heap that grew -/
theorem Exit.grow {F H H' : Hp} {vs : List V} {ds : List D} (en : Entry X none F H vs ds) (s : Same H H') (nt : NoT H') {p : Addr} {ws : List V} {es : List D} (np : H p = none) (hp : H' p = some (.lst ws)) (r : RpL X.K F es ws) : Exit X none F H vs F H' (.new es) none (.ref p) := by
  have dm : ∀ b, H' b = none → H b = none := fun b z => by
    cases w : H b with
    | none => rfl
    | some o => rw [s b o w] at z; exact nomatch z
  refine ⟨⟨rfl, tr en.sub s, fun i pv h => by simp at h, fun i j f1 o1 f2 o2 p h => by simp at h, nt, fun x hx => (en.tab x hx).ext s, en.tabF, Same.refl F, fun b o z _ _ => s b o z, dm, fun _ _ z => Or.inl z, dm⟩, ⟨p, ws, rfl, ?_, np, hp, r⟩, fun _ _ z => nomatch z⟩
  cases w : F p with
  | none => rfl
  | some o => rw [en.sub p o w] at np; exact nomatch np
def pWay (C : Addr) : PSp := fun ds Q => ∃ (ls : List Str) (ps : List Pr) (a b : Str), ds = [ordD C ls ps, .str a, .str b] ∧ OrdOk ls ps ∧ (∀ z, ¬ Rch ps z z) ∧ a ∈ ls ∧ b ∈ ls ∧ (¬ Rch ps a b → Q (.val .non) none) ∧ (Rch ps a b → ∀ w, Best ls ps a b w → Q (.new (strsD w)) none)
theorem i_way {C : Addr} : ∀ vs H Q E, lsp X none (pWay C) vs H Q E → spWay C vs H Q E := by
  rintro vs H Q E ⟨F, ds, Q3, en, ⟨ls, ps, a, b, rfl, ok, ac, ha, hb, q1, q2⟩, hQ⟩
  obtain ⟨v1, v2, v3, rfl, ⟨y, rfl, hy⟩, e2, e3⟩ := rpl3 en.rpl
  obtain rfl : v2 = .str a := e2
  obtain rfl : v3 = .str b := e3
  exact ⟨y, a, b, ls, ps, rfl, hy.same en.sub, ok, ac, ha, hb, en.nt, fun n => hQ _ _ _ F H (Exit.same (r := .val .non) en rfl) (q1 n), fun r l w H' nl s nt hl bw => hQ _ _ _ F H' (Exit.grow en s nt nl hl (rp_strs w)) (q2 r w bw)⟩
theorem gS_sel3 : InSel 0 3 [1, 2, 0] (fun vs zs => gS [(true, 1), (true, 2), (true, 0)] vs [] zs) := ⟨fun vs zs h1 h2 => by
  match vs, zs, h1, h2 with
  | [], [_, _, _], _, _ => rfl⟩
end
end L3
namespace L3
open PySem PySem.Spec PyProof.Rows L2 TB LamX OwnE
/-! ### all ways -/
def waysF (qs : List Pr) : Nat → Str → Str → List (List Str)
  | 0, a, b => if a = b then [[a]] else []
  | n + 1, a, b => if a = b then [[a]] else (afterP qs a).flatMap fun c => (waysF qs n c b).map (a :: ·)
theorem Way.head {ps : List Pr} {a : Str} {w : List Str} (h : Way ps a w) : ∃ r, w = a :: r := by
  induction h with
  | one => exact ⟨[], rfl⟩
  | step _ _ _ ih =>
    obtain ⟨r, rfl⟩ := ih
    exact ⟨r ++ [_], rfl⟩
theorem Way.cons {ps : List Pr} {a c : Str} {w : List Str} (m : (a, c) ∈ ps) (h : Way ps c w) : Way ps a (a :: w) := by
  induction h with
  | one => exact .step (w := [a]) .one (by simp) m
  | @step w u v hw hu m2 ih =>
    refine .step (w := a :: w) ih ?_ m2
    obtain ⟨r, rfl⟩ := hw.head
    rw [List.getLast?_cons_cons]
    exact hu
theorem Way.tail {ps : List Pr} {a : Str} {w : List Str} (h : Way ps a w) : w = [a] ∨ ∃ c r, w = a :: r ∧ (a, c) ∈ ps ∧ Way ps c r := by
  induction h with
  | one => exact Or.inl rfl
  | @step w u v hw hu m ih =>
    rcases ih with rfl | ⟨c, r, rfl, hc, hr⟩
    · obtain rfl : a = u := by simpa using hu
      exact Or.inr ⟨v, [v], rfl, m, .one⟩
    · refine Or.inr ⟨c, r ++ [v], rfl, hc, .step hr ?_ m⟩
      obtain ⟨r', rfl⟩ := hr.head
      rw [List.getLast?_cons_cons] at hu
      exact hu
/-- all ways from a are no longer than n more than one lock -/
def Deep (qs : List Pr) (n : Nat) (a : Str) : Prop := ∀ w, Way qs a w → w.length ≤ n + 1
theorem Deep.down {qs : List Pr} {n : Nat} {a c : Str} (h : Deep qs (n + 1) a) (m : (a, c) ∈ qs) : Deep qs n c := fun w hw => by
  have := h _ (hw.cons m)
  rw [List.length_cons] at this
  omega
theorem Deep.zero {qs : List Pr} {a : Str} (h : Deep qs 0 a) : afterP qs a = [] := by
  cases e : afterP qs a with
  | nil => rfl
  | cons c r =>
    have m : (a, c) ∈ qs := mem_afterP.mp (by rw [e]; exact List.mem_cons_self)
    have := h _ (Way.cons m .one)
    simp at this
theorem ways_mem {qs : List Pr} (ac : ∀ z, ¬ Rch qs z z) {b : Str} : ∀ {n : Nat} {a : Str}, Deep qs n a → ∀ w, w ∈ waysF qs n a b ↔ (Way qs a w ∧ w.getLast? = some b) := by
  intro n
  induction n with
  | zero =>
    intro a dp w
    unfold waysF
    by_cases c : a = b
    · rw [if_pos c, List.mem_singleton]
      constructor
      · rintro rfl
        exact ⟨.one, by rw [← c]; rfl⟩
      · rintro ⟨hw, hl⟩
        rcases hw.tail with e | ⟨d, r, e, m, hr⟩
        · exact e
        · have := dp _ hw
          have h2 := hr.ne
          rw [e, List.length_cons] at this
          cases r with
          | nil => exact absurd rfl h2
          | cons _ _ => rw [List.length_cons] at this; omega
    · rw [if_neg c]
      constructor
      · intro h
        exact nomatch h
      · rintro ⟨hw, hl⟩
        exfalso
        rcases hw.tail with rfl | ⟨d, r, e, m, hr⟩
        · exact c (by simpa using hl)
        · have := dp _ hw
          have h2 := hr.ne
          rw [e, List.length_cons] at this
          cases r with
          | nil => exact absurd rfl h2
          | cons _ _ => rw [List.length_cons] at this; omega
  | succ n ih =>
    intro a dp w
    unfold waysF
    by_cases c : a = b
    · rw [if_pos c, List.mem_singleton]
      constructor
      · rintro rfl
        exact ⟨.one, by rw [← c]; rfl⟩
      · rintro ⟨hw, hl⟩
        rcases hw.tail with e | ⟨d, r, e, m, hr⟩
        · exact e
        · exfalso
          have hl2 : r.getLast? = some b := by
            obtain ⟨r', rfl⟩ := hr.head
            rw [e, List.getLast?_cons_cons] at hl
            exact hl
          rcases hr.rch b hl2 with e3 | r3
          · rw [← e3, ← c] at m
            exact ac a (.one m)
          · rw [← c] at r3
            exact ac a (Rch.trans (.one m) r3)
    · rw [if_neg c, List.mem_flatMap]
      constructor
      · rintro ⟨d, hd, hw⟩
        obtain ⟨r, hr, rfl⟩ := List.mem_map.mp hw
        have m := mem_afterP.mp hd
        obtain ⟨h1, h2⟩ := (ih (dp.down m) r).mp hr
        refine ⟨h1.cons m, ?_⟩
        obtain ⟨r', rfl⟩ := h1.head
        rw [List.getLast?_cons_cons]
        exact h2
      · rintro ⟨hw, hl⟩
        rcases hw.tail with rfl | ⟨d, r, rfl, m, hr⟩
        · exact absurd (by simpa using hl) c
        · refine ⟨d, mem_afterP.mpr m, List.mem_map.mpr ⟨r, (ih (dp.down m) r).mpr ⟨hr, ?_⟩, rfl⟩⟩
          obtain ⟨r', rfl⟩ := hr.head
          rw [List.getLast?_cons_cons] at hl
          exact hl
/-- how many ways: with at most k that follow each -/
theorem ways_len {qs : List Pr} {k : Nat} (hk : ∀ z, (afterP qs z).length ≤ k) (b : Str) : ∀ (n : Nat) (a : Str), (waysF qs n a b).length ≤ (k + 1) ^ n
  | 0, a => by
    unfold waysF
    split <;> simp
  | n + 1, a => by
    unfold waysF
    split
    · rw [List.length_singleton]
      exact Nat.one_le_pow _ _ (by omega)
    · have key : ∀ l : List Str, (l.flatMap fun c => (waysF qs n c b).map (a :: ·)).length ≤ l.length * (k + 1) ^ n := by
        intro l
        induction l with
        | nil => simp
        | cons c l ih =>
          rw [List.flatMap_cons, List.length_append, List.length_map, List.length_cons, Nat.succ_mul]
          have := ways_len hk b n c
          omega
      have h1 := key (afterP qs a)
      have h2 := Nat.mul_le_mul_right ((k + 1) ^ n) (Nat.le_trans (hk a) (Nat.le_succ k))
      rw [Nat.pow_succ, Nat.mul_comm]
      exact Nat.le_trans h1 h2
theorem ways_le {qs : List Pr} (hk : ∀ z, (afterP qs z).length ≤ 7) (b : Str) {n : Nat} (hn : n ≤ 6) (a : Str) : (waysF qs n a b).length ≤ 262144 := by
  refine Nat.le_trans (ways_len hk b n a) ?_
  exact Nat.le_trans (Nat.pow_le_pow_right (by decide) hn) (by decide)
abbrev wD (w : List Str) : D := .lst (strsD w)
/-- ways found while the pairs are gone through -/
def waysT (qs : List Pr) (n : Nat) (a b : Str) : List (List Str) := (afterP qs a).flatMap fun c => (waysF qs n c b).map (a :: ·)
theorem after_snoc (qs : List Pr) (p : Pr) (a : Str) : afterP (qs ++ [p]) a = afterP qs a ++ (if p.1 = a then [p.2] else []) := by
  unfold afterP
  rw [List.filterMap_append]
  congr 1
  by_cases c : p.1 = a
  · rw [if_pos c, List.filterMap_cons_some (b := p.2) (by rw [if_pos c])]
    rfl
  · rw [if_neg c, List.filterMap_cons_none (by rw [if_neg c])]
    rfl
def pWays (n : Nat) : PSp := fun ds Q => ∃ (qs : List Pr) (a b : Str), ds = [.lst (qs.map prD), .str a, .str b] ∧ Deep qs n a ∧ n ≤ 6 ∧ (∀ z, (afterP qs z).length ≤ 7) ∧ qs.length ≤ 900 ∧ Q (.new ((waysF qs n a b).map wD)) none
theorem rest_le {l : List Str} {t : Nat} {F : Str → List (List Str)} : ((l.take t).flatMap F).length ≤ (l.flatMap F).length := by
  have : (l.flatMap F) = (l.take t).flatMap F ++ (l.drop t).flatMap F := by
    rw [← List.flatMap_append, List.take_append_drop]
  rw [this, List.length_append]
  omega
theorem after_pre {qs : List Pr} {a : Str} (j : Nat) : ∃ r, afterP qs a = afterP (qs.take j) a ++ r := by
  refine ⟨afterP (qs.drop j) a, ?_⟩
  unfold afterP
  rw [← List.filterMap_append, List.take_append_drop]
def pDue34 : PSp := fun ds Q => ∃ (ls : List Str) (qs : List Pr) (a b : Str), ds = [.lst (strsD ls), .lst (qs.map prD), .str a, .str b] ∧ ls.Nodup ∧ (∀ z ∈ ls, Nm z) ∧ ls.length ≤ 7 ∧ LP ls qs ∧ qs.length ≤ 900 ∧ a ∈ ls ∧ b ∈ ls ∧ (¬ Rch qs a b → Q (.val .non) none) ∧ (Rch qs a b → ∀ w, Best ls qs a b w → Q (.new (strsD w)) none)
theorem deep_of {ls : List Str} {qs : List Pr} (lp : LP ls qs) (hl : ls.length ≤ 7) {a : Str} (ha : a ∈ ls) : Deep qs 6 a := fun w hw => by
  have ac := LP.ac rfl lp
  have nd : w.Nodup := by
    have key : ∀ {w}, Way qs a w → w.Nodup ∧ ∀ x ∈ w, ∀ v, w.getLast? = some v → x = v ∨ Rch qs x v := by
      intro w h
      induction h with
      | one => exact ⟨by simp, fun x hx v e => by
          obtain rfl : a = v := by simpa using e
          exact Or.inl (List.mem_singleton.mp hx)⟩
      | @step w u v hw hu m ih =>
        obtain ⟨nd, ih⟩ := ih
        have hx2 : ∀ x ∈ w, Rch qs x v := fun x hx => by
          rcases ih x hx u hu with rfl | r
          · exact .one m
          · exact .step r m
        refine ⟨List.nodup_append.mpr ⟨nd, by simp, fun x hx y hy e => ?_⟩, fun x hx y e => ?_⟩
        · rw [List.mem_singleton.mp hy] at e
          rw [← e] at hx2
          exact ac x (hx2 x hx)
        · rw [last_snoc] at e
          obtain rfl := Option.some.inj e
          rcases List.mem_append.mp hx with h | h
          · exact Or.inr (hx2 x h)
          · exact Or.inl (List.mem_singleton.mp h)
    exact (key hw).1
  have := nodup_le nd (hw.mem lp.mem ha)
  omega
theorem after_le {ls : List Str} {qs : List Pr} (lp : LP ls qs) (hl : ls.length ≤ 7) (z : Str) : (afterP qs z).length ≤ 7 := by
  have := nodup_le (l := afterP qs z) (m := ls) (nodup_afterP lp.nd) fun c hc => (lp.mem _ (mem_afterP.mp hc)).2
  omega
theorem Best.uniq {ls : List Str} {ps qs : List Pr} {a b : Str} (sm : ∀ z, z ∈ ps ↔ z ∈ qs) (hm : ∀ p ∈ qs, p.1 ∈ ls ∧ p.2 ∈ ls) (ha : a ∈ ls) {u w : List Str} (h1 : Best ls ps a b u) (h2 : Best ls qs a b w) : u = w := by
  have sw : ∀ {x}, Way ps a x → Way qs a x := fun h => by
    induction h with
    | one => exact .one
    | step _ hu m ih => exact .step ih hu ((sm _).mp m)
  have sw2 : ∀ {x}, Way qs a x → Way ps a x := fun h => by
    induction h with
    | one => exact .one
    | step _ hu m ih => exact .step ih hu ((sm _).mpr m)
  exact kLt_or ((sw h1.way).mem hm ha) (h2.way.mem hm ha) (h2.min u (sw h1.way) h1.last) (h1.min w (sw2 h2.way) h2.last)
def pTwo34 (C : Addr) : PSp := fun ds Q => ∃ (ls : List Str) (ps qs : List Pr) (a b : Str), ds = [ordD C ls ps, .lst (strsD ls), .lst (qs.map prD), .str a, .str b] ∧ OP ls ps qs ∧ ls.length ≤ 7 ∧ qs.length ≤ 100 ∧ a ∈ ls ∧ b ∈ ls ∧ Q (.val (.bl true)) none
theorem waysF_ne {qs : List Pr} {n : Nat} {a b : Str} (h : a ≠ b) (d : Deep qs n a) : waysF qs n a b = (afterP qs a).flatMap fun c => (waysF qs (n - 1) c b).map (a :: ·) := by
  cases n with
  | zero =>
    unfold waysF
    rw [if_neg h, d.zero]
    rfl
  | succ n =>
    rw [waysF, if_neg h]
    rfl
theorem waysF_eq {qs : List Pr} {n : Nat} {a : Str} : waysF qs n a a = [[a]] := by
  cases n with
  | zero => unfold waysF; rw [if_pos rfl]
  | succ n => rw [waysF, if_pos rfl]
theorem fn_false {P : Program} {w : World} {K : PySem.W.Frag} {mg : Str → Option Value} {base : Heap} {CX : CXT} {k : Nat} {f : Addr} {fd : FuncData} {ps : List Str} {X : Sx} : FnOk P w K mg base CX k f fd ps (lsp X none fun _ _ => False) :=
  ⟨fun vs H Q E h => by
    obtain ⟨_, _, _, _, z, _⟩ := h
    exact z.elim, fun A outer s H args us vs Q E hr he hb hv hs => by
    obtain ⟨_, _, _, _, z, _⟩ := hs
    exact z.elim⟩
theorem ways_short {qs : List Pr} {b : Str} : ∀ {n : Nat} {a : Str} {w : List Str}, w ∈ waysF qs n a b → w.length ≤ n + 1 := by
  intro n
  induction n with
  | zero =>
    intro a w h
    unfold waysF at h
    split at h
    · rw [List.mem_singleton.mp h, List.length_singleton]
      omega
    · exact nomatch h
  | succ n ih =>
    intro a w h
    rw [waysF] at h
    split at h
    · rw [List.mem_singleton.mp h, List.length_singleton]
      omega
    · obtain ⟨c, _, hw⟩ := List.mem_flatMap.mp h
      obtain ⟨r, hr, rfl⟩ := List.mem_map.mp hw
      have := ih hr
      rw [List.length_cons]
      omega
theorem pd_ways (wss : List (List Str)) : pd (.lst (wss.map wD)) = some (.list (wss.map dStrs)) := by
  show (pdL (wss.map wD)).map PyData.list = _
  rw [pdL_map (g := dStrs) pd_strs]
  rfl
theorem sh_ways {wss : List (List Str)} (h : ∀ u ∈ wss, ∀ z ∈ u, Nm z) : SeqAt.shaped (.list (wss.map dStrs)) = true := by
  have h1 : ∀ wss : List (List Str), (∀ u ∈ wss, ∀ z ∈ u, Nm z) → PyData.canLayAll0 (wss.map dStrs) = true := by
    intro wss
    induction wss with
    | nil =>
      intro _
      simp [PyData.canLayAll0]
    | cons u r ih =>
      intro h
      have e := SeqAt.canLay_of_shaped (sh_strs (h u List.mem_cons_self))
      simp [PyData.canLayAll0, e, ih fun y hy => h y (List.mem_cons_of_mem _ hy)]
  have h3 := depthAll_map (f := dStrs) (n := 1) (l := wss) fun x _ => strs_depth x
  show (PyData.canLay0 (.list (wss.map dStrs)) && decide (PyData.depth (.list (wss.map dStrs)) ≤ 64)) = true
  rw [Bool.and_eq_true]
  refine ⟨by simp only [PyData.canLay0]; exact h1 wss h, decide_eq_true ?_⟩
  simp only [PyData.depth]
  omega
theorem w_eqWays {wss : List (List Str)} {F : D → Prop} (h : ∀ u ∈ wss, ∀ z ∈ u, Nm z) (q : F (.bl (decide (wss = [])))) : oEqD false (.lst (wss.map wD)) (.lst []) F := by
  refine ⟨_, _, pd_ways wss, pd_ways [], sh_ways h, sh_ways (fun _ z => nomatch z), ?_⟩
  have e : PyData.eqv (.list (wss.map dStrs)) (.list (([] : List (List Str)).map dStrs)) = decide (wss = []) := by
    cases wss with
    | nil => rfl
    | cons u r =>
      rw [PyData.eqv]
      rfl
  show F (.bl (PyData.eqv _ _))
  rw [e]
  exact q
theorem w_reprBl {b : Bool} {F : D → Prop} (h : F (.str (PyData.bool b).shown)) : oRepr [.bl b] F := w_repr (x := .bool b) rfl (by cases b <;> rfl) (by cases b <;> decide) (by cases b <;> decide +kernel) h
end L3
namespace L2
open PySem PySem.Spec PyProof.Rows
/-- no defaults: names alone -/
theorem FunD.kbindsN {K : PySem.W.Frag} {x qual : Str} {params : Arguments} {body : List Stmt} {scope : Scope} {kws : List (Str × V)} {f : Addr} {fd : FuncData} {ps ks : List Str} {n : Nat} {g : List Value → List Value → List Value} {gV : List V → List V → List V} (F : FunD K x qual params body scope [] kws f fd)
    (h : ∀ (kV doc pm : Value) (an : Option Addr) (cdv ct : Value) (us ws : List Value), us.length = n → ws.length = ks.length → bindArgs (PySem.W.fnOf x qual params body scope .none kV doc pm an cdv ct) ⟨us, ks.zip ws⟩ = pure (ps.zip (g us ws)))
    (hrel : ∀ {vs : List V} {us : List Value} {zs : List V} {ws : List Value}, Vals vs us → Vals zs ws → Vals (gV vs zs) (g us ws)) : KBn K fd ps n ks g gV := by
  obtain ⟨oc, od, dV, kV, doc, pm, an, cdv, ct, osl, rfl, lk, hcd, hD, hK⟩ := F.ex
  rcases hD with ⟨_, rfl⟩ | ⟨e, _⟩
  · exact ⟨fun s us ws X l1 l2 => .of_eq (h kV doc pm an cdv ct us ws l1 l2), fun r1 r2 => hrel r1 r2⟩
  · exact absurd rfl e
end L2
/-! Asks of piles, one behind another: what they come to. -/
namespace L3
open PySem PySem.Spec PyProof.Rows L2 TB LamX
/-- a pile that rises by ps, of locks among ls -/
def PilOk (ls : List Str) (ps : List Pr) (zs : List Str) : Prop := (∀ e ∈ zs, e ∈ ls) ∧ RiseP ps zs
theorem PilOk.nil {ls : List Str} {ps : List Pr} : PilOk ls ps [] := ⟨(fun _ z => nomatch z), (fun k j a b _ ha _ => nomatch ha)⟩
theorem PilOk.len {ls : List Str} {ps : List Pr} {zs : List Str} (h : PilOk ls ps zs) (h0 : ∀ a, ¬ Rch ps a a) : zs.length ≤ ls.length :=
  nodup_le (m := ls) (RiseP.nodup h0 h.2) h.1
theorem PilOk.mono {ls : List Str} {ps qs : List Pr} {zs : List Str} (h : PilOk ls ps zs) (s : ∀ p ∈ ps, p ∈ qs) : PilOk ls qs zs := ⟨h.1, h.2.mono s⟩
/-- what an ask comes to: the order and the pile behind it -/
structure Asked (ls : List Str) (ps : List Pr) (zs : List Str) (z : Str) (qs : List Pr) (us : List Str) (n : Nat) : Prop where
  ok : OrdOk ls qs
  sub : ∀ p ∈ ps, p ∈ qs
  ac : ∀ a, ¬ Rch qs a a
  len : n ≤ zs.length
  bh : ∀ u ∈ zs.drop n, Rch ps z u
  eu : us = zs.take n ++ [z]
  pil : PilOk ls qs us
  nin : z ∉ zs
def pAskedOn (C : Addr) : PSp := fun ds Q => ∃ ls ps, ∃ es : List (Str × D), ∃ z : Str, ds = [ordD C ls ps, pileD es, .str z] ∧ OrdOk ls ps ∧ (∀ a, ¬ Rch ps a a) ∧ ls.length ≤ 30 ∧ PilOk ls ps (es.map (·.1)) ∧ z ∈ ls ∧
  (z ∈ es.map (·.1) → Q (.val (.tup [ordD C ls ps, pileD es])) none) ∧
  ∀ qs fs n, Asked ls ps (es.map (·.1)) z qs (fs.map (·.1)) n → Q (.val (.tup [ordD C ls qs, pileD fs])) none
/-- one ask of a pile: from a to b -/
def StepOk (ws : List Str) (qs : List Pr) (a b : List Str) : Prop := ∃ n z, n ≤ a.length ∧ b = a.take n ++ [z] ∧ z ∈ ws ∧ z ∉ a ∧ ∀ u ∈ a.drop n, Rch qs z u
/-- a walk of a pile from none on -/
structure WalkOk (ws : List Str) (qs : List Pr) (wk : List (List Str)) : Prop where
  sub : ∀ zs ∈ wk, zs.Nodup ∧ ∀ z ∈ zs, z ∈ ws
  stp : ∀ (i : Nat) (a b : List Str), wk[i]? = some a → wk[i + 1]? = some b → StepOk ws qs a b
theorem StepOk.mono {ws : List Str} {ps qs : List Pr} {a b : List Str} (h : StepOk ws ps a b) (s : ∀ p ∈ ps, p ∈ qs) : StepOk ws qs a b := by
  obtain ⟨n, z, h1, h2, h3, h4, h5⟩ := h
  exact ⟨n, z, h1, h2, h3, h4, fun u hu => (h5 u hu).mono s⟩
theorem WalkOk.mono {ws : List Str} {ps qs : List Pr} {wk : List (List Str)} (h : WalkOk ws ps wk) (s : ∀ p ∈ ps, p ∈ qs) : WalkOk ws qs wk :=
  ⟨h.sub, fun i a b h1 h2 => (h.stp i a b h1 h2).mono s⟩
theorem WalkOk.one {ws : List Str} {ps : List Pr} : WalkOk ws ps [[]] := by
  refine ⟨fun zs h => ?_, fun i a b _ h2 => by simp at h2⟩
  rw [List.mem_singleton.mp h]
  exact ⟨List.nodup_nil, fun _ z => nomatch z⟩
theorem WalkOk.snoc {ws : List Str} {ps : List Pr} {wk : List (List Str)} {a b : List Str} (h : WalkOk ws ps (wk ++ [a])) (st : StepOk ws ps a b) (nb : b.Nodup) (hb : ∀ z ∈ b, z ∈ ws) : WalkOk ws ps (wk ++ [a] ++ [b]) := by
  refine ⟨fun zs hz => ?_, fun i x y h1 h2 => ?_⟩
  · rcases List.mem_append.mp hz with z | z
    · exact h.sub zs z
    · rw [List.mem_singleton.mp z]
      exact ⟨nb, hb⟩
  · by_cases hi : i + 1 < (wk ++ [a]).length
    · rw [List.getElem?_append_left hi] at h2
      rw [List.getElem?_append_left (by omega)] at h1
      exact h.stp i x y h1 h2
    · have hl := (List.getElem?_eq_some_iff.mp h2).1
      have e : i = wk.length := by
        simp only [List.length_append, List.length_cons, List.length_nil] at hl hi
        omega
      subst e
      rw [List.getElem?_append_left (by simp)] at h1
      simp at h1 h2
      rw [← h1, ← h2]
      exact st
/-- a walk as data -/
def walkD (wk : List (List Str)) : List D := wk.map fun zs => D.lst (strsD zs)
def pWalks (C : Addr) : PSp := fun ds Q => ∃ ws : List Str, ds = [potD, .lst (strsD ws)] ∧ ws.Nodup ∧ (∀ z ∈ ws, Nm z) ∧ 1 ≤ ws.length ∧ ws.length ≤ 30 ∧
  ∀ (qs : List Pr) (wks : List (List (List Str))), OrdOk ws qs → (∀ a, ¬ Rch qs a a) → wks.length = 3 → (∀ wk ∈ wks, WalkOk ws qs wk ∧ 1 ≤ wk.length ∧ wk.length ≤ 50) → Q (.val (.tup [ordD C ws qs, .lst ((wks.map walkD).map D.lst)])) none
end L3
/-! Own lists within a list: changed there. -/
namespace L3
open PySem PySem.Spec PyProof.Rows L2 TB LamX
/-- the thing at p -/
def adD (p : Addr) : D := .op ⟨fun _ v => v = .ref p, fun _ h => h⟩
section
variable {X : Sx} {c : Ct} {F H F' H' : Hp} {σ σ' : L2.St} {ρ ρ' : PSt}
theorem NewL.stepF {p : Addr} {ds : List D} (R : Rel c F H σ ρ) (n : NewL c F H σ ρ p ds) (R' : Rel (c.at F H (ownB σ ρ)) F' H' σ' ρ') (s : Same F F') : NewL c F' H' σ' ρ' p ds := by
  obtain ⟨vs, hp, hr⟩ := n.l
  have nb : p ∉ ownB σ ρ := by
    intro z
    obtain ⟨i, f, o, h1, h2⟩ := mem_ownB.mp z
    exact n.o i f o h1 h2
  have hp2 : H' p = some (.lst vs) := R'.keeps hp nb (R.notab hp (fun ps => by simp))
  refine ⟨⟨vs, hp2, hr.mono s⟩, ?_, n.n, n.b, ?_⟩
  · cases e : F' p with
    | none => rfl
    | some o =>
      rcases R'.nw p o e with z | z | ⟨z, _⟩ | z
      · have z2 : F p = some o := z
        rw [n.f] at z2
        exact nomatch z2
      · have z2 : H p = none := z
        rw [hp] at z2
        exact nomatch z2
      · exact absurd z nb
      · have z2 := R'.sub _ _ e
        rw [hp2] at z2
        cases z2
        exact z.elim
  · intro k f o hk ek
    obtain ⟨pp, us, ep, _, _, _, _, hb⟩ := R'.slot k _ hk
    rw [ek] at ep
    obtain rfl : p = pp := by injection ep with ep; injection ep with ep; injection ep
    rcases hb with z | z
    · exact nb z
    · have z2 : H p = none := z
      rw [hp] at z2
      exact nomatch z2
/-- a list at w of own lists at ps -/
structure Nest (c : Ct) (F H : Hp) (σ : L2.St) (ρ : PSt) (w : Addr) (ps : List Addr) (dss : List (List D)) : Prop where
  top : F w = some (.lst (ps.map V.ref))
  nd : ps.Nodup
  len : ps.length = dss.length
  cell : ∀ (i : Nat) (p : Addr) (ds : List D), ps[i]? = some p → dss[i]? = some ds → NewL c F H σ ρ p ds
theorem Nest.stepF {w : Addr} {ps : List Addr} {dss : List (List D)} (R : Rel c F H σ ρ) (n : Nest c F H σ ρ w ps dss) (R' : Rel (c.at F H (ownB σ ρ)) F' H' σ' ρ') (s : Same F F') : Nest c F' H' σ' ρ' w ps dss :=
  ⟨s _ _ n.top, n.nd, n.len, fun i p ds h1 h2 => (n.cell i p ds h1 h2).stepF R R' s⟩
/-- one told, one more at its end -/
theorem Nest.app {w p : Addr} {ps : List Addr} {dss : List (List D)} {k : Nat} {ds : List D} {d : D} {v : V} {vs : List V} (n : Nest c F H σ ρ w ps dss) (hk : ps[k]? = some p) (hd : dss[k]? = some ds) (hp : H p = some (.lst vs)) (hr : RpL c.K F ds vs) (hv : Rp c.K F d v) : Nest c F (upd H p (.lst (vs ++ [v]))) σ ρ w ps (dss.set k (ds ++ [d])) := by
  have hkl := (List.getElem?_eq_some_iff.mp hd).1
  refine ⟨n.top, n.nd, by rw [List.length_set]; exact n.len, fun i q es h1 h2 => ?_⟩
  by_cases e : k = i
  · subst e
    rw [hk] at h1
    obtain rfl := Option.some.inj h1
    rw [List.getElem?_set_self hkl] at h2
    obtain rfl := Option.some.inj h2
    have m := n.cell k p ds hk hd
    exact ⟨⟨_, upd_same, hr.app ⟨v, [], rfl, hv, rfl⟩⟩, m.f, m.n, m.b, m.o⟩
  · rw [List.getElem?_set_ne e] at h2
    have m := n.cell i q es h1 h2
    have ne : q ≠ p := by
      rintro rfl
      obtain ⟨l1, e1⟩ := List.getElem?_eq_some_iff.mp h1
      obtain ⟨l2, e2⟩ := List.getElem?_eq_some_iff.mp hk
      exact e ((List.getElem?_inj l2 n.nd).mp (hk.trans h1.symm))
    obtain ⟨us, g1, g2⟩ := m.l
    exact ⟨⟨us, by rw [upd_ne ne]; exact g1, g2⟩, m.f, m.n, m.b, m.o⟩
theorem keepAll : ∀ {ps : List Addr} {dss : List (List D)} {F : Hp}, Rel c F H σ ρ → ps.Nodup → ps.length = dss.length → (∀ (i : Nat) (p : Addr) (ds : List D), ps[i]? = some p → dss[i]? = some ds → NewL c F H σ ρ p ds) → ∃ F', Rel c F' H σ ρ ∧ Same F F' ∧ RpL c.K F' (dss.map D.lst) (ps.map V.ref)
  | [], [], F, R, _, _, _ => ⟨F, R, Same.refl F, rfl⟩
  | [], _ :: _, _, _, _, l, _ => nomatch l
  | _ :: _, [], _, _, _, l, _ => nomatch l
  | p :: ps, ds :: dss, F, R, nd, l, h => by
    obtain ⟨vs, R1, s1, r1⟩ := (h 0 p ds rfl rfl).keep R
    obtain ⟨hn, nd2⟩ := List.nodup_cons.mp nd
    obtain ⟨F2, R2, s2, r2⟩ := keepAll (ps := ps) (dss := dss) R1 nd2 (by simpa using l) (fun i q es h1 h2 => by
      have m := h (i + 1) q es h1 h2
      have ne : q ≠ p := by
        rintro rfl
        exact hn (List.mem_of_getElem? h1)
      obtain ⟨us, g1, g2⟩ := m.l
      exact ⟨⟨us, g1, g2.mono s1⟩, by rw [upd_ne ne]; exact m.f, m.n, m.b, m.o⟩)
    exact ⟨F2, R2, tr s1 s2, _, _, rfl, r1.mono s2, r2⟩
theorem Nest.keep {w : Addr} {ps : List Addr} {dss : List (List D)} (R : Rel c F H σ ρ) (n : Nest c F H σ ρ w ps dss) : ∃ F', Rel c F' H σ ρ ∧ Same F F' ∧ Rp c.K F' (.lst (dss.map D.lst)) (.ref w) := by
  obtain ⟨F2, R2, s2, r2⟩ := keepAll R n.nd n.len n.cell
  exact ⟨F2, R2, s2, w, _, rfl, s2 _ _ n.top, r2⟩
theorem NewL.up {p : Addr} {ds : List D} (R : Rel c F H σ ρ) (R' : Rel (c.at F H (ownB σ ρ)) F' H' σ ρ) (n : NewL (c.at F H (ownB σ ρ)) F' H' σ ρ p ds) : NewL c F' H' σ ρ p ds ∧ H p = none := by
  have hn : H p = none := by
    rcases n.b with z | ⟨z, _⟩
    · exact z
    · obtain ⟨i, f, o, h1, h2⟩ := mem_ownB.mp z
      exact absurd h2 (n.o i f o h1)
  exact ⟨⟨n.l, n.f, n.n, Or.inl (R.dom p hn), n.o⟩, hn⟩
/-- three new lists in a new list -/
theorem nest3 {te : TE} {pn : QN} {ds0 : List D} (h : LiN X te pn) (hp : ∀ ρ Q3, Q3 ds0 ρ → pn ρ Q3) (hX : c.X = X) (R : Rel c F H σ ρ) {Q : VK} (hq : ∀ w ps F' H', Rel c F' H' σ ρ → Same F F' → Nest c F' H' σ ρ w ps [ds0, ds0, ds0] → Q (.ref w) H') : tLst (tCons te (tCons te (tCons te tNil))) σ H Q := by
  refine h c hX σ F H ρ _ (fun ds ρ' => ds0 = ds ∧ ρ = ρ') R ?_ (hp _ _ ⟨rfl, rfl⟩)
  rintro _ _ p1 F1 H1 R1 s1 n1 ⟨rfl, rfl⟩
  refine h (c.at F1 H1 (ownB σ ρ)) hX σ F1 H1 ρ _ (fun ds ρ' => ds0 = ds ∧ ρ = ρ') R1.here ?_ (hp _ _ ⟨rfl, rfl⟩)
  rintro _ _ p2 F2 H2 R2' s2 n2' ⟨rfl, rfl⟩
  have R2 := R1.trans R2'
  have m1 := n1.stepF R1 R2' s2
  obtain ⟨n2, z2⟩ := NewL.up R1 R2' n2'
  refine h (c.at F2 H2 (ownB σ ρ)) hX σ F2 H2 ρ _ (fun ds ρ' => ds0 = ds ∧ ρ = ρ') R2.here ?_ (hp _ _ ⟨rfl, rfl⟩)
  rintro _ _ p3 F3 H3 R3' s3 n3' ⟨rfl, rfl⟩
  have R3 := R2.trans R3'
  have k1 := m1.stepF R2 R3' s3
  have k2 := n2.stepF R2 R3' s3
  obtain ⟨k3, z3⟩ := NewL.up R2 R3' n3'
  refine ⟨(by show 3 ≤ sizeLine; decide), fun w nw => ?_⟩
  have np : ∀ {p ds}, NewL c F3 H3 σ ρ p ds → p ≠ w := by
    rintro p ds n rfl
    obtain ⟨vs, e, _⟩ := n.l
    rw [nw] at e
    exact nomatch e
  have up : ∀ {p ds}, NewL c F3 H3 σ ρ p ds → NewL c (upd F3 w (.lst [.ref p1, .ref p2, .ref p3])) (upd H3 w (.lst [.ref p1, .ref p2, .ref p3])) σ ρ p ds := by
    intro p ds n
    obtain ⟨vs, e1, e2⟩ := n.l
    exact ⟨⟨vs, by rw [upd_ne (np n)]; exact e1, e2.mono (fun _ _ e => old_upd (R3.fnone nw) e)⟩, by rw [upd_ne (np n)]; exact n.f, n.n, n.b, n.o⟩
  have d12 : p1 ≠ p2 := by
    rintro rfl
    obtain ⟨vs, e, _⟩ := n1.l
    rw [z2] at e
    exact nomatch e
  have d13 : p1 ≠ p3 := by
    rintro rfl
    obtain ⟨vs, e, _⟩ := m1.l
    rw [z3] at e
    exact nomatch e
  have d23 : p2 ≠ p3 := by
    rintro rfl
    obtain ⟨vs, e, _⟩ := n2.l
    rw [z3] at e
    exact nomatch e
  refine hq w [p1, p2, p3] _ _ (R3.alloc nw trivial) (fun b o e => old_upd (R3.fnone nw) (s3 _ _ (s2 _ _ (s1 _ _ e)))) ⟨upd_same, ?_, rfl, fun i p ds h1 h2 => ?_⟩
  · simp [d12, d13, d23]
  · match i, h1, h2 with
    | 0, h1, h2 => obtain rfl := Option.some.inj h1; obtain rfl := Option.some.inj h2; exact up k1
    | 1, h1, h2 => obtain rfl := Option.some.inj h1; obtain rfl := Option.some.inj h2; exact up k2
    | 2, h1, h2 => obtain rfl := Option.some.inj h1; obtain rfl := Option.some.inj h2; exact up k3
    | i + 3, h1, h2 => simp at h1
def fNest (s a : Nat) (ph : QN) (W : List (List D) → PSt → Prop) (w : Addr) (dss : List (List D)) (ρ : PSt) : Prop :=
  ρ[s]? = some (.val (adD w)) ∧ ∃ k : Nat, ρ[a]? = some (.val (.int (k : Nat))) ∧ ∃ (l : List D) (z : D), dss[k]? = some (l ++ [z]) ∧
    ph ρ fun hs ρ1 => ρ1 = ρ ∧ oEqD true (.lst hs) z fun d => ∃ b, d = .bl b ∧ if b = true then ((l ++ [z]).length < sizeLine ∧ ph ρ fun h2 ρ2 => ρ2 = ρ ∧ W (dss.set k ((l ++ [z]) ++ [.lst h2])) ρ) else W dss ρ
theorem nestIf {K : PySem.W.Frag} {th : TE} {ph : QN} {s a : Nat} {w : Addr} {ps : List Addr} {dss : List (List D)} {W : List (List D) → PSt → Prop} {D0 : Ends} (hh : LiN X th ph) (hX : c.X = X) (hK : X.K = K) (R : Rel c F H σ ρ) (n : Nest c F H σ ρ w ps dss)
    (hf : fNest s a ph W w dss ρ) (hN : ∀ F' H' es, Rel c F' H' σ ρ → Same F F' → Nest c F' H' σ ρ w ps es → W es ρ → D0.nx σ H') :
    tIfS (tTest (tOp (rNeD K) th (tOp (rIxL K) (tOp (rIxL K) (tVar s) (tVar a)) (tUn (rU fun i => V.int (-i)) (tC (V.int 1)))))) (tDrop (tBM K "list" rAppend (tOp (rIxL K) (tVar s) (tVar a)) (tCons th tNil))) tNext D0 σ H := by
  obtain ⟨es, k, ek, l, z, ez, hp⟩ := hf
  obtain ⟨vw, sw, (rfl : vw = .ref w)⟩ := R.slot s _ es
  obtain ⟨vk, sk, (rfl : vk = .int (k : Nat))⟩ := R.slot a _ ek
  have kl := (List.getElem?_eq_some_iff.mp ez).1
  obtain ⟨p, ep⟩ : ∃ p, ps[k]? = some p := ⟨_, List.getElem?_eq_getElem (by rw [n.len]; exact kl)⟩
  have epr : (ps.map V.ref)[k]? = some (.ref p) := by rw [List.getElem?_map, ep]; rfl
  refine hh (c.at F H (ownB σ ρ)) hX σ F H ρ _ _ R.here ?_ hp
  rintro hs ρx q F1 H1 R1' s1 n1 ⟨e, hc⟩
  rw [e] at R1' n1
  have R1 := R.trans R1'
  have m1 := n.stepF R R1' s1
  obtain ⟨vs, hvs, rvs⟩ := (m1.cell k p _ ep ez).l
  obtain ⟨us, y, rfl, yl⟩ : ∃ us y, vs = us ++ [y] ∧ Rp c.K F1 z y := by
    have hlen := rvs.len
    have g : (l ++ [z])[l.length]? = some z := by simp
    obtain ⟨y, e1, e2⟩ := rvs.get' g
    refine ⟨vs.take l.length, y, ?_, e2⟩
    obtain ⟨l1, e3⟩ := List.getElem?_eq_some_iff.mp e1
    rw [← e3, List.take_append_getElem l1, List.take_of_length_le (by rw [hlen]; simp)]
  obtain ⟨xs, hxs, rxs⟩ := n1.l
  refine ⟨_, sw, _, sk, w, ps.map V.ref, _, _, rfl, rfl, sqL_of (R1.sub _ _ m1.top), atI_nat epr, _, rfl, p, us ++ [y], _, _, rfl, rfl, sqL_of hvs, atI_last us y, ?_⟩
  refine lr_neD' hK (c.at F1 H1 (ownB σ ρ)) hX σ F1 H1 ρ _ _ (.lst hs) z _ _ R1.here ⟨q, xs, rfl, hxs, rxs⟩ (Rn.of R1.sub yl) ?_ hc
  rintro _ v F2 H2 R2' s2 rp ⟨b, rfl, hb⟩
  have R2 := R1.trans R2'
  have m2 := m1.stepF R1 R2' s2
  refine ⟨b, rp, ?_⟩
  cases b with
  | false => exact hN F2 H2 dss R2 (tr s1 s2) m2 hb
  | true =>
    obtain ⟨hl, hp2⟩ := hb
    obtain ⟨vs2, hv2, rv2⟩ := (m2.cell k p _ ep ez).l
    refine ⟨_, sw, _, sk, w, ps.map V.ref, _, _, rfl, rfl, sqL_of (R2.sub _ _ m2.top), atI_nat epr, Or.inl ⟨rfl, vs2, sqL_of hv2⟩, ?_⟩
    refine hh (c.at F2 H2 (ownB σ ρ)) hX σ F2 H2 ρ _ _ R2.here ?_ hp2
    rintro h2 ρx q2 F3 H3 R3' s3 n3 ⟨e, hw⟩
    rw [e] at R3' n3
    obtain ⟨ws, R4', s4, r4⟩ := n3.keep R3'
    have R4 := R2.trans R4'
    have m4 := m2.stepF R2 R4' (tr s3 s4)
    have cl := m4.cell k p _ ep ez
    obtain ⟨vs4, hv4, rv4⟩ := cl.l
    refine ⟨p, vs4, _, rfl, rfl, hv4, by rw [rv4.len]; exact hl, ?_⟩
    exact hN _ _ _ (R4.mutH hv4 cl.f cl.b2 cl.o) (tr (tr s1 s2) (tr s3 s4)) (m4.app ep ez hv4 rv4 r4) hw
/-- the plain reading of the walk -/
def sNest (p1 : QS) (s a m : Nat) (pi : QI) (pg : QG) (pB : QS) (ph : QN) (ds0 : List D) : QS := fun P ρ =>
  p1 { nx := fun ρ1 => ∀ w, pi (ρ1.set s (.val (adD w))) fun ds ρ2 => ∃ W : Nat → List (List D) → PSt → Prop, W 0 [ds0, ds0, ds0] ρ2 ∧ ∀ i dss ρ, W i dss ρ →
      (ds[i]? = none → ρ[s]? = some (.val (adD w)) ∧ ∃ dm, ρ[m]? = some (.val dm) ∧ P.rt (.val (.tup [dm, .lst (dss.map D.lst)])) ρ) ∧
      ∀ d, ds[i]? = some d → pg d ρ fun ρ3 => pB { nx := fun ρ4 => fNest s a ph (W (i + 1)) w dss ρ4, rt := fun _ _ => False } ρ3, rt := fun _ _ => False } ρ
theorem ls_nest {K : PySem.W.Frag} {t1 tB1 tB2 : TS} {te th : TE} {wi : TI} {g : TG} {p1 pB : QS} {pn ph : QN} {pi : QI} {pg : QG} {ts : List Nat} {s a m : Nat} {ds0 : List D}
    (h1 : LiS X t1 p1) (h : LiN X te pn) (hp : ∀ ρ Q3, Q3 ds0 ρ → pn ρ Q3) (hI : LiI X wi pi) (hg : LiG X g pg ts) (hB' : LiS X (tSeq tB1 tB2) pB) (hh : LiN X th ph) (hK : X.K = K := by rfl) :
    LiS X (tSeq t1 (tSeq (tAsg (tLst (tCons te (tCons te (tCons te tNil)))) (gName s)) (tSeq (tFor wi g (tSeq tB1 (tSeq tB2
      (tIfS (tTest (tOp (rNeD K) th (tOp (rIxL K) (tOp (rIxL K) (tVar s) (tVar a)) (tUn (rU fun i => V.int (-i)) (tC (V.int 1)))))) (tDrop (tBM K "list" rAppend (tOp (rIxL K) (tVar s) (tVar a)) (tCons th tNil))) tNext))))
      (tRet (tTup (tCons (tVar m) (tCons (tVar s) tNil))))))) (sNest p1 s a m pi pg pB ph ds0) := by
  intro c hX σ F H ρ D0 P R ag hq
  refine h1 c hX σ F H ρ _ _ R ?ag hq
  refine ⟨?_, fun _ _ _ _ _ _ _ _ _ z => z.elim, fun _ _ _ _ _ _ z => z.elim, fun _ _ _ _ _ _ z => z.elim⟩
  intro σ1 F1 H1 ρ1 R1 s1 hq1
  dsimp only [tSeq, tAsg]
  refine nest3 h hp hX R1 ?_
  intro w ps F2 H2 R2 s2 n2
  have hq2 := hq1 w
  have R3 : Rel c F2 H2 (σ1.set s (some (.ref w))) (ρ1.set s (.val (adD w))) := R2.setVal (i := s) (d := adD w) (v := .ref w) rfl
  have n3 : Nest c F2 H2 (σ1.set s (some (.ref w))) (ρ1.set s (.val (adD w))) w ps [ds0, ds0, ds0] := by
    refine ⟨n2.top, n2.nd, n2.len, fun i p ds e1 e2 => ?_⟩
    have k := n2.cell i p ds e1 e2
    refine ⟨k.l, k.f, k.n, k.b, fun j f o e3 e4 => ?_⟩
    by_cases e : s = j
    · subst e
      have hl := (List.getElem?_eq_some_iff.mp e3).1
      rw [List.length_set] at hl
      rw [List.getElem?_set_self hl] at e3
      exact nomatch e3
    · rw [List.getElem?_set_ne e] at e3 e4
      exact k.o j f o e3 e4
  dsimp only [gName, tSeq, tFor]
  revert R3 n3 hq2
  generalize σ1.set s (some (.ref w)) = σ3
  generalize ρ1.set s (.val (adD w)) = ρ3
  intro hq2 R3 n3
  refine hI (c.at F2 H2 (ownB σ3 ρ3)) hX σ3 F2 H2 ρ3 _ _ R3.here ?_ hq2
  rintro ds ρ4 J F4 H4 R4' s4 wd ⟨W, w0, turn⟩
  have R4 := R3.trans R4'
  have n4 := n3.stepF R3 R4' s4
  have sA : Same F F4 := tr (tr s1 s2) s4
  refine ⟨fun i m σ' H' => m = ds.length - i ∧ ∃ F' ρ' dss, Rel c F' H' σ' ρ' ∧ Same F4 F' ∧ Nest c F' H' σ' ρ' w ps dss ∧ W i dss ρ', ⟨_, rfl, F4, ρ4, _, R4, Same.refl F4, n4, w0⟩, ?_⟩
  rintro i _ σ5 H5 ⟨rfl, F5, ρ5, dss, R5, s5, n5, w5⟩
  obtain ⟨w1, w2⟩ := wd i (c.at F5 H5 (ownB σ5 ρ5)) σ5 ρ5 F5 H5 hX s5 R5.here
  obtain ⟨t1, t2⟩ := turn i dss ρ5 w5
  cases e1 : ds[i]? with
  | none =>
    refine Or.inl ⟨w2 e1, ?_⟩
    obtain ⟨g1, dm, g2, g3⟩ := t1 e1
    obtain ⟨vw, sw, (rfl : vw = .ref w)⟩ := R5.slot s _ g1
    obtain ⟨vm, sm, rm⟩ := R5.slot m _ g2
    obtain ⟨F6, R6, s6, r6⟩ := n5.keep R5
    refine ⟨vm, sm, _, sw, (by show 2 ≤ sizeLine; decide), fun p np => ?_⟩
    have s7 : Same F6 (upd F6 p (.tup [vm, .ref w])) := fun _ _ e => old_upd (R6.fnone np) e
    refine ag.rt σ5 _ _ ρ5 (.ref p) (.val (.tup [dm, .lst (dss.map D.lst)])) (R6.alloc np trivial) (tr (tr sA s5) (tr s6 s7)) ?_ g3
    exact ⟨p, _, rfl, sqT_of upd_same, _, _, rfl, (rm.mono s6).mono s7, _, _, rfl, r6.mono s7, rfl⟩
  | some d =>
    obtain ⟨go, yl⟩ := w1 d e1
    have hlt := (List.getElem?_eq_some_iff.mp e1).1
    refine Or.inr ⟨go, fun σ' H' => ∃ F' ρ' dss, Rel c F' H' σ' ρ' ∧ Same F4 F' ∧ Nest c F' H' σ' ρ' w ps dss ∧ W (i + 1) dss ρ', fun σ' H' ⟨F', ρ', es, R', s', n', q'⟩ => ⟨ds.length - (i + 1), by omega, rfl, F', ρ', es, R', s', n', q'⟩, ?_⟩
    intro x H6 hy
    obtain ⟨_, F6, R6, s6, rp⟩ := yl x H6 hy
    refine hg (c.at F5 H5 (ownB σ5 ρ5)) hX σ5 F6 H6 ρ5 d x _ _ R6 (by rw [← hX] at rp; exact rp) ?_ (t2 d e1)
    intro ρ7 σ7 F7 H7 R7 s7 _ _ q7
    refine hB' (c.at F5 H5 (ownB σ5 ρ5)) hX σ7 F7 H7 ρ7 _ _ R7 ?ag2 q7
    refine ⟨?_, fun _ _ _ _ _ _ _ _ _ z => z.elim, fun _ _ _ _ _ _ z => z.elim, fun _ _ _ _ _ _ z => z.elim⟩
    intro σ8 F8 H8 ρ8 R8' s8 q8
    have sB : Same F5 F8 := tr (tr s6 s7) s8
    have R8 := R5.trans R8'
    have n8 := n5.stepF R5 R8' sB
    exact nestIf hh hX hK R8 n8 q8 (fun F' H' es R' s' n' w' => ⟨F', ρ8, es, R', tr (tr s5 sB) s', n', w'⟩)
end
end L3
/-! list(zip(a, b)) of two lists. -/
namespace L2
open PySem PySem.Spec PyProof.Rows
theorem zip_no_len : typeLookup (.type "zip") "__len__" = pure none := am_miss_of_fast (by decide +kernel)
theorem zip_no_hint : typeLookup (.type "zip") "__length_hint__" = pure none := am_miss_of_fast (by decide +kernel)
/-- the list at q filled by pairs, one behind the other -/
def zipGo (q : Addr) : List (V × V) → List V → Hp → VK → Prop
  | [], _, H, Q => Q (.ref q) H
  | (x, y) :: r, acc, H, Q => ∀ T, H T = none → zipGo q r (acc ++ [.ref T]) (upd (upd H T (.tup [x, y])) q (.lst (acc ++ [.ref T]))) Q
def tLstZip (K : PySem.W.Frag) (ta : TA) : TE := fun σ H Q => ta σ H fun vs H1 => ∃ a b xs ys, vs = [.ref a, .ref b] ∧ SqL K H1 a xs ∧ SqL K H1 b ys ∧ ∀ q, H1 q = none → zipGo q (xs.zip ys) [] (upd H1 q (.lst [])) Q
/-- how a zip stands behind i pairs -/
def ZSt (z TI TO i1 i2 l1 l2 S : Addr) (i : Nat) (h : Heap) : Prop := IsPair h TI (.ref i1) (.ref i2) ∧ h.IsListIter i1 l1 i ∧ h.IsListIter i2 l2 i ∧
  ((IsZip h z TI TO .none ∧ ∃ a b, IsPair h TO a b) ∨ ∃ T f oT, IsZipHeld h z TI TO T f ∧ h.get? T = some oT ∧ T ≠ z ∧ T ≠ i1 ∧ T ≠ i2 ∧ T ≠ S)
theorem ZSt.frame {z TI TO i1 i2 l1 l2 S : Addr} {i : Nat} {h h' : Heap} (st : ZSt z TI TO i1 i2 l1 l2 S i h) (hs : ∀ b ∈ [z, TI, TO, i1, i2], b ≠ S) (k : ∀ b o, b ≠ S → h.get? b = some o → h'.get? b = some o) : ZSt z TI TO i1 i2 l1 l2 S i h' := by
  obtain ⟨hTI, h1, h2, hz⟩ := st
  refine ⟨k _ _ (hs _ (by simp)) hTI, h1.at fun o e => k _ o (hs _ (by simp)) e, h2.at fun o e => k _ o (hs _ (by simp)) e, ?_⟩
  rcases hz with ⟨hz, a, b, hTO⟩ | ⟨T, f, oT, hz, hT, r1, r2, r3, r4⟩
  · exact .inl ⟨k _ _ (hs _ (by simp)) hz, a, b, k _ _ (hs _ (by simp)) hTO⟩
  · exact .inr ⟨T, f, oT, k _ _ (hs _ (by simp)) hz, k _ _ r4 hT, r1, r2, r3, r4⟩
section
variable {X : Cx} {pins : List (Addr × Obj)} {σ : St} {H : Hp} {s : Shared} {z TI TO i1 i2 l1 l2 S : Addr} {xs ys : List V}
/-- the next pair -/
theorem zip_nextI {A : Around} {E : Value → Shared → Prop} {i : Nat} {x y : V} {Q : Option Value → Shared → Prop} (D : ZipApart z TI TO i1 i2 l1 l2) (I : Inv X pins σ H s) (st : ZSt z TI TO i1 i2 l1 l2 S i s.heap) (hf : ∀ b ∈ [z, TI, TO, i1, i2], FpOk X pins H b) (hlt : ∀ b ∈ [z, TI, TO, i1, i2], b < S) (hS : S < s.heap.objs.size)
    (hqx : SqL X.K H l1 xs) (hqy : SqL X.K H l2 ys) (hx : xs[i]? = some x) (hy : ys[i]? = some y)
    (hQ : ∀ T s', H T = none → (∀ b ∈ [z, TI, TO, i1, i2], b ≠ T) → T ≠ S → Inv X pins σ (upd H T (.tup [x, y])) s' → ZSt z TI TO i1 i2 l1 l2 S (i + 1) s'.heap → Q (some (.ref T)) s') :
    wpAny (model X.prog X.w) A (pyNext (.ref z)) Q E s := by
  obtain ⟨hTI, h1, h2, hz⟩ := st
  obtain ⟨its, rv, p, _⟩ := I.list hqx
  obtain ⟨its2, rv2, p2, _⟩ := I.list hqy
  obtain ⟨u, hu, ru⟩ := rv.get hx
  obtain ⟨u2, hu2, ru2⟩ := rv2.get hy
  have hT0 : H s.heap.objs.size = none := I.hok.fresh (Nat.le_refl _)
  have neT : ∀ b ∈ [z, TI, TO, i1, i2], b ≠ s.heap.objs.size := fun b hb => Nat.ne_of_lt (Nat.lt_trans (hlt b hb) hS)
  have new : ∀ h' : Heap, IsPair h' s.heap.objs.size u u2 → ObjOk X.prog X.w (upd H s.heap.objs.size (.tup [x, y])) h' s.heap.objs.size (.tup [x, y]) := fun h' hT =>
    ⟨by show 2 ≤ sizeLine; decide, [u, u2], .cons ru (.cons ru2 .nil), ⟨_, hT, rfl, _, rfl⟩⟩
  have nz := (neT z (by simp)).symm
  have n1 := (neT i1 (by simp)).symm
  have n2 := (neT i2 (by simp)).symm
  rcases hz with ⟨hz, a, b, hTO⟩ | ⟨T, f, oT, hz, hT, r1, r2, r3, r4⟩
  · refine wpAny_pyNext_zip_item D hz hTI hTO h1 h2 p.isList p2.isList (x := u) (y := u2) (by simpa using hu) (by simpa using hu2) fun h' z' TO' h1' h2' hT hsz hk => ?_
    refine hQ _ _ hT0 neT (Nat.ne_of_gt hS) (I.turnedNew (t' := s.toks) (ch := [z, TI, TO, i1, i2]) (fun c o hb q => hk c o (fun e => hb (by simp [e])) (fun e => hb (by simp [e])) (fun e => hb (by simp [e])) (fun e => hb (by simp [e])) q) hf (Nat.le_refl _) (new h' hT)) ?_
    exact ⟨hk _ _ D.TIz D.TITO D.TIi1 D.TIi2 hTI, h1', h2', .inr ⟨s.heap.objs.size, false, _, z', hT, nz, n1, n2, Nat.ne_of_gt hS⟩⟩
  · refine wpAny_pyNext_zip_item_held D hz hT hTI h1 h2 p.isList p2.isList (x := u) (y := u2) (by simpa using hu) (by simpa using hu2) fun h' z' h1' h2' hT' hsz hk => ?_
    refine hQ _ _ hT0 neT (Nat.ne_of_gt hS) (I.turnedNew (t' := s.toks) (ch := [z, TI, TO, i1, i2]) (fun c o hb q => hk c o (fun e => hb (by simp [e])) (fun e => hb (by simp [e])) (fun e => hb (by simp [e])) q) hf (Nat.le_refl _) (new h' hT')) ?_
    exact ⟨hk _ _ D.TIz D.TIi1 D.TIi2 hTI, h1', h2', .inr ⟨T, true, oT, z', hk _ _ r1 r2 r3 hT, r1, r2, r3, r4⟩⟩
theorem zip_endI {A : Around} {E : Value → Shared → Prop} {i : Nat} {Q : Option Value → Shared → Prop} (hh : A.handled = none) (D : ZipApart z TI TO i1 i2 l1 l2) (I : Inv X pins σ H s) (st : ZSt z TI TO i1 i2 l1 l2 S i s.heap) (hf : ∀ b ∈ [z, TI, TO, i1, i2], FpOk X pins H b)
    (hqx : SqL X.K H l1 xs) (hqy : SqL X.K H l2 ys) (he : xs.length ≤ i ∨ ys.length ≤ i) (hQ : ∀ s', Inv X pins σ H s' → Q none s') :
    wpAny (model X.prog X.w) A (pyNext (.ref z)) Q E s := by
  obtain ⟨hTI, h1, h2, hz⟩ := st
  obtain ⟨its, rv, p, _⟩ := I.list hqx
  obtain ⟨its2, rv2, p2, _⟩ := I.list hqy
  have e1 := rv.length
  have e2 := rv2.length
  have he2 : its.toArray[i]? = none ∨ its2.toArray[i]? = none := by
    rcases he with q | q
    · exact .inl (by simp; omega)
    · exact .inr (by simp; omega)
  rcases hz with ⟨hz, a, b, hTO⟩ | ⟨T, f, oT, hz, hT, r1, r2, r3, r4⟩
  · exact wpAny_pyNext_zip_end hh D hz hTI hTO h1 h2 p.isList p2.isList he2 fun h' hk => hQ _ (I.turnedL (t' := s.toks) (ch := [z, TI, TO, i1, i2]) (fun c o hb q => hk c o (fun e => hb (by simp [e])) (fun e => hb (by simp [e])) (fun e => hb (by simp [e])) (fun e => hb (by simp [e])) q) hf)
  · exact wpAny_pyNext_zip_end_held hh D hz hT hTI h1 h2 p.isList p2.isList he2 fun h' hk => hQ _ (I.turnedL (t' := s.toks) (ch := [z, TI, TO, i1, i2]) (fun c o hb q => hk c o (fun e => hb (by simp [e])) (fun e => hb (by simp [e])) (fun e => hb (by simp [e])) q) hf)
/-- the loop that fills the list -/
theorem zip_loop {A : Around} {R : Result → Shared → Prop} {res : Value} {Q : VK} {H1 : Hp} (hh : A.handled = none) (D : ZipApart z TI TO i1 i2 l1 l2) (hlt : ∀ b ∈ [z, TI, TO, i1, i2], b < S) (hqx : SqL X.K H1 l1 xs) (hqy : SqL X.K H1 l2 ys) (hn : (xs.zip ys).length ≤ sizeLine) (hS1 : H1 S = none)
    (hR : ∀ s' H', Inv X pins σ H' s' → Q (.ref S) H' → R (.ok (.ret res)) s') :
    ∀ (k i : Nat) (acc : List V) (H : Hp) (s : Shared), i + k = (xs.zip ys).length → (∀ b o, H1 b = some o → H b = some o) → Inv X pins σ H s → H S = some (.lst acc) → acc.length = i → ZSt z TI TO i1 i2 l1 l2 S i s.heap → (∀ b ∈ [z, TI, TO, i1, i2], FpOk X pins H b) →
      zipGo S ((xs.zip ys).drop i) acc H Q → codeAny (model X.prog X.w) A (.builtin "list.extend.loop" ⟨[.ref S, .ref z, res], []⟩) R s := by
  have hsS : ∀ b ∈ [z, TI, TO, i1, i2], b ≠ S := fun b hb => Nat.ne_of_lt (hlt b hb)
  have hlen : (xs.zip ys).length = min xs.length ys.length := List.length_zip
  intro k
  induction k with
  | zero =>
    intro i acc H s hi hsub I hS hal st hf hg
    refine codeAny_builtin F.entry_extend_loop ?_
    rw [Around.under_plainId F.plain_extend_loop _]
    show wpAny _ A.in1 (pyNext (.ref z) >>= _) _ _ _
    refine wpAny_bind (zip_endI (A := A.in1) hh D I st hf (L3.sqL_mono hsub hqx) (L3.sqL_mono hsub hqy) (by omega) fun s' I' => ?_)
    rw [List.drop_eq_nil_of_le (by omega)] at hg
    exact wpAny_pure (hR s' H I' hg)
  | succ k ih =>
    intro i acc H s hi hsub I hS hal st hf hg
    obtain ⟨x, hx⟩ : ∃ x, xs[i]? = some x := ⟨_, List.getElem?_eq_getElem (by omega)⟩
    obtain ⟨y, hy⟩ : ∃ y, ys[i]? = some y := ⟨_, List.getElem?_eq_getElem (by omega)⟩
    have hd : (xs.zip ys).drop i = (x, y) :: (xs.zip ys).drop (i + 1) := by
      rw [List.drop_eq_getElem_cons (by omega)]
      congr 1
      obtain ⟨_, e1⟩ := List.getElem?_eq_some_iff.mp hx
      obtain ⟨_, e2⟩ := List.getElem?_eq_some_iff.mp hy
      rw [List.getElem_zip, e1, e2]
    rw [hd] at hg
    obtain ⟨zl, its, n, rv, hl, e⟩ := I.lstM hS
    refine codeAny_builtin F.entry_extend_loop ?_
    rw [Around.under_plainId F.plain_extend_loop _]
    show wpAny _ A.in1 (pyNext (.ref z) >>= _) _ _ _
    refine wpAny_bind (zip_nextI (A := A.in1) D I st hf hlt (Heap.lt_size e) (L3.sqL_mono hsub hqx) (L3.sqL_mono hsub hqy) hx hy fun T s' hT nT nTS I' st' => ?_)
    have hS' : upd H T (.tup [x, y]) S = some (.lst acc) := by rw [upd_ne nTS.symm]; exact hS
    obtain ⟨zl', its', n', rv', hl', e'⟩ := I'.lstM hS'
    show wpAny _ A.in1 (updateSeq S (·.push (Value.ref T)) >>= _) _ _ _
    refine wpAny_bind ?_
    have hsz : its'.toArray.size < sizeLine := by rw [List.size_toArray]; omega
    have I2 := I'.lset (t' := s'.toks) (ys := acc ++ [.ref T]) (its' := its' ++ [.ref T]) (f := (·.push (Value.ref T))) hS' e' (by simp) (rv'.append (.cons (show RelV (.ref T) (.ref T) from rfl) .nil)) (by rw [List.length_append, List.length_singleton]; omega)
    refine wpAny_updateSeq e' rfl (wpAny_pure ⟨plainId_quiet F.plain_extend_loop _, ?_⟩) (Nat.le_of_lt hsz) (by rw [Array.size_push]; omega)
    refine ih (i + 1) (acc ++ [.ref T]) _ _ (by omega) (fun b o eb => ?_) I2 upd_same (by rw [List.length_append, hal]; rfl) (st'.frame hsS fun b o hb eb => (Heap.get?_update_other _ _ (Ne.symm hb)).trans eb) (fun b hb => ?_) (hg T hT)
    · have nb : b ≠ S := fun q => by rw [q, hS1] at eb; cases eb
      have nb2 : b ≠ T := fun q => by rw [← q, hsub b o eb] at hT; cases hT
      rw [upd_ne nb, upd_ne nb2]
      exact hsub b o eb
    · obtain ⟨f0, f1⟩ := hf b hb
      refine ⟨?_, f1⟩
      rw [upd_ne (hsS b hb), upd_ne (nT b hb)]
      exact f0
theorem call_list_zip {A : Around} {Q : VK} (hh : A.handled = none) (D : ZipApart z TI TO i1 i2 l1 l2) (I : Inv X pins σ H s) (hlt : ∀ b ∈ [z, TI, TO, i1, i2], b < s.heap.objs.size) (hf : ∀ b ∈ [z, TI, TO, i1, i2], FpOk X pins H b)
    (hz : IsZip s.heap z TI TO .none) (hTI : IsPair s.heap TI (.ref i1) (.ref i2)) (hTO : ∃ a b, IsPair s.heap TO a b) (h1 : s.heap.IsListIter i1 l1 0) (h2 : s.heap.IsListIter i2 l2 0)
    (hqx : SqL X.K H l1 xs) (hqy : SqL X.K H l2 ys) (hn : (xs.zip ys).length ≤ sizeLine) (h : ∀ q, H q = none → zipGo q (xs.zip ys) [] (upd H q (.lst [])) Q) :
    wpAny (model X.prog X.w) A (call (.type "list") [.ref z]) (EP X pins σ Q) X.xe s := by
  refine callType_codes (Q₁ := fun obj s₁ => obj = .ref s.heap.objs.size ∧ s₁ = { s with heap := s.heap.push { cls := .type "list", data := .seq #[] } }) F.called_list (F.typeCall_list_1 _) F.entry_list_init
    (code_list_new _ ⟨rfl, rfl⟩) fun obj s₁ h₁ => ?_
  obtain ⟨rfl, rfl⟩ := h₁
  have hS : (s.heap.push { cls := .type "list", data := .seq #[] }).get? s.heap.objs.size = some { cls := .type "list", data := .seq #[] } := Heap.get?_push_size _ rfl
  have hq0 : H s.heap.objs.size = none := I.hok.fresh (Nat.le_refl _)
  have I1 : Inv X pins σ (upd H s.heap.objs.size (.lst [])) { s with heap := s.heap.push { cls := .type "list", data := .seq #[] } } := I.lnew (t' := s.toks) (its := []) (ys := []) .nil (Nat.zero_le _)
  refine ⟨⟨_, hS, rfl⟩, F.args_list_init_2 _ _, ?_⟩
  generalize hSd : s.heap.objs.size = S at *
  have hsS : ∀ b ∈ [z, TI, TO, i1, i2], b ≠ S := fun b hb => Nat.ne_of_lt (hlt b hb)
  have st1 : ZSt z TI TO i1 i2 l1 l2 S 0 (s.heap.push { cls := .type "list", data := .seq #[] }) :=
    (show ZSt z TI TO i1 i2 l1 l2 S 0 s.heap from ⟨hTI, h1, h2, .inl ⟨hz, hTO⟩⟩).frame hsS fun b o _ e => Heap.get?_push_of_some _ e
  have hSz : S ≠ z := (hsS z (by simp)).symm
  have uu : upd (upd H S (.lst [])) S (.lst []) = upd H S (.lst []) := by
    funext b
    by_cases q : b = S
    · subst q
      rw [upd_same, upd_same]
    · rw [upd_ne q]
  have hf1 : ∀ b ∈ [z, TI, TO, i1, i2], FpOk X pins (upd H S (.lst [])) b := fun b hb => by
    obtain ⟨f0, f1⟩ := hf b hb
    exact ⟨by rw [upd_ne (hsS b hb)]; exact f0, f1⟩
  have key : ∀ (h : Heap) (c tk : Nat), (∀ b o, b ≠ S → (s.heap.push { cls := .type "list", data := .seq #[] }).get? b = some o → h.get? b = some o) → h.get? S = some { cls := .type "list", data := .seq #[] c } →
      codeAny (model X.prog X.w) A.in1 (.builtin "list.extend.loop" ⟨[.ref S, .ref z, .none], []⟩) (wants (fun r s₂ => r = .none ∧ EP X pins σ Q (.ref S) s₂) X.xe) { s with heap := h, toks := tk } := by
    intro h3 c tk hk hS3
    have I3 := I1.write (t' := tk) (h' := h3) (x := S) (e := S) (o := .lst []) (by rw [upd_same]; exact trivial) (.inl rfl) (fun b u hb e => hk b u hb e) ⟨_, hS3⟩ ⟨Nat.zero_le _, [], c, .nil, hS3⟩
    rw [uu] at I3
    refine zip_loop (A := A.in1) (H1 := H) (Q := Q) hh D hlt hqx hqy hn hq0 (fun s' H' I' q' => ⟨rfl, .ref S, H', I', rfl, q'⟩) (xs.zip ys).length 0 [] _ _ (Nat.zero_add _) (fun b o e => ?_) I3 upd_same rfl (st1.frame hsS hk) hf1 (h S hq0)
    rw [upd_ne (fun q => by rw [q, hq0] at e; cases e)]
    exact e
  show wpAny _ _ (do let old ← Builtin.List.listItems (.ref S); Builtin.List.listUpdate (.ref S) (fun _ => #[]); letGo old.toList.reverse; Builtin.List.listExtendWith (.ref S) (.ref z) .none) _ _ _
  refine wpAny_bind ?_
  unfold Builtin.List.listItems
  refine wpAny_bind (wpAny_seqItems hS rfl (wpAny_pure ?_))
  show wpAny _ _ (updateSeq S (fun _ => #[]) >>= fun _ => letGo (#[] : Array Value).toList.reverse >>= fun _ => Builtin.List.listExtendWith (.ref S) (.ref z) .none) _ _ _
  refine wpAny_bind (wpAny_updateSeq hS rfl ?_)
  have hS₂ := Heap.get?_update_self (Obj.mapSeq (fun _ => (#[] : Array Value))) hS rfl
  have oth : ∀ b o, b ≠ S → (s.heap.push { cls := .type "list", data := .seq #[] }).get? b = some o → ((s.heap.push { cls := .type "list", data := .seq #[] }).update S (Obj.mapSeq (fun _ => (#[] : Array Value)))).get? b = some o :=
    fun b o hb e => (Heap.get?_update_other _ _ (Ne.symm hb)).trans e
  refine wpAny_bind (wpAny_letGo ?_)
  have hz2 := oth z _ (Ne.symm hSz) (Heap.get?_push_of_some _ hz)
  unfold Builtin.List.listExtendWith
  refine wpAny_bind (wpAny_typeOf (T := "zip") ⟨_, hz2, rfl⟩ ?_)
  have h1 : Builtin.List.listSameRef (.ref S) (.ref z) = false := by simp [Builtin.List.listSameRef, hSz]
  have h2 : (Value.type "zip" == Value.type "list") = false := by decide
  have h3 : (Value.type "zip" == Value.type "tuple") = false := by decide
  simp only [h1, h2, h3, Bool.or_false, Bool.false_eq_true, if_false]
  refine wpAny_bind (wpAny_pyIter_zip hz2 ?_)
  refine wpAny_bind (wpAny_holding ?_)
  unfold Builtin.List.listLengthHint
  refine wpAny_bind (wpAny_specialOf (T := "zip") ⟨_, hz2, rfl⟩ zip_no_len ?_)
  show wpAny _ _ (specialOf (Value.ref z) (Str.ofString "__length_hint__") >>= _) _ _ _
  refine wpAny_bind (wpAny_specialOf (T := "zip") ⟨_, hz2, rfl⟩ zip_no_hint ?_)
  refine wpAny_pure ?_
  show wpAny _ _ (rule "list.extend.makes-room" >>= fun _ => Builtin.List.listTouch (.ref S) >>= fun _ => again (.builtin "list.extend.loop" ⟨[.ref S, .ref z, .none], []⟩)) _ _ _
  refine wpAny_bind (wpAny_rule ?_)
  refine wpAny_bind ?_
  show wpAny _ _ (updateSeq S (·.push .none) >>= fun _ => updateSeq S (·.pop)) _ _ _
  refine wpAny_bind (wpAny_updateSeq hS₂ rfl ?_)
  have hS₃ := Heap.get?_update_self (Obj.mapSeq (·.push Value.none)) hS₂ rfl
  refine wpAny_updateSeq (hz := by seq_fits) hS₃ rfl ?_
  have hS₄ := Heap.get?_update_self (Obj.mapSeq (·.pop)) hS₃ rfl
  refine wpAny_pure ⟨plainId_quiet F.plain_extend_loop _, key _ _ _ (fun b o hb e => ?_) hS₄⟩
  exact (Heap.get?_update_other _ _ (Ne.symm hb)).trans ((Heap.get?_update_other _ _ (Ne.symm hb)).trans (oth b o hb e))
theorem pe_listZip {e e2 : Expr} {ta : TA} {p p2 pos pos2 : Pos} (hc : X.calm = true) (hg : Gl X "list") (hm : X.mg "list" = none) (hg2 : Gl X "zip") (hm2 : X.mg "zip" = none) (ha : PA X [e, e2] ta)
    (hs : starEach [e, e2] X.env = (false, eval e X.env) :: starEach [e2] X.env := by rfl) (hpl : (backTo pos2 (starEach [e2] X.env)).any (·.1) = false := by rfl)
    (na : starEach [.Call (.Name "zip" p2) [e, e2] [] pos2] X.env = (false, eval (.Call (.Name "zip" p2) [e, e2] [] pos2) X.env) :: starEach [] X.env := by rfl) :
    PE X (.Call (.Name "list" p) [.Call (.Name "zip" p2) [e, e2] [] pos2] [] pos) (tLstZip X.K ta) := by
  refine ⟨fun pins s σ H Q I h => ?_⟩
  refine Call_ (ld_blt I hg hm boot_list (PyProof.Rows.callWith_type1 (args_cons (thn (Q := fun x s1 => ∃ z TI TO i1 i2 l1 l2 H1 xs ys, x = .ref z ∧ ZipApart z TI TO i1 i2 l1 l2 ∧ Inv X pins σ H1 s1 ∧ (∀ b ∈ [z, TI, TO, i1, i2], b < s1.heap.objs.size) ∧ (∀ b ∈ [z, TI, TO, i1, i2], FpOk X pins H1 b) ∧
      IsZip s1.heap z TI TO .none ∧ IsPair s1.heap TI (.ref i1) (.ref i2) ∧ (∃ a b, IsPair s1.heap TO a b) ∧ s1.heap.IsListIter i1 l1 0 ∧ s1.heap.IsListIter i2 l2 0 ∧ SqL X.K H1 l1 xs ∧ SqL X.K H1 l2 ys ∧ (xs.zip ys).length ≤ sizeLine ∧ ∀ q, H1 q = none → zipGo q (xs.zip ys) [] (upd H1 q (.lst [])) Q) ?_ fun x s1 hx => args_nil ?_) na) na))
  · refine Call_ (ld_blt I hg2 hm2 PyProof.Rows.boot_zip (PyProof.Rows.callWith_type1 (thn (ha.run pos2 pins s σ H _ I h) fun us s1 ⟨vs, H1, I1, r1, q1⟩ => ?_) hs hpl))
    obtain ⟨a, b, xs, ys, ex, hqx, hqy, q⟩ := q1
    subst ex
    cases r1 with
    | cons r rr =>
      cases rr with
      | cons r' rr =>
        cases rr
        cases r
        cases r'
        obtain ⟨its, rv, p1, z1⟩ := I1.list hqx
        obtain ⟨its2, rv2, p2, z2⟩ := I1.list hqy
        refine call_zip_2 p1.isList p2.isList fun h' hz hTI hTO h1 h2 hsz hk => ?_
        have hmem : ∀ c ∈ [s1.heap.objs.size + 4, s1.heap.objs.size + 2, s1.heap.objs.size + 3, s1.heap.objs.size, s1.heap.objs.size + 1], s1.heap.objs.size ≤ c ∧ c < s1.heap.objs.size + 5 := by
          intro c hcm
          simp only [List.mem_cons, List.not_mem_nil, or_false] at hcm
          omega
        refine ⟨s1.heap.objs.size + 4, s1.heap.objs.size + 2, s1.heap.objs.size + 3, s1.heap.objs.size, s1.heap.objs.size + 1, a, b, H1, xs, ys, rfl, PySem.W.ktu_apart s1.heap.objs.size a b p1.lt p2.lt, I1.kept (t' := s1.toks) hk, fun c hcm => ?_, fun c hcm => ?_, hz, hTI, ⟨_, _, hTO⟩, h1, h2, hqx, hqy, ?_, q⟩
        · show c < h'.objs.size
          rw [hsz]
          exact (hmem c hcm).2
        · exact I1.fpOk (hmem c hcm).1 (I1.hok.fresh (hmem c hcm).1)
        · rw [List.length_zip]
          omega
  · obtain ⟨z, TI, TO, i1, i2, l1, l2, H1, xs, ys, rfl, D, I1, hlt, hf, hz, hTI, hTO, h1, h2, hqx, hqy, hn, hq⟩ := hx
    exact call_list_zip (I1.ok.hd hc) D I1 hlt hf hz hTI hTO h1 h2 hqx hqy hn hq
theorem pe_listZipK (K : PySem.W.Frag) {e e2 : Expr} {ta : TA} {p p2 pos pos2 : Pos} (hc : X.calm = true) (hg : Gl X "list") (hm : X.mg "list" = none) (hg2 : Gl X "zip") (hm2 : X.mg "zip" = none) (ha : PA X [e, e2] ta)
    (hs : starEach [e, e2] X.env = (false, eval e X.env) :: starEach [e2] X.env := by rfl) (hpl : (backTo pos2 (starEach [e2] X.env)).any (·.1) = false := by rfl)
    (na : starEach [.Call (.Name "zip" p2) [e, e2] [] pos2] X.env = (false, eval (.Call (.Name "zip" p2) [e, e2] [] pos2) X.env) :: starEach [] X.env := by rfl) (hK : X.K = K := by rfl) :
    PE X (.Call (.Name "list" p) [.Call (.Name "zip" p2) [e, e2] [] pos2] [] pos) (tLstZip K ta) := by
  subst hK
  exact pe_listZip hc hg hm hg2 hm2 ha hs hpl na
end
end L2
namespace L3
open PySem PySem.Spec PyProof.Rows L2 TB LamX
section
variable {X : Sx} {K : PySem.W.Frag} {c : Ct} {σ : L2.St} {ρ : PSt}
def zipD (xs ys : List D) : List D := (xs.zip ys).map fun p => D.tup [p.1, p.2]
theorem zip_rel {q : Addr} {Q : VK} : ∀ {xs ys : List D} {vs us : List V} {acc : List D} {avs : List V} {F H : Hp}, Rel c F H σ ρ → RpL c.K F xs vs → RpL c.K F ys us → RpL c.K F acc avs → H q = some (.lst avs) → NewL c F H σ ρ q acc →
    (∀ F' H', Rel c F' H' σ ρ → Same F F' → NewL c F' H' σ ρ q (acc ++ zipD xs ys) → Q (.ref q) H') → zipGo q (vs.zip us) avs H Q
  | [], ys, vs, us, acc, avs, F, H, R, rx, ry, ra, hq, n, k => by
    obtain rfl : vs = [] := rx
    exact k F H R (Same.refl F) (by rw [show acc ++ zipD [] ys = acc by simp [zipD]]; exact n)
  | x :: xs, [], vs, us, acc, avs, F, H, R, rx, ry, ra, hq, n, k => by
    obtain rfl : us = [] := ry
    rw [List.zip_nil_right]
    exact k F H R (Same.refl F) (by rw [show acc ++ zipD (x :: xs) [] = acc by simp [zipD]]; exact n)
  | x :: xs, y :: ys, vs, us, acc, avs, F, H, R, rx, ry, ra, hq, n, k => by
    obtain ⟨v, vs, rfl, rv, rx⟩ := rx
    obtain ⟨u, us, rfl, ru, ry⟩ := ry
    intro T hT
    have R1 := R.alloc (p := T) (o := .tup [v, u]) hT trivial
    have sF : Same F (upd F T (.tup [v, u])) := fun _ _ e => old_upd (R.fnone hT) e
    have nTq : q ≠ T := fun z => by rw [z, hT] at hq; exact nomatch hq
    have hq1 : upd H T (.tup [v, u]) q = some (.lst avs) := by rw [upd_ne nTq]; exact hq
    have fq1 : upd F T (.tup [v, u]) q = none := by rw [upd_ne nTq]; exact n.f
    have rT : Rp c.K (upd F T (.tup [v, u])) (.tup [x, y]) (.ref T) := ⟨T, _, rfl, sqT_of upd_same, _, _, rfl, rv.mono sF, _, _, rfl, ru.mono sF, rfl⟩
    have R2 := R1.mutH (ys := avs ++ [.ref T]) hq1 fq1 n.b2 n.o
    have ra2 : RpL c.K (upd F T (.tup [v, u])) (acc ++ [.tup [x, y]]) (avs ++ [.ref T]) := (ra.mono sF).app ⟨_, _, rfl, rT, rfl⟩
    refine zip_rel (acc := acc ++ [.tup [x, y]]) R2 (rx.mono sF) (ry.mono sF) ra2 upd_same ⟨⟨_, upd_same, ra2⟩, fq1, n.n, n.b, n.o⟩ (fun F' H' R' s' n' => k F' H' R' (tr sF s') ?_)
    rw [show acc ++ zipD (x :: xs) (y :: ys) = acc ++ [D.tup [x, y]] ++ zipD xs ys by simp [zipD]]
    exact n'
def qZipN (pa : QA) : QN := fun ρ Q => pa ρ fun rs ρ1 => ∃ xs ys, rdL ρ1 rs = some [.lst xs, .lst ys] ∧ Q (zipD xs ys) ρ1
theorem li_zipN {ta : TA} {pa : QA} (h1 : LiA X ta pa) (hK : X.K = K := by rfl) : LiN X (tLstZip K ta) (qZipN pa) := by
  subst hK
  intro c hX σ F H ρ Q Q3 R hq h
  subst hX
  refine h1 c rfl σ F H ρ _ _ R ?_ h
  rintro rs ρ1 vs F1 H1 R1 s1 rv ⟨xs, ys, e, q⟩
  obtain ⟨v, t, rfl, ⟨a, avs, rfl, ha, ra⟩, t2, t3, rfl, ⟨b, bvs, rfl, hb, rb⟩, et⟩ := rv.rn R1 e
  obtain rfl : t3 = [] := et
  refine ⟨a, b, avs, bvs, rfl, sqL_of ha, sqL_of hb, fun p np => ?_⟩
  obtain ⟨R2, n2⟩ := NewL.made (ds := []) (vs := []) R1 np rfl
  refine zip_rel (acc := []) (avs := []) R2 ra rb rfl upd_same n2 (fun F' H' R' s' n' => ?_)
  exact hq _ ρ1 p F' H' R' (tr s1 s') n' q
theorem w_zipN {ρ : PSt} {pa : QA} {Q : List D → PSt → Prop} (h : pa ρ fun rs ρ1 => ∃ xs ys, rdL ρ1 rs = some [.lst xs, .lst ys] ∧ Q (zipD xs ys) ρ1) : qZipN pa ρ Q := h
end
end L3
/-! An ask that isn't held lets the height rise. -/
namespace L3
open PySem PySem.Spec PyProof.Rows L2 TB LamX
theorem hgt_from (so : List Str) : ∀ (l : List Str) (c : Int), l.foldl (fun a z => 2 * a + (if z ∈ so then 1 else 0)) c = c * 2 ^ l.length + hgt l so
  | [], c => by simp [hgt]
  | z :: l, c => by
    unfold hgt
    rw [List.foldl_cons, List.foldl_cons, hgt_from so l, hgt_from so l (2 * 0 + _), List.length_cons, Int.pow_succ]
    have e : (2 : Int) ^ l.length * 2 = 2 ^ l.length + 2 ^ l.length := by omega
    generalize (2 : Int) ^ l.length = p at e ⊢
    rw [e]
    simp only [Int.mul_zero, Int.zero_add, Int.add_mul, Int.mul_add, Int.two_mul]
    omega
theorem hgt_cons (so : List Str) (z : Str) (l : List Str) : hgt (z :: l) so = (if z ∈ so then 1 else 0) * 2 ^ l.length + hgt l so := by
  have h := hgt_from so l (2 * 0 + (if z ∈ so then 1 else 0))
  unfold hgt at h ⊢
  rw [List.foldl_cons, h]
  simp
theorem hgt_lo (so : List Str) : ∀ l : List Str, 0 ≤ hgt l so ∧ hgt l so < 2 ^ l.length
  | [] => by simp [hgt]
  | z :: l => by
    obtain ⟨h1, h2⟩ := hgt_lo so l
    rw [hgt_cons, List.length_cons, Int.pow_succ]
    split <;> omega
theorem hgt_lt {a b : List Str} {z : Str} (ha : z ∉ a) (hb : z ∈ b) (post : List Str) : ∀ pre : List Str, (∀ y ∈ pre, y ∈ a ↔ y ∈ b) → hgt (pre ++ z :: post) a < hgt (pre ++ z :: post) b
  | [], _ => by
    rw [List.nil_append, hgt_cons, hgt_cons, if_neg ha, if_pos hb]
    have h1 := hgt_lo a post
    have h2 := hgt_lo b post
    omega
  | y :: pre, h => by
    have ih := hgt_lt ha hb post pre (fun x hx => h x (List.mem_cons_of_mem _ hx))
    rw [List.cons_append, hgt_cons, hgt_cons]
    have e : (if y ∈ a then (1 : Int) else 0) = if y ∈ b then 1 else 0 := by
      by_cases c : y ∈ a
      · rw [if_pos c, if_pos ((h y List.mem_cons_self).mp c)]
      · rw [if_neg c, if_neg (fun c2 => c ((h y List.mem_cons_self).mpr c2))]
    rw [e]
    omega
theorem line_rch {ls : List Str} {ps : List Pr} {line : List Str} (L : LineP ls ps line) {z u : Str} (h : Rch ps z u) : ∀ i, line[i]? = some u → z ∈ line.take i := by
  induction h with
  | one m => intro i hi; exact freeB_iff.mp (L.free i _ hi) _ m
  | step _ m ih =>
    intro i hi
    have h1 := freeB_iff.mp (L.free i _ hi) _ m
    obtain ⟨j, hj, e⟩ := List.mem_iff_getElem.mp h1
    rw [List.length_take] at hj
    rw [List.getElem_take] at e
    have h2 := ih j (by rw [List.getElem?_eq_getElem (by omega), e])
    obtain ⟨k, hk, e2⟩ := List.mem_iff_getElem.mp h2
    rw [List.length_take] at hk
    rw [List.getElem_take] at e2
    exact List.mem_iff_getElem.mpr ⟨k, by rw [List.length_take]; omega, by rw [List.getElem_take]; exact e2⟩
theorem StepOk.rise {ws : List Str} {qs : List Pr} {ln a b : List Str} (L : LineP ws qs ln) (ok : OrdOk ws qs) (h : StepOk ws qs a b) : hgt ln a < hgt ln b := by
  obtain ⟨n, z, h1, rfl, h3, h4, h5⟩ := h
  have hz : z ∈ ln := L.pm.mem_iff.mpr h3
  have nd : ln.Nodup := L.pm.nodup_iff.mpr ok.nd
  obtain ⟨pre, post, rfl⟩ := List.append_of_mem hz
  refine hgt_lt h4 (by simp) post pre (fun y hy => ?_)
  rw [List.nodup_append] at nd
  have ny : y ≠ z := fun e => nd.2.2 y hy z List.mem_cons_self e
  rw [List.mem_append, List.mem_singleton]
  constructor
  · intro hya
    rw [← List.take_append_drop n a] at hya
    rcases List.mem_append.mp hya with hya | hya
    · exact Or.inl hya
    · exfalso
      obtain ⟨i, hi, e⟩ := List.mem_iff_getElem.mp hy
      have hm := line_rch L (h5 y hya) i (by rw [List.getElem?_append_left hi, List.getElem?_eq_getElem hi, e])
      rw [List.take_append_of_le_length (Nat.le_of_lt hi)] at hm
      exact nd.2.2 z (List.mem_of_mem_take hm) z List.mem_cons_self rfl
  · rintro (hyt | e)
    · exact List.mem_of_mem_take hyt
    · exact absurd e ny
/-- rising numbers below N are at most N -/
theorem rise_len (N : Int) : ∀ (l : List Int) (c : Int), (∀ x ∈ l, x < N) → (∀ (i : Nat) (x y : Int), (c :: l)[i]? = some x → (c :: l)[i + 1]? = some y → x < y) → c < N → (l.length : Int) < N - c
  | [], c, _, _, h => by simp; omega
  | x :: l, c, h1, h2, h3 => by
    have hx : c < x := h2 0 c x rfl rfl
    have ih := rise_len N l x (fun y hy => h1 y (List.mem_cons_of_mem _ hy)) (fun i y w e1 e2 => h2 (i + 1) y w e1 e2) (h1 x List.mem_cons_self)
    rw [List.length_cons]
    omega
def hgts (ln : List Str) (wk : List (List Str)) : List Int := wk.map (hgt ln)
theorem WalkOk.rises {ws : List Str} {qs : List Pr} {ln : List Str} {wk : List (List Str)} (L : LineP ws qs ln) (ok : OrdOk ws qs) (h : WalkOk ws qs wk) : ∀ (i : Nat) (x y : Int), (hgts ln wk)[i]? = some x → (hgts ln wk)[i + 1]? = some y → x < y := by
  intro i x y e1 e2
  unfold hgts at e1 e2
  rw [List.getElem?_map] at e1 e2
  obtain ⟨a, ha, rfl⟩ := Option.map_eq_some_iff.mp e1
  obtain ⟨b, hb, rfl⟩ := Option.map_eq_some_iff.mp e2
  exact (h.stp i a b ha hb).rise L ok
theorem WalkOk.len {ws : List Str} {qs : List Pr} {ln : List Str} {wk : List (List Str)} (L : LineP ws qs ln) (ok : OrdOk ws qs) (h : WalkOk ws qs wk) : ((wk.length : Nat) : Int) - 1 ≤ 2 ^ ln.length - 1 := by
  have hr := h.rises L ok
  cases wk with
  | nil =>
    have : (0 : Int) < 2 ^ ln.length := Int.pow_pos (by decide)
    simp
    omega
  | cons a wk =>
    have h1 := rise_len (2 ^ ln.length) (hgts ln wk) (hgt ln a) (fun x hx => by
      obtain ⟨b, _, rfl⟩ := List.mem_map.mp hx
      exact (hgt_lo b ln).2) (fun i x y e1 e2 => hr i x y e1 e2) (hgt_lo a ln).2
    have h2 := (hgt_lo a ln).1
    simp only [hgts, List.length_map] at h1
    rw [List.length_cons]
    omega
/-- each two neighbours rise -/
theorem zip_tail_all (l : List Int) (h : ∀ (i : Nat) (x y : Int), l[i]? = some x → l[i + 1]? = some y → x < y) : ∀ p ∈ l.zip (l.drop 1), p.1 < p.2 := by
  rintro ⟨x, y⟩ hp
  obtain ⟨i, hi, e⟩ := List.mem_iff_getElem.mp hp
  rw [List.length_zip, List.length_drop] at hi
  rw [List.getElem_zip, List.getElem_drop] at e
  injection e with e1 e2
  refine h i x y (by rw [List.getElem?_eq_getElem (by omega), e1]) ?_
  rw [List.getElem?_eq_getElem (by omega)]
  congr 1
  rw [← e2]
  congr 1
  omega
def pWalkR : PSp := fun ds Q => ∃ (ln : List Str) (wk : List (List Str)), ds = [.lst (strsD ln), .lst (walkD wk)] ∧ ln.length ≤ 30 ∧ 1 ≤ wk.length ∧ wk.length ≤ 50 ∧ (∀ zs ∈ wk, zs.Nodup ∧ ∀ z ∈ zs, z ∈ ln) ∧
  (∀ p ∈ (hgts ln wk).zip ((hgts ln wk).drop 1), p.1 < p.2) ∧ ((wk.length : Nat) : Int) - 1 ≤ 2 ^ ln.length - 1 ∧ Q (.val (.bl true)) none
theorem zipD_ints (xs ys : List Int) : zipD (xs.map D.int) (ys.map D.int) = (xs.zip ys).map fun p => D.tup [.int p.1, .int p.2] := by
  unfold zipD
  rw [List.zip_map, List.map_map]
  rfl
end L3
/-! Own refusals over any built-in class, with an own __init__. -/
namespace L2
open PySem PySem.Spec PyProof.Rows
/-- what is asked of the class at C, over the built-in class with the row bmB -/
structure OexB (K : PySem.W.Frag) (C : Addr) (bmB : List Value) (newId : String) : Prop where
  ini : PySem.W.excInitIn K C bmB newId = true
  ovr : PySem.W.excOver K C bmB = true
  dct : PySem.W.hasDictIn K C = true
  sa : PySem.W.findIn K (.ref C) "__setattr__" = some (some (.builtin "object.__setattr__"))
  exC : PySem.W.subIn K (.ref C) (.type "BaseException") = some true
  tyC : PySem.W.typeIn K (.ref C) = some (.type "type")
  kC : PySem.W.keepIn K (.ref C) = true
def oexB (K : PySem.W.Frag) (C : Addr) (bmB : List Value) (newId : String) : Bool := PySem.W.excInitIn K C bmB newId && (PySem.W.excOver K C bmB && (PySem.W.hasDictIn K C && (decide (PySem.W.findIn K (.ref C) "__setattr__" = some (some (.builtin "object.__setattr__"))) &&
  (decide (PySem.W.subIn K (.ref C) (.type "BaseException") = some true) && (decide (PySem.W.typeIn K (.ref C) = some (.type "type")) && PySem.W.keepIn K (.ref C))))))
theorem oexB_ok {K : PySem.W.Frag} {C : Addr} {bmB : List Value} {newId : String} (h : oexB K C bmB newId = true) : OexB K C bmB newId := by
  unfold oexB at h
  simp only [Bool.and_eq_true, decide_eq_true_eq] at h
  exact ⟨h.1, h.2.1, h.2.2.1, h.2.2.2.1, h.2.2.2.2.1, h.2.2.2.2.2.1, h.2.2.2.2.2.2⟩
section
open PySem.W
variable {prog : Program} {w : World} {A : Around} {R : Result → Shared → Prop} {hp : Heap} {g : Array GenState} {d : Drawn} {t : Nat} {os : OsState} {K : Frag} {bmB : List Value} {B : String} {x C tA : Addr} {name : Str} {tk : Tok} {v : Value}
theorem taker0 (h : findIn K (.ref C) name = some none) : takerIn K C name = some none := by
  unfold takerIn
  rw [h]
  rfl
/-- self.name = v, the first field -/
theorem osa_first (SF : StoreFacts B bmB "object.__setattr__" "object") (X : K.In hp) (hx : hp.get? x = some (excObj C tA none .none)) (ho : excOver K C bmB = true) (hd : hasDictIn K C = true) (hn : findIn K (.ref C) name = some none)
    (hq : ∀ h' tk' dx, (∀ b o, b ≠ x → hp.get? b = some o → h'.get? b = some o) → hp.objs.size ≤ dx → dx ≠ x → h'.get? x = some (excObj C tA (some dx) .none) → h'.Ns1 dx (fun y => if y = name then some v else none) → R (.ok (.ret .none)) ⟨h', g, d, tk', os⟩) :
    codeAny (model prog w) A (.call (.builtin "object.__setattr__") ⟨[.ref x, .str name tk, v], []⟩) R ⟨hp, g, d, t, os⟩ := by
  refine osa_openX (od := none) SF X ⟨hx, rfl, rfl, trivial⟩ ho (taker0 hn) fun b => ?_
  obtain ⟨cd, hc, hd'⟩ := any_some hd
  have xs : x ≠ hp.objs.size := Nat.ne_of_lt (Heap.lt_size hx)
  refine wpAny_bind (wpAny_pure (wpAny_bind (instanceDict_exc (s := ⟨hp, g, d, t, os⟩) hx (looks_clsIn X hc) hd' ?_)))
  refine PySem.HandSPX.store_in_new ?_ fun h' tk' hn' hs => ?_
  · exact ⟨_, #[], _, (Heap.get?_update_ne _ _ _ _ xs.symm).trans (Heap.get?_push_at rfl rfl), rfl, fun e he => absurd he (by simp), fun _ => rfl⟩
  · refine hq h' tk' hp.objs.size (fun b o hb e => ?_) (Nat.le_refl _) xs.symm ?_ hn'
    · exact (hs.2 b (Nat.ne_of_lt (Heap.lt_size e))).trans ((Heap.get?_update_ne _ _ _ _ hb).trans (Heap.get?_push_of_some _ e))
    · exact (hs.2 x xs).trans (Heap.get?_update_self _ (Heap.get?_push_of_some _ hx) rfl)
/-- .. a further one -/
theorem osa_more {dx : Addr} {m0 : Str → Option Value} {nl : List Str} (SF : StoreFacts B bmB "object.__setattr__" "object") (X : K.In hp) (hx : hp.get? x = some (excObj C tA (some dx) .none)) (hns : hp.Ns1 dx m0) (hw : Within m0 nl) (hz : nl.length ≤ 1000) (ho : excOver K C bmB = true) (hd : hasDictIn K C = true) (hn : findIn K (.ref C) name = some none)
    (hq : ∀ h' tk', (∀ b o, b ≠ dx → hp.get? b = some o → h'.get? b = some o) → h'.Ns1 dx (fun y => if y = name then some v else m0 y) → R (.ok (.ret .none)) ⟨h', g, d, tk', os⟩) :
    codeAny (model prog w) A (.call (.builtin "object.__setattr__") ⟨[.ref x, .str name tk, v], []⟩) R ⟨hp, g, d, t, os⟩ := by
  obtain ⟨oD, _, _, hoD, _, _⟩ := hns.count hw
  refine osa_openX (od := some oD) SF X ⟨hx, rfl, rfl, hoD⟩ ho (taker0 hn) fun b => ?_
  obtain ⟨cd, hc, hd'⟩ := any_some hd
  refine wpAny_bind (wpAny_pure (wpAny_bind (wpAny_bind (wpAny_loadPart hx (wpAny_bind ((looks_clsIn X hc).here ?_))))))
  rw [hd']
  refine wpAny_pure (a := some dx) ?_
  exact PySem.OEX.store_in_old hns hw hz fun h' tk' hn' hs => hq h' tk' (fun b o hb e => (hs.2 b hb).trans e) hn'
end
section
variable {X : Cx} {pins : List (Addr × Obj)} {σ : St} {H : Hp} {s : Shared} {a C dx : Addr} {f : Str} {y : V} {u : Value} {fs : List (Str × V)} {Q : Unit → Shared → Prop} {E : Value → Shared → Prop} {A : Around} {bmB : List Value} {B newId : String}
/-- an exception gets its dict -/
theorem Inv.gotDict {h' : Heap} {t' : Nat} {tA : Addr} {mA : Str → Option Value} (I : Inv X pins σ H s) (e : H a = some (exo a C none)) (k : ∀ b o, b ≠ a → s.heap.get? b = some o → h'.get? b = some o) (dn : s.heap.objs.size ≤ dx) (dne : dx ≠ a)
    (hx : h'.get? a = some (PySem.W.excObj C tA (some dx) .none)) (hn : h'.Ns1 dx mA) (r : ∀ g, RelO (fs.lookup g) (mA g)) : Inv X pins σ (upd (upd H dx (exd dx fs)) a (exo a C (some dx))) { s with heap := h', toks := t' } := by
  obtain ⟨t0, ho⟩ := exo_at I.hok e
  have h1 := Heap.get?_update_self (fun _ => (PySem.W.excObj C t0 none .none : Obj)) hx rfl
  have k1 : ∀ b o, b ≠ a → h'.get? b = some o → (h'.update a fun _ => (PySem.W.excObj C t0 none .none : Obj)).get? b = some o := fun b o hb q => (Heap.get?_update_ne _ _ _ _ hb).trans q
  have I1 : Inv X pins σ (upd H dx (exd dx fs)) { s with heap := h'.update a fun _ => (PySem.W.excObj C t0 none .none : Obj), toks := t' } := by
    refine I.laid (fun b o q => ?_) dn (exd_ok (mA := mA) (hn.at fun o q => k1 dx o dne q) r)
    by_cases hb : b = a
    · rw [hb] at q ⊢
      rw [h1, ← ho]
      exact q
    · exact k1 b o hb (k b o hb q)
  refine I1.write (x := a) (e := a) (by rw [upd_ne (Ne.symm dne), e]; exact True.intro) (.inl rfl) (fun b o hb q => ?_) ⟨_, hx⟩ (exo_ok hx)
  have q2 : (h'.update a fun _ => (PySem.W.excObj C t0 none .none : Obj)).get? b = some o := q
  rw [Heap.get?_update_ne _ _ _ _ hb] at q2
  exact q2
theorem oset_new (SF : PySem.StoreFacts B bmB "object.__setattr__" "object") (T : OexB X.K C bmB newId) (I : Inv X pins σ H s) (e : H a = some (exo a C none)) (hno : PySem.W.findIn X.K (.ref C) f = some none) (ry : RelV y u)
    (h : ∀ dx s', H dx = none → dx ≠ a → Inv X pins σ (upd (upd H dx (exd dx [(f, y)])) a (exo a C (some dx))) s' → Q () s') : wpAny (model X.prog X.w) A (setAttr (.ref a) f u) Q E s := by
  obtain ⟨t1, ho⟩ := exo_at I.hok e
  obtain ⟨hp, g, d, t, os⟩ := s
  refine PySem.W.set_plain I.kIn (ox := PySem.W.excObj C t1 none .none) (od := none) ⟨ho, rfl, rfl, trivial⟩ T.sa ?_
  refine osa_first SF I.kIn ho T.ovr T.dct hno (fun h' tk' dx k dn dne hx hn => ?_)
  exact h dx _ (I.hok.fresh dn) dne (I.gotDict (t' := tk') (fs := [(f, y)]) e k dn dne hx hn (relO_put (fs := []) ry fun g => True.intro))
theorem oset_old (SF : PySem.StoreFacts B bmB "object.__setattr__" "object") (T : OexB X.K C bmB newId) (I : Inv X pins σ H s) (e : H a = some (exo a C (some dx))) (ed : H dx = some (exd dx fs)) (hl : fs.length ≤ 900) (hno : PySem.W.findIn X.K (.ref C) f = some none) (ry : RelV y u)
    (h : ∀ s', Inv X pins σ (upd H dx (exd dx ((f, y) :: fs))) s' → Q () s') : wpAny (model X.prog X.w) A (setAttr (.ref a) f u) Q E s := by
  obtain ⟨t1, ho⟩ := exo_at I.hok e
  obtain ⟨mA, hns, rel⟩ := exd_at I.hok ed
  have hw := within_of rel
  obtain ⟨hp, g, d, t, os⟩ := s
  obtain ⟨oD, _, _, hoD, _, _⟩ := hns.count hw
  refine PySem.W.set_plain I.kIn (ox := PySem.W.excObj C t1 (some dx) .none) (od := some oD) ⟨ho, rfl, rfl, hoD⟩ T.sa ?_
  refine osa_more SF I.kIn ho hns hw (by rw [List.length_map]; omega) T.ovr T.dct hno (fun h' tk' k hn => ?_)
  have hd : ∃ o, h'.get? dx = some o := let ⟨o, _, _, e', _⟩ := hn; ⟨o, e'⟩
  exact h _ (I.write (t' := tk') (x := dx) (e := dx) (o := exd dx ((f, y) :: fs)) (by rw [ed]; exact True.intro) (.inl rfl) k hd (exd_ok hn (relO_put ry rel)))
/-- the built-in's own __init__ -/
theorem oinitB {initId : String} {us : List Value} {Q : Value → Shared → Prop} (FB : PySem.ExcBaseFacts B newId initId bmB) (T : OexB X.K C bmB newId) (I : Inv X pins σ H s) (e : H a = some (exo a C none)) (hl : us.length ≤ sizeLine) (h : ∀ s', Inv X pins σ H s' → Q .none s') :
    wpAny (model X.prog X.w) A (call (.builtin initId) (.ref a :: us)) Q E s := by
  obtain ⟨nm, N, q, bs, bm, hdct, sn, sub, ab, col, dd, k0, k1, k2, k3, k5, hC, hT⟩ := PySem.W.excInit_of I.kIn T.ini
  obtain ⟨t1, ho⟩ := exo_at I.hok e
  obtain ⟨hp, g, d, t, os⟩ := s
  refine wpAny_call (PySem.HandSPX.init_base FB hT hC ho hl fun h' t2 k hx => ?_)
  have J := I.write (t' := t) (x := a) (e := a) (o := exo a C none) (by rw [e]; exact True.intro) (.inl rfl) k ⟨_, hx⟩ (exo_ok hx)
  rw [show upd H a (exo a C none) = H by
    funext b
    by_cases hb : b = a
    · rw [hb, upd_same, e]
    · rw [upd_ne hb]] at J
  exact h _ J
end
/-- Base.__init__(self, ..) -/
def tBI (K : PySem.W.Frag) (bmB : List Value) (newId : String) (ta : TA) : TE := fun σ H Q => ta σ H fun vs H1 => ∃ (a C : Addr) (ws : List V), vs = .ref a :: ws ∧ ws.length ≤ 1000 ∧ OexB K C bmB newId ∧ H1 a = some (exo a C none) ∧ Q .non H1
/-- self.f = e -/
def tOs (K : PySem.W.Frag) (bmB : List Value) (newId : String) (f : Str) (to te : TE) : TS := fun D σ H => te σ H fun y H1 => to σ H1 fun x H2 => ∃ a C : Addr, x = .ref a ∧ OexB K C bmB newId ∧ PySem.W.findIn K (.ref C) f = some none ∧
  ((H2 a = some (exo a C none) ∧ ∀ dx, H2 dx = none → dx ≠ a → D.nx σ (upd (upd H2 dx (exd dx [(f, y)])) a (exo a C (some dx)))) ∨
    ∃ (dx : Addr) (fs : List (Str × V)), H2 a = some (exo a C (some dx)) ∧ H2 dx = some (exd dx fs) ∧ fs.length ≤ 900 ∧ D.nx σ (upd H2 dx (exd dx ((f, y) :: fs))))
section
variable {X : Cx} {o e : Expr} {es : List Expr} {to te : TE} {ta : TA} {f : Str} {p p' p1 p2 pos : Pos} {bmB : List Value} {B newId initId : String}
theorem pe_binit {Bn : Str} {pl : Sem Bool} (FB : PySem.ExcBaseFacts B newId initId bmB) (hg : Gl X Bn) (hm : X.mg Bn = none) (hb : bootBuiltins Bn = some (.type B)) (ht : typeOf (.type B) = pure (.type "type")) (hsb : Manifest.isStub B = false)
    (vV : PySem.W.findCls X.K (.type B) (.type "type") "__init__" = some (.val (.builtin initId))) (hh : PySem.W.handedIn (.builtin initId) = true) (ha : PA X (e :: es) ta)
    (hc : eval (.Call (.Attribute (.Name Bn p1) "__init__" p2) (e :: es) [] pos) X.env = (do
      let ov ← eval (.Name Bn p1) X.env
      standAt p2.atName
      let (f, first) ← holding [ov] (getMethod ov "__init__" pl)
      callWith pos f first (backTo pos (starEach (e :: es) X.env)) (backToKw pos (keywordEach [] X.env))) := by rfl)
    (hn : Bn ≠ "__name__" := by decide) (hdb : (Bn == ("__debug__" : Str)) = false := by decide)
    (he : starEach (e :: es) X.env = (false, eval e X.env) :: starEach es X.env := by rfl) (hpl : (backTo pos (starEach es X.env)).any (·.1) = false := by rfl) :
    PE X (.Call (.Attribute (.Name Bn p1) "__init__" p2) (e :: es) [] pos) (tBI X.K bmB newId ta) := by
  refine ⟨fun pins s σ H Q I h => ?_⟩
  refine PySem.W.methodCall_KW (ld_blt I hg hm hb ?_ hn hdb) hc
  obtain ⟨m, fr⟩ := I.fr
  refine PySem.W.method_type fr I.ok.mod.kin ht hsb vV hh ?_
  refine PyProof.Rows.callWith_method1 (thn (ha.run pos pins _ σ H _ (I.tok _) h) fun us s1 ⟨vs, H1, I1, r1, a, C, ws, ev, hl, T, ea, q⟩ => ?_) he hpl
  subst ev
  cases r1 with
  | @cons _ u0 _ ur ra rw' =>
    obtain rfl : u0 = Value.ref a := ra
    exact oinitB FB T I1 ea (by rw [← Paired.length rw', sizeLine_eq]; omega) fun s' J => ⟨.non, H1, J, rfl, q⟩
theorem ps_oset (SF : PySem.StoreFacts B bmB "object.__setattr__" "object") (ho : PE X o to) (he : PE X e te) (hs : swapsWith e (some (.Attribute o f p')) pos.line X.env = pure false := by rfl) : PS X (.Assign [.Attribute o f p'] e pos) (tOs X.K bmB newId f to te) := by
  refine ⟨fun pins s σ H D I h => ?_⟩
  refine plainObj_wpAny_Assign_Attribute (thn (he.run pins s σ H _ I h) fun v s1 ⟨y, H1, I1, r1, q1⟩ => thn (ho.run pins s1 σ H1 _ I1 q1) fun u s2 ⟨x, H2, I2, r2, a, C, ex, T, hno, q⟩ => ?_) hs
  subst ex
  obtain rfl : u = Value.ref a := r2
  rcases q with ⟨ea, q⟩ | ⟨dx, fs, ea, ed, hl, q⟩
  · exact oset_new SF T I2 ea hno r1 fun dx s' n ne J => ⟨σ, _, J, q dx n ne⟩
  · exact oset_old SF T I2 ea ed hl hno r1 fun s' J => ⟨σ, _, J, q⟩
theorem pmk_oexB {CX : CXT} {x : Str} {C fI : Addr} {k : Nat} {fd : FuncData} {ps : List Str} {sp : Sp} {ds : List Value} {dvs : List V} (FB : PySem.ExcBaseFacts B newId initId bmB) (T : OexB X.K C bmB newId) (iC : PySem.W.findIn X.K (.ref C) "__init__" = some (some (.ref fI))) (tI : PySem.W.typeIn X.K (.ref fI) = some (.type "function"))
    (F1 : FnOk X.prog X.w X.K X.mg X.base CX k fI fd ps sp) (hr : Room (k + 1) X.A) (hb : Binds X.K fd ps ds) (hd : Vals dvs ds) (hx : Passes CX X (fun _ _ _ => False)) (hg : Gl X x) (hm : X.mg x = some (.ref C)) (ha : PA X (e :: es) ta)
    (hdb : (x == ("__debug__" : Str)) = false := by decide) (he : starEach (e :: es) X.env = (false, eval e X.env) :: starEach es X.env := by rfl) (hpl : (backTo pos (starEach es X.env)).any (·.1) = false := by rfl) :
    PMk X (.Call (.Name x p) (e :: es) [] pos) (tMkO C sp dvs ta) := by
  intro pins s σ H Q I h
  refine wpAny_Call_Name_kw (ld_glob I hg hm ?_ hdb)
  refine PySem.W.callWith_K (h₀ := X.base) I.ok.mod.kin T.kC (thn (ha.run pos pins s σ H _ I h) fun us s1 ⟨vs, H1, I1, r1, hz, q1⟩ => ⟨I1.kIn, ?_⟩) he hpl
  obtain ⟨nm, N, q, bs, bm, hdct, sn, sub, ab, col, dd, k0, k1, k2, k3, k5, hC, hT⟩ := PySem.W.excInit_of I1.kIn T.ini
  obtain ⟨hp, g, dr, tk, os⟩ := s1
  have sz : hp.objs.size ≤ hp.objs.size + 1 := Nat.le_succ _
  have hq := q1 (hp.objs.size + 1) (I1.hok.fresh sz)
  have kk : ∀ b o, hp.get? b = some o → ((hp.push (PySem.W.kdv_tup us)).push (PySem.HandSPX.excO C hp.objs.size)).get? b = some o := fun b o e => Heap.get?_push_of_some _ (Heap.get?_push_of_some _ e)
  have hget : ((hp.push (PySem.W.kdv_tup us)).push (PySem.HandSPX.excO C hp.objs.size)).get? (hp.objs.size + 1) = some (PySem.HandSPX.excO C hp.objs.size) := by heap_get
  have I2 := I1.laid (t' := tk) (a := hp.objs.size + 1) (o := exo (hp.objs.size + 1) C none) kk sz (exo_ok hget)
  have r2 : Vals (V.ref (hp.objs.size + 1) :: (vs ++ dvs)) (Value.ref (hp.objs.size + 1) :: (us ++ ds)) := .cons rfl (r1.append hd)
  have hl : (Value.ref (hp.objs.size + 1) :: us ++ ds).length = ps.length := (r2.length.symm.trans (F1.len _ _ _ _ hq))
  have hus : us.length ≤ sizeLine := by rw [← Paired.length r1, sizeLine_eq]; omega
  refine wpAny_call (PySem.HandSPX.call_own FB hT hC (PySem.W.looks_findIn I1.kIn iC) (fun self => PySem.W.bind_fn I1.kIn self tI) hus ?_)
  refine codeAny_mono (F1.run _ X.stack _ _ ⟨Value.ref (hp.objs.size + 1) :: us, []⟩ (Value.ref (hp.objs.size + 1) :: (us ++ ds)) _ _ (fun _ _ _ => False) (hr.make C us []) (I2.env0.make C us []) (hb _ (Value.ref (hp.objs.size + 1) :: us) I2.kIn hl) r2 hq) fun r s' z => ?_
  match r, z with
  | .error er, z => exact hx pins σ _ _ er s' I2 z
  | .ok (.ret u), ⟨v, H2, os2, bare2, un2, hok2, rv, ev, d, fs, ea, ed, hd1, q2⟩ =>
    subst ev
    obtain ⟨h2, g2, d2, t2, os'⟩ := s'
    exact ⟨rv, mk_end (raises_own T.exC T.tyC) I1 sz kk un2 hok2 os2 bare2 ea ed hd1 q2⟩
  | .ok .next, z => exact False.elim z
  | .ok .brk, z => exact False.elim z
  | .ok .cont, z => exact False.elim z
end
theorem typ_AE : typeOf (.type "ArithmeticError") = pure (.type "type") := by kernel_rfl
theorem typ_LE : typeOf (.type "LookupError") = pure (.type "type") := by kernel_rfl
end L2
/-! Methods that refuse; refusals made. -/
namespace L2
open PySem PySem.Spec PyProof.Rows
theorem init_AE (K : PySem.W.Frag) : PySem.W.findCls K (.type "ArithmeticError") (.type "type") "__init__" = some (.val (.builtin "ArithmeticError.__init__")) := by kernel_rfl
theorem init_LE (K : PySem.W.Frag) : PySem.W.findCls K (.type "LookupError") (.type "type") "__init__" = some (.val (.builtin "LookupError.__init__")) := by kernel_rfl
/-- a method that may refuse -/
structure MetX (P : Program) (w : World) (K : PySem.W.Frag) (mg : Str → Option Value) (base : Heap) (k : Nat) (C : Addr) (m : Str) (sp : Sp) : Prop where
  ex : ∃ (f : Addr) (fd : FuncData) (ps : List Str), Cls K C ∧ Meth K C m f ∧ FnOk P w K mg base (L2.CX P w) k f fd ps sp ∧ Binds K fd ps []
section
variable {X : Cx} {k j : Nat} {C : Addr} {sp : Sp} {E : XK} {m : Str} {pos apos : Pos} {e o : Expr} {es : List Expr} {ta : TE} {t : TA} {W : WX}
theorem pe_mtX {pl : Sem Bool} (c : MetX X.prog X.w X.K X.mg X.base k C m sp) (hr : Room j X.A) (hk : k ≤ j) (tk : Takes X W) (hW : ∀ cls d σ H, E cls d H → W cls d σ H) (he : PE X o ta) (ha : PA X (e :: es) t)
    (hst : starEach (e :: es) X.env = (false, eval e X.env) :: starEach es X.env := by rfl) (hpl : (backTo pos (starEach es X.env)).any (·.1) = false := by rfl)
    (ht : eval (.Call (.Attribute o m apos) (e :: es) [] pos) X.env = (do
      let ov ← eval o X.env
      standAt apos.atName
      let (f, first) ← holding [ov] (getMethod ov m pl)
      callWith pos f first (backTo pos (starEach (e :: es) X.env)) (backToKw pos (keywordEach [] X.env))) := by rfl) :
    PE X (.Call (.Attribute o m apos) (e :: es) [] pos) (tMeth C m sp [] E ta t) := by
  obtain ⟨f, fd, ps, c1, c2, F, b⟩ := c.ex
  exact pe_meth (pl := pl) he c1 c2 F (hr.mono hk) b .nil (passes_call tk hW) ha hst hpl ht
/-- .. by the state -/
def tMetE (C : Addr) (m : Str) (sp : Sp) (E : St → XK) (ta : TE) (t : TA) : TE := fun σ H Q => ta σ H fun x H1 => ∃ a dx fs, x = .ref a ∧ H1 a = some (.ins C dx fs) ∧ fs.lookup m = none ∧ t σ H1 fun vs H2 => sp (.ref a :: vs) H2 Q (E σ)
theorem pe_mtS {pl : Sem Bool} (c : MetX X.prog X.w X.K X.mg X.base k C m sp) (hr : Room j X.A) (hk : k ≤ j) (tk : Takes X W) (he : PE X o ta) (ha : PA X (e :: es) t)
    (hst : starEach (e :: es) X.env = (false, eval e X.env) :: starEach es X.env := by rfl) (hpl : (backTo pos (starEach es X.env)).any (·.1) = false := by rfl)
    (ht : eval (.Call (.Attribute o m apos) (e :: es) [] pos) X.env = (do
      let ov ← eval o X.env
      standAt apos.atName
      let (f, first) ← holding [ov] (getMethod ov m pl)
      callWith pos f first (backTo pos (starEach (e :: es) X.env)) (backToKw pos (keywordEach [] X.env))) := by rfl) :
    PE X (.Call (.Attribute o m apos) (e :: es) [] pos) (tMetE C m sp (WE W) ta t) := by
  obtain ⟨f, fd, ps, c1, hm, F, b⟩ := c.ex
  refine ⟨fun pins s σ H Q I h => ?_⟩
  refine PySem.W.methodCall_KW (pl := pl) (thn (he.run pins s σ H _ I h) fun u s1 ⟨x, H1, I1, rx, a, dx, fs, ex, ea, l, q⟩ => ?_) ht
  subst ex
  obtain rfl : u = Value.ref a := rx
  refine getmeth_ok I1 ea c1 hm l ?_
  refine PySem.W.callWith_K (first := [.ref a]) (h₀ := X.base) I.ok.mod.kin hm.kp (thn (ha.run pos pins s1 σ H1 _ I1 q) fun us s2 ⟨vs, H2, I2, r, q2⟩ => ⟨I2.kIn, ?_⟩) hst hpl
  exact run_fnS (us := .ref a :: us) (vs := .ref a :: vs) F (hr.mono hk) b (passAt tk σ) I2 (.cons rfl r) q2
end
/-- an own refusal that can be made -/
structure MakE (P : Program) (w : World) (K : PySem.W.Frag) (mg : Str → Option Value) (base : Heap) (k : Nat) (x : Str) (C : Addr) (sp : Sp) (bmB : List Value) (newId : String) : Prop where
  ex : ∃ (fI : Addr) (fd : FuncData) (ps : List Str), OexB K C bmB newId ∧ PySem.W.findIn K (.ref C) "__init__" = some (some (.ref fI)) ∧ PySem.W.typeIn K (.ref fI) = some (.type "function") ∧ FnOk P w K mg base CX0 k fI fd ps sp ∧ Binds K fd ps [] ∧ mg x = some (.ref C)
theorem pmk_e {X : Cx} {k j : Nat} {C : Addr} {sp : Sp} {x : Str} {p pos : Pos} {e : Expr} {es : List Expr} {ta : TA} {bmB : List Value} {B newId initId : String} (FB : PySem.ExcBaseFacts B newId initId bmB) (c : MakE X.prog X.w X.K X.mg X.base k x C sp bmB newId) (hr : Room j X.A) (hk : k + 1 ≤ j) (hg : Gl X x) (ha : PA X (e :: es) ta)
    (hdb : (x == ("__debug__" : Str)) = false := by decide) (he : starEach (e :: es) X.env = (false, eval e X.env) :: starEach es X.env := by rfl) (hpl : (backTo pos (starEach es X.env)).any (·.1) = false := by rfl) :
    PMk X (.Call (.Name x p) (e :: es) [] pos) (tMkO C sp [] ta) := by
  obtain ⟨fI, fd, ps, T, iC, tI, F, b, hm⟩ := c.ex
  exact pmk_oexB FB T iC tI F (hr.mono hk) b .nil pass0 hg hm ha hdb he hpl
/-- what is left when an exception's object is let go -/
theorem del_made {H : Hp} {a d : Addr} {C : Addr} {u v : HO} {o : HO} (ha : H a = none) (hne : d ≠ a) : upd (del (upd (upd H d u) a v) a) d o = upd H d o := by
  funext b
  by_cases e : b = d
  · rw [e, upd_same, upd_same]
  · rw [upd_ne e, upd_ne e]
    by_cases e2 : b = a
    · rw [e2, del_same, ha]
    · rw [del_ne e2, upd_ne e2, upd_ne e]
end L2
/-! len of an own object; reversed(range(n)). -/
namespace L2
open PySem PySem.Spec PyProof.Rows
/-- a class with an own __len__ that tells a number -/
structure LenOwn (P : Program) (w : World) (K : PySem.W.Frag) (mg : Str → Option Value) (base : Heap) (k : Nat) (C : Addr) (sp : Sp) : Prop where
  ex : ∃ (f : Addr) (fd : FuncData) (ps : List Str), PySem.W.findIn K (.ref C) "__len__" = some (some (.ref f)) ∧ PySem.W.isFn K (.ref f) = true ∧ FnOk P w K mg base C8.CX0 k f fd ps sp ∧ Binds K fd ps []
  ok : ∀ vs H Q E, sp vs H Q E → sp vs H (fun v H' => (∃ n : Int, v = .int n ∧ 0 ≤ n ∧ n < 2 ^ 62) ∧ Q v H') E
theorem call_one {X : Cx} {pins : List (Addr × Obj)} {σ : St} {H : Hp} {s : Shared} {A : Around} {CX : CXT} {n : Nat} {f : Addr} {fd : FuncData} {ps : List Str} {sp : Sp} {Ex : XK} {x : V} {u : Value} {Q : VK} (F : FnOk X.prog X.w X.K X.mg X.base CX n f fd ps sp) (hb : Binds X.K fd ps []) (hx : Passes CX X Ex) (sb : Sub X n A) (I : Inv X pins σ H s) (rx : RelV x u)
    (h : sp [x] H Q Ex) : wpAny (model X.prog X.w) A (call (.ref f) [u]) (fun r s' => ∃ z H', Inv X pins σ H' s' ∧ RelV z r ∧ Q z H') X.xe s := by
  have e0 : Env0 X.prog X.w X.K X.mg X.base A X.stack s H := by
    have e := I.env0
    exact ⟨by rw [sb.fr]; exact e.frames, e.mod, e.bs, e.bsz, e.funs, e.frf, e.hok, e.bare⟩
  have hl := F.len _ _ _ _ h
  refine wpAny_call (codeAny_mono (F.run A X.stack s H ⟨[u], []⟩ [u] [x] _ Ex sb.room e0 (by
    have := hb s [u] I.kIn (by simpa using hl)
    simpa using this) (.cons rx .nil) h) fun r s' hq => ?_)
  cases r with
  | error e => exact hx pins σ H s e s' I hq
  | ok fl =>
    cases fl with
    | ret w =>
      obtain ⟨z, H', I', rz, q⟩ := I.after hq
      exact ⟨z, H', I', rz, q⟩
    | next => exact False.elim hq
    | brk => exact False.elim hq
    | cont => exact False.elim hq
section
variable {X : Cx} {k j : Nat} {C : Addr} {sp : Sp} {o : Expr} {te : TE} {p pos : Pos}
/-- len(o), o an own object -/
theorem pe_lenO (c : LenOwn X.prog X.w X.K X.mg X.base k C sp) (hr : Room j X.A) (hk : k + 1 ≤ j) (hg : Gl X "len") (hm : X.mg "len" = none) (he : PE X o te) (na : starEach [o] X.env = (false, eval o X.env) :: starEach [] X.env := by rfl) :
    PE X (.Call (.Name "len" p) [o] [] pos) (tMeth C "__len__" sp [] C8.E0 te tNil) := by
  refine ⟨fun pins s σ H Q I h => ?_⟩
  obtain ⟨f, fd, ps, hs, hf, F, hb⟩ := c.ex
  refine wpAny_Call_Name_kw (ld_blt I hg hm PySem.boot_len ?_)
  refine PyProof.Rows.callWith_builtin1 (one_arg he I h (fun v s1 x H1 I1 r q => ?_) na) na
  obtain ⟨a, dx, fs, rfl, ha, _, q⟩ := q
  cases (show v = Value.ref a from r)
  obtain ⟨mA, J, _⟩ := ins_get I1.hok ha
  obtain ⟨od, J, _⟩ := J.look
  obtain ⟨m, hF⟩ := I1.fr
  have sb : Sub X k X.A.in1 := Sub.in1 ⟨hr.mono hk, rfl⟩
  refine PySem.W.len_K hF I1.ok.mod.kin J hs hf (wpAny_mono (call_one F hb C8.pass0 sb I1 (x := .ref a) rfl (c.ok _ _ _ _ q)) (fun r s' z => ?_) fun _ _ e => e)
  obtain ⟨z, H', I', rz, ⟨n, rfl, h0, h1⟩, q'⟩ := z
  obtain ⟨t, rfl⟩ := rz
  exact ⟨⟨h0, by omega⟩, .int n, H', I'.tok _, ⟨_, rfl⟩, q'⟩
end
end L2
namespace L3
open PySem PySem.Spec PyProof.Rows L2 TB LamX
section
variable {X : Sx}
theorem wd_rangeC {lo c0 : Int} {n : Nat} {F : Hp} : Wd X (Itc lo c0 n) F ((List.range n).map fun (i : Nat) => D.int (lo + (i : Int) * c0)) := by
  intro i c' σ ρ F1 H1 hX s R
  refine ⟨fun d e => ?_, fun e => ?_⟩
  · have hl := (List.getElem?_eq_some_iff.mp e).1
    rw [List.length_map, List.length_range] at hl
    rw [List.getElem?_map, List.getElem?_range hl] at e
    obtain rfl := Option.some.inj e
    refine ⟨hl, ?_⟩
    rintro x H' ⟨rfl, rfl⟩
    exact ⟨Same.refl _, F1, R, Same.refl _, rfl⟩
  · have := List.getElem?_eq_none_iff.mp e
    rw [List.length_map, List.length_range] at this
    exact this
def iqRevR (pe : QE) : QI := fun ρ Q => pe ρ fun r ρ1 => ∃ n : Nat, r = .val (.int (n : Int)) ∧ n ≤ 1000 ∧ Q ((List.range n).map fun (i : Nat) => D.int ((n : Int) - 1 - i)) ρ1
theorem lii_revR {te : TE} {pe : QE} (h1 : LiE X te pe) : LiI X (iRevR (tRg1 te)) (iqRevR pe) := by
  intro c hX σ F H ρ R Q3 Re hq hp
  refine h1 c hX σ F H ρ _ _ Re ?_ hp
  rintro r ρ' v F' H' R' s rv ⟨n, rfl, hn, q⟩
  obtain rfl : v = .int (n : Int) := rv
  refine ⟨(n : Int), rfl, by decide, by decide, by omega, by omega, ?_⟩
  have e1 : ((n : Int) - 0).toNat = n := by omega
  rw [e1]
  refine hq _ ρ' _ F' H' R' s wd_rangeC ?_
  have e2 : (fun (i : Nat) => D.int (0 + (n : Int) - 1 + (i : Int) * -1)) = fun (i : Nat) => D.int ((n : Int) - 1 - i) := by
    funext i
    congr 1
    omega
  rw [e2]
  exact q
theorem w_revR {ρ : PSt} {pe : QE} {Q : List D → PSt → Prop} (h : pe ρ fun r ρ1 => ∃ n : Nat, r = .val (.int (n : Int)) ∧ n ≤ 1000 ∧ Q ((List.range n).map fun (i : Nat) => D.int ((n : Int) - 1 - i)) ρ1) : iqRevR pe ρ Q := h
/-! ### sorted(ints) -/
def oSortI : OLN := fun ds Q => ∃ ns : List Int, ds = [.lst (ns.map D.int)] ∧ ∀ ns' : List Int, ns'.Perm ns → ns'.Pairwise (· ≤ ·) → Q (ns'.map D.int)
theorem lc_sortI {K : PySem.W.Frag} (hK : X.K = K := by rfl) : LiCN X (rSortedI K) oSortI := by
  subst hK
  intro c hX σ F H ρ xs dxs Q Q3 R rx hq h
  subst hX
  obtain ⟨ns, rfl, h⟩ := h
  obtain ⟨v, t, rfl, ⟨a, vs, rfl, ha, ra⟩, et⟩ := rx
  obtain rfl : t = [] := et
  obtain rfl := ra.ints
  refine ⟨a, ns, rfl, sqL_of ha, fun ns' p pm sr np => ?_⟩
  have rr : RpL c.K F (ns'.map D.int) (ns'.map V.int) := RpL.map (f := D.int) (g := V.int) (fun i => rfl) ns'
  obtain ⟨R2, n2⟩ := NewL.made R np rr
  exact hq _ p F _ R2 (Same.refl F) n2 (h ns' pm sr)
/-! ### x is not None, x an order or plain -/
def oNotO : O2 := fun dx dy Q => oIsN true dx dy Q ∨ (dy = .non ∧ (∃ C ls ps, dx = ordD C ls ps) ∧ Q (.bl true))
theorem lr_notO : LiR X (fun x y H Q => y = .non ∧ Q (.bl (!decide (x = .non))) H) oNotO := by
  intro c hX σ F H ρ x y dx dy Q Q3 R rx ry hq h
  rcases h with h | ⟨rfl, ⟨C, ls, ps, rfl⟩, h⟩
  · exact lr_notN c hX σ F H ρ x y dx dy Q Q3 R rx ry hq h
  · obtain rfl : y = .non := ry
    obtain ⟨a, rfl, _⟩ := rx
    exact ⟨rfl, hq (.bl true) _ F H R (Same.refl F) rfl h⟩
theorem w_notO1 {C : Addr} {ls : List Str} {ps : List Pr} {F : D → Prop} (h : F (.bl true)) : oNotO (ordD C ls ps) .non F := Or.inr ⟨rfl, ⟨C, ls, ps, rfl⟩, h⟩
theorem w_notO2 {d : D} {F : D → Prop} (k : knownN d = true) (h : F (.bl (!isNon d))) : oNotO d .non F := Or.inl ⟨rfl, k, h⟩
end
end L3
/-! All two of some locks; orders in which each two stand one behind the other. -/
namespace L3
open PySem PySem.Spec PyProof.Rows L2 TB LamX
def swp (p : Pr) : Pr := (p.2, p.1)
theorem swp_swp (p : Pr) : swp (swp p) = p := rfl
/-- of unlike two locks -/
def UD (p q : Pr) : Prop := q ≠ p ∧ q ≠ swp p
theorem UD.sym {p q : Pr} (h : UD p q) : UD q p := ⟨fun e => h.1 e.symm, fun e => h.2 (by rw [e, swp_swp])⟩
theorem UD.sw {p q : Pr} (h : UD p q) : UD p (swp q) := ⟨fun e => h.2 (by rw [← e, swp_swp]), fun e => h.1 (by rw [← swp_swp q, e, swp_swp])⟩
/-- all two of ls, each once, this or that way about -/
structure AllP (ls : List Str) (l : List Pr) : Prop where
  mem : ∀ p ∈ l, p.1 ∈ ls ∧ p.2 ∈ ls ∧ p.1 ≠ p.2
  ud : l.Pairwise UD
  cov : ∀ a ∈ ls, ∀ b ∈ ls, a ≠ b → (a, b) ∈ l ∨ (b, a) ∈ l
theorem AllP.perm {ls : List Str} {l l' : List Pr} (h : AllP ls l) (p : l.Perm l') : AllP ls l' :=
  ⟨fun q hq => h.mem q (p.mem_iff.mpr hq), (p.pairwise_iff (fun h => h.sym)).mp h.ud, fun a ha b hb ne => (h.cov a ha b hb ne).imp p.mem_iff.mp p.mem_iff.mp⟩
theorem AllP.sw {ls : List Str} {l : List Pr} {p : Pr} (h : AllP ls (l ++ [p])) : AllP ls (l ++ [swp p]) := by
  have hp := h.mem p (by simp)
  refine ⟨fun q hq => ?_, ?_, fun a ha b hb ne => ?_⟩
  · rcases List.mem_append.mp hq with m | m
    · exact h.mem q (List.mem_append_left _ m)
    · rw [List.mem_singleton.mp m]
      exact ⟨hp.2.1, hp.1, fun e => hp.2.2 e.symm⟩
  · have hu := List.pairwise_append.mp h.ud
    exact List.pairwise_append.mpr ⟨hu.1, List.pairwise_singleton _ _, fun x hx y hy => by
      rw [List.mem_singleton.mp hy]
      exact (hu.2.2 x hx p (List.mem_singleton.mpr rfl)).sw⟩
  · have key : ∀ x y : Str, (x, y) ∈ l ++ [p] → (x, y) ∈ l ++ [swp p] ∨ (y, x) ∈ l ++ [swp p] := fun x y hx => by
      rcases List.mem_append.mp hx with m | m
      · exact Or.inl (List.mem_append_left _ m)
      · refine Or.inr (List.mem_append_right _ ?_)
        rw [← List.mem_singleton.mp m]
        exact List.mem_singleton.mpr rfl
    rcases h.cov a ha b hb ne with m | m
    · exact key a b m
    · exact (key b a m).symm
theorem AllP.nil : AllP [] [] := ⟨(fun _ z => nomatch z), List.Pairwise.nil, (fun _ z => nomatch z)⟩
theorem AllP.grow {ls : List Str} {l : List Pr} {z : Str} (h : AllP ls l) (nz : z ∉ ls) (nd : ls.Nodup) : AllP (ls ++ [z]) (l ++ ls.map fun y => (z, y)) := by
  refine ⟨fun p hp => ?_, ?_, fun a ha b hb ne => ?_⟩
  · rcases List.mem_append.mp hp with m | m
    · obtain ⟨h1, h2, h3⟩ := h.mem p m
      exact ⟨List.mem_append_left _ h1, List.mem_append_left _ h2, h3⟩
    · obtain ⟨y, hy, rfl⟩ := List.mem_map.mp m
      exact ⟨List.mem_append_right _ (List.mem_singleton.mpr rfl), List.mem_append_left _ hy, fun e => nz (by have e2 : z = y := e; rw [e2]; exact hy)⟩
  · refine List.pairwise_append.mpr ⟨h.ud, ?_, fun p hp q hq => ?_⟩
    · refine List.pairwise_map.mpr (nd.imp_of_mem fun {a b} ha hb ne => ⟨fun e => ne (Prod.mk.inj e).2.symm, fun e => ?_⟩)
      have e2 : z = a := (Prod.mk.inj e).1
      exact nz (e2 ▸ ha)
    · obtain ⟨y, hy, rfl⟩ := List.mem_map.mp hq
      obtain ⟨h1, h2, h3⟩ := h.mem p hp
      exact ⟨fun e => nz (by rw [← e] at h1; exact h1), fun e => nz (by
        have e2 : z = p.2 := (Prod.mk.inj e).1
        rw [e2]; exact h2)⟩
  · rcases List.mem_append.mp ha with ma | ma
    · rcases List.mem_append.mp hb with mb | mb
      · exact (h.cov a ma b mb ne).imp (List.mem_append_left _) (List.mem_append_left _)
      · rw [List.mem_singleton.mp mb]
        exact Or.inr (List.mem_append_right _ (List.mem_map.mpr ⟨a, ma, rfl⟩))
    · rcases List.mem_append.mp hb with mb | mb
      · rw [List.mem_singleton.mp ma]
        exact Or.inl (List.mem_append_right _ (List.mem_map.mpr ⟨b, mb, rfl⟩))
      · exact absurd ((List.mem_singleton.mp ma).trans (List.mem_singleton.mp mb).symm) ne
theorem w_neNilP {l : List Pr} {F : D → Prop} (h : ∀ p ∈ l, NmP p) (q : F (.bl (!decide (l = [])))) : oEqD true (.lst (l.map prD)) (.lst []) F := by
  refine ⟨_, _, pd_prs l, pd_prs [], sh_prs h, sh_prs (fun _ z => nomatch z), ?_⟩
  have e1 : PyData.eqv (dPrs l) (dPrs []) = decide (l = []) := by
    cases l with
    | nil => simp [dPrs, PyData.eqv, PyData.eqvAll]
    | cons p r => simp [dPrs, PyData.eqv, PyData.eqvAll]
  show F (.bl (!PyData.eqv (dPrs l) (dPrs [])))
  rw [e1]
  exact q
theorem tri_step : ∀ i : Nat, i < 8 → i * (i - 1) + 2 * i = (i + 1) * (i + 1 - 1) := by decide
theorem tri_le : ∀ i : Nat, i < 8 → i * (i - 1) ≤ 98 := by decide
def pAllP : PSp := fun ds Q => ∃ ls : List Str, ds = [potD, .lst (strsD ls)] ∧ ls.Nodup ∧ (∀ z ∈ ls, Nm z) ∧ ls.length ≤ 7 ∧ ∀ prs : List Pr, AllP ls prs → 2 * prs.length = ls.length * (ls.length - 1) → Q (.new (prs.map prD)) none
end L3
/-! Orders in which each two stand one behind the other: counts, the line. -/
namespace L3
open PySem PySem.Spec PyProof.Rows L2 TB LamX
open Classical in
/-- how many of ls are behind z -/
noncomputable def cnt (ls : List Str) (qs : List Pr) (z : Str) : Nat := (ls.filter fun u => decide (Rch qs z u)).length
theorem cnt_is {ls : List Str} {qs : List Pr} {z : Str} {fs : List Str} (h : ∀ u, u ∈ fs ↔ Rch qs z u) : (ls.filter fun u => decide (u ∈ fs)).length = cnt ls qs z := by
  classical
  unfold cnt
  congr 1
  apply List.filter_congr
  intro u _
  have := h u
  by_cases c : u ∈ fs
  · rw [decide_eq_true c, decide_eq_true (this.mp c)]
  · rw [decide_eq_false c, decide_eq_false (fun r => c (this.mpr r))]
/-- whole: of each two one is behind the other -/
structure Whole (ls : List Str) (qs : List Pr) : Prop where
  nd : ls.Nodup
  ac : ∀ a, ¬ Rch qs a a
  tot : ∀ a ∈ ls, ∀ b ∈ ls, a ≠ b → Rch qs a b ∨ Rch qs b a
section
variable {ls : List Str} {qs : List Pr}
theorem Whole.lt (h : Whole ls qs) {a b : Str} (hb : b ∈ ls) (r : Rch qs a b) : cnt ls qs b < cnt ls qs a := by
  classical
  unfold cnt
  have h1 : (b :: ls.filter fun u => decide (Rch qs b u)).length ≤ (ls.filter fun u => decide (Rch qs a u)).length := by
    refine nodup_le (List.nodup_cons.mpr ⟨fun m => ?_, h.nd.sublist List.filter_sublist⟩) (fun x hx => ?_)
    · exact h.ac b (by simpa using (List.mem_filter.mp m).2)
    · rcases List.mem_cons.mp hx with rfl | hx
      · exact List.mem_filter.mpr ⟨hb, decide_eq_true r⟩
      · obtain ⟨m1, m2⟩ := List.mem_filter.mp hx
        exact List.mem_filter.mpr ⟨m1, decide_eq_true (Rch.trans r (by simpa using m2))⟩
  rw [List.length_cons] at h1
  omega
theorem Whole.inj (h : Whole ls qs) {a b : Str} (ha : a ∈ ls) (hb : b ∈ ls) (e : cnt ls qs a = cnt ls qs b) : a = b := by
  by_cases c : a = b
  · exact c
  · rcases h.tot a ha b hb c with r | r
    · have := h.lt hb r
      omega
    · have := h.lt ha r
      omega
theorem Whole.bound (h : Whole ls qs) {a : Str} (ha : a ∈ ls) : cnt ls qs a < ls.length := by
  classical
  unfold cnt
  have h1 : (a :: ls.filter fun u => decide (Rch qs a u)).length ≤ ls.length := by
    refine nodup_le (List.nodup_cons.mpr ⟨fun m => ?_, h.nd.sublist List.filter_sublist⟩) (fun x hx => ?_)
    · exact h.ac a (by simpa using (List.mem_filter.mp m).2)
    · rcases List.mem_cons.mp hx with rfl | hx
      · exact ha
      · exact (List.mem_filter.mp hx).1
  rw [List.length_cons] at h1
  omega
/-- the counts are all numbers below -/
theorem Whole.perm (h : Whole ls qs) : (ls.map (cnt ls qs)).Perm (List.range ls.length) := by
  have nd : (ls.map (cnt ls qs)).Nodup := by
    refine List.pairwise_map.mpr (h.nd.imp_of_mem fun {a b} ha hb ne e => ne (h.inj ha hb e))
  have sub : ∀ x ∈ ls.map (cnt ls qs), x ∈ List.range ls.length := fun x hx => by
    obtain ⟨a, ha, rfl⟩ := List.mem_map.mp hx
    exact List.mem_range.mpr (h.bound ha)
  refine (List.perm_ext_iff_of_nodup nd List.nodup_range).mpr fun x => ⟨sub x, fun hx => ?_⟩
  by_cases c : x ∈ ls.map (cnt ls qs)
  · exact c
  · have h1 := nodup_le (l := x :: ls.map (cnt ls qs)) (m := List.range ls.length) (List.nodup_cons.mpr ⟨c, nd⟩) (fun y hy => by
      rcases List.mem_cons.mp hy with rfl | hy
      · exact hx
      · exact sub y hy)
    rw [List.length_cons, List.length_map, List.length_range] at h1
    omega
/-- in a line the counts fall one by one -/
theorem Whole.line (h : Whole ls qs) {line : List Str} (L : LineP ls qs line) : ∀ i (hi : i < line.length), cnt ls qs line[i] = ls.length - 1 - i := by
  have len := L.pm.length_eq
  have nd : line.Nodup := L.pm.nodup_iff.mpr h.nd
  have mem : ∀ i (hi : i < line.length), line[i] ∈ ls := fun i hi => L.pm.mem_iff.mp (List.getElem_mem hi)
  have fall : ∀ i j (hi : i < line.length) (hj : j < line.length), i < j → cnt ls qs line[j] < cnt ls qs line[i] := by
    intro i j hi hj hij
    have ne : line[i] ≠ line[j] := fun e => by
      have := (List.getElem_inj nd).mp e
      omega
    rcases h.tot _ (mem i hi) _ (mem j hj) ne with r | r
    · exact h.lt (mem j hj) r
    · exfalso
      have m := line_rch L r i (List.getElem?_eq_getElem hi)
      obtain ⟨k, hk, e⟩ := List.mem_iff_getElem.mp m
      rw [List.length_take] at hk
      rw [List.getElem_take] at e
      have := (List.getElem_inj nd).mp e
      omega
  have up : ∀ i (hi : i < line.length), cnt ls qs line[i] + i ≤ ls.length - 1 := by
    intro i
    induction i with
    | zero =>
      intro hi
      have := h.bound (mem 0 hi)
      omega
    | succ i ih =>
      intro hi
      have h1 := ih (by omega)
      have h2 := fall i (i + 1) (by omega) hi (by omega)
      omega
  have lo : ∀ k i (hi : i < line.length), line.length - 1 - i = k → line.length - 1 - i ≤ cnt ls qs line[i] := by
    intro k
    induction k with
    | zero => intro i hi e; omega
    | succ k ih =>
      intro i hi e
      have h1 := ih (i + 1) (by omega) (by omega)
      have h2 := fall i (i + 1) hi (by omega) (by omega)
      omega
  intro i hi
  have h1 := up i hi
  have h2 := lo _ i hi rfl
  omega
end
/-- ways there are just where one leads to the other -/
theorem ways_nil {ls : List Str} {qs : List Pr} (lp : LP ls qs) (h7 : ls.length ≤ 7) {a b : Str} (ha : a ∈ ls) (ne : a ≠ b) : waysF qs 6 a b = [] ↔ ¬ Rch qs a b := by
  have ac := LP.ac rfl lp
  have dp := deep_of lp h7 ha
  constructor
  · intro e r
    obtain ⟨w, hw, hl⟩ := Way.of_rch r
    have := (ways_mem ac dp w).mpr ⟨hw, hl⟩
    rw [e] at this
    exact nomatch this
  · intro n
    rw [List.eq_nil_iff_forall_not_mem]
    intro w hw
    obtain ⟨h1, h2⟩ := (ways_mem ac dp w).mp hw
    rcases h1.rch b h2 with e | r
    · exact ne e.symm
    · exact n r
end L3
/-! list.index of ints; lists of ints compared. -/
namespace L3
open PySem PySem.Spec PyProof.Rows L2 TB LamX
section
variable {X : Sx} {K : PySem.W.Frag}
def qIndexI (pe pe2 : QE) : QE := fun ρ Q => pe ρ fun r ρ0 => ∃ ws0, rdR ρ0 r = some (.lst ws0) ∧ pe2 ρ0 fun r2 ρ1 => ∃ (ws : List Int) (z : Int) (j : Nat), rdR ρ1 r = some (.lst (ws.map D.int)) ∧ rdR ρ1 r2 = some (.int z) ∧ ws[j]? = some z ∧ (∀ m, m < j → ws[m]? ≠ some z) ∧ Q (.val (.int (j : Int))) ρ1
theorem li_indexI {te te2 : TE} {pe pe2 : QE} (h1 : LiE X te pe) (h2 : LiE X te2 pe2) (hK : X.K = K := by rfl) : LiE X (tBM K "list" (rIndex K) te (tCons te2 tNil)) (qIndexI pe pe2) := by
  subst hK
  intro c hX σ F H ρ Q Q3 R hq h
  subst hX
  refine h1 c rfl σ F H ρ _ _ R ?_ h
  rintro r ρ0 v F0 H0 R0 s0 rv0 ⟨ws0, e0, q0⟩
  obtain ⟨a, us, rfl, ha, _⟩ := rv0.rn R0 e0
  refine ⟨Or.inl ⟨rfl, _, sqL_of ha⟩, ?_⟩
  refine h2 c rfl σ F0 H0 ρ0 _ _ R0 ?_ q0
  rintro r2 ρ1 v2 F1 H1 R1 s1 rv1 ⟨ws, z, j, e1, e2, hj, hb, q⟩
  obtain ⟨a', us', e', ha', hr'⟩ := (rv0.mono s1).rn R1 e1
  cases e'
  obtain rfl := hr'.ints
  obtain rfl : v2 = .int z := rv1.rn R1 e2
  refine ⟨a, ws.map V.int, .int z, j, .int z, rfl, rfl, sqL_of ha', rfl, ?_, by rw [List.getElem?_map, hj]; rfl, ?_, ?_, hq (.val (.int _)) ρ1 _ F1 H1 R1 (tr s0 s1) rfl q⟩
  · rw [List.all_map, List.all_eq_true]
    exact fun _ _ => rfl
  · show (z == z) = true
    exact beq_self_eq_true z
  · intro m z' hm e
    rw [List.getElem?_map] at e
    obtain ⟨y, ey, rfl⟩ := Option.map_eq_some_iff.mp e
    show (y == z) = false
    exact beq_eq_false_iff_ne.mpr fun e3 => hb m hm (by rw [ey, e3])
theorem w_indexI {ρ : PSt} {pe pe2 : QE} {Q : Rv → PSt → Prop} (h : pe ρ fun r ρ0 => ∃ ws0, rdR ρ0 r = some (.lst ws0) ∧ pe2 ρ0 fun r2 ρ1 => ∃ (ws : List Int) (z : Int) (j : Nat), rdR ρ1 r = some (.lst (ws.map D.int)) ∧ rdR ρ1 r2 = some (.int z) ∧ ws[j]? = some z ∧ (∀ m, m < j → ws[m]? ≠ some z) ∧ Q (.val (.int (j : Int))) ρ1) : qIndexI pe pe2 ρ Q := h
theorem w_neInts {a b : List Int} {F : D → Prop} (h : F (.bl (!decide (a = b)))) : oEqD true (.lst (a.map D.int)) (.lst (b.map D.int)) F :=
  ⟨_, _, pd_ints a, pd_ints b, sh_ints a, sh_ints b, by rw [eqv_ints2]; exact h⟩
theorem rgD_is (n : Nat) : rgD n = ((List.range n).map fun i : Nat => (i : Int)).map D.int := by
  unfold rgD
  rw [List.map_map]
  rfl
theorem ints_one {a b : List Int} (p : a.Perm b) (s1 : a.Pairwise (· ≤ ·)) (s2 : b.Pairwise (· ≤ ·)) : a = b :=
  p.eq_of_pairwise (fun _ _ _ _ h1 h2 => Int.le_antisymm h1 h2) s1 s2
theorem range_le (n : Nat) : ((List.range n).map fun i : Nat => (i : Int)).Pairwise (· ≤ ·) := by
  refine List.pairwise_map.mpr (List.pairwise_lt_range.imp fun {a b} h => ?_)
  omega
/-- of each place in the line the lock by its count -/
theorem Whole.pick {ls : List Str} {qs : List Pr} (h : Whole ls qs) (l1 : 1 ≤ ls.length) : ∃ g : Nat → Str, ∀ i, i < ls.length → g i ∈ ls ∧ cnt ls qs (g i) = ls.length - 1 - i := by
  have ex : ∀ i, ∃ z, i < ls.length → z ∈ ls ∧ cnt ls qs z = ls.length - 1 - i := fun i => by
    by_cases c : i < ls.length
    · have := h.perm.mem_iff.mpr (List.mem_range.mpr (show ls.length - 1 - i < ls.length by omega))
      obtain ⟨z, hz, e⟩ := List.mem_map.mp this
      exact ⟨z, fun _ => ⟨hz, e⟩⟩
    · exact ⟨ls[0], fun h2 => absurd h2 c⟩
  exact ⟨fun i => Classical.choose (ex i), fun i => Classical.choose_spec (ex i)⟩
theorem Whole.picked {ls : List Str} {qs : List Pr} (h : Whole ls qs) {g : Nat → Str} (hg : ∀ i, i < ls.length → g i ∈ ls ∧ cnt ls qs (g i) = ls.length - 1 - i) {line : List Str} (L : LineP ls qs line) : line = (List.range ls.length).map g := by
  have len := L.pm.length_eq
  refine List.ext_getElem (by rw [List.length_map, List.length_range, len]) fun i h1 h2 => ?_
  rw [List.getElem_map, List.getElem_range]
  have hi : i < ls.length := by omega
  exact h.inj (L.pm.mem_iff.mp (List.getElem_mem h1)) (hg i hi).1 (by rw [h.line L i h1, (hg i hi).2])
theorem tri_div {n m : Nat} (h : 2 * m = n * (n - 1)) (h1 : 1 ≤ n) : ((m : Nat) : Int) = ((n : Int) * ((n : Int) - 1)) / 2 := by
  have e : (n : Int) * ((n : Int) - 1) = ((n * (n - 1) : Nat) : Int) := by
    rw [Int.natCast_mul, Int.natCast_sub h1]
    rfl
  rw [e, ← h]
  omega
theorem same_len {ps qs : List Pr} (h1 : ps.Nodup) (h2 : qs.Nodup) (sm : ∀ z, z ∈ ps ↔ z ∈ qs) : ps.length = qs.length := ((List.perm_ext_iff_of_nodup h1 h2).mpr sm).length_eq
end
end L3
/-! repr of an own object; f-strings that show data; isinstance of a caught error that has fields; texts joined by +. -/
namespace L2
open PySem PySem.Spec PyProof.Rows
/-- a class with an own __repr__ -/
structure RepOwn (P : Program) (w : World) (K : PySem.W.Frag) (mg : Str → Option Value) (base : Heap) (k : Nat) (C : Addr) (sp : Sp) : Prop where
  ex : ∃ (f : Addr) (fd : FuncData) (ps : List Str), PySem.W.findIn K (.ref C) "__repr__" = some (some (.ref f)) ∧ PySem.W.isFn K (.ref f) = true ∧ TB.FnG P w K mg base C8.CX0 k f fd ps sp ∧ Binds K fd ps []
  ok : ∀ vs H Q E, sp vs H Q E → sp vs H (fun v H' => (∃ z : Str, v = .str z) ∧ Q v H') E
theorem call_oneG {X : Cx} {pins : List (Addr × Obj)} {σ : St} {H : Hp} {s : Shared} {A : Around} {CX : CXT} {n : Nat} {f : Addr} {fd : FuncData} {ps : List Str} {sp : Sp} {Ex : XK} {x : V} {u : Value} {Q : VK} (F : TB.FnG X.prog X.w X.K X.mg X.base CX n f fd ps sp) (g : A.guards = some []) (hb : Binds X.K fd ps []) (hx : Passes CX X Ex) (sb : Sub X n A) (I : Inv X pins σ H s) (rx : RelV x u)
    (h : sp [x] H Q Ex) : wpAny (model X.prog X.w) A (call (.ref f) [u]) (fun r s' => ∃ z H', Inv X pins σ H' s' ∧ RelV z r ∧ Q z H') X.xe s := by
  have e0 : Env0 X.prog X.w X.K X.mg X.base A X.stack s H := by
    have e := I.env0
    exact ⟨by rw [sb.fr]; exact e.frames, e.mod, e.bs, e.bsz, e.funs, e.frf, e.hok, e.bare⟩
  have hl := F.lenG _ _ _ _ h
  refine wpAny_call (codeAny_mono (F.runG A X.stack s H ⟨[u], []⟩ [u] [x] _ Ex g sb.room e0 (by
    have := hb s [u] I.kIn (by simpa using hl)
    simpa using this) (.cons rx .nil) h) fun r s' hq => ?_)
  cases r with
  | error e => exact hx pins σ H s e s' I hq
  | ok fl =>
    cases fl with
    | ret w =>
      obtain ⟨z, H', I', rz, q⟩ := I.after hq
      exact ⟨z, H', I', rz, q⟩
    | next => exact False.elim hq
    | brk => exact False.elim hq
    | cont => exact False.elim hq
section
variable {X : Cx} {k j : Nat} {C : Addr} {sp : Sp} {o : Expr} {te : TE} {p pos : Pos}
/-- repr(o), o an own object -/
theorem pe_reprO (c : RepOwn X.prog X.w X.K X.mg X.base k C sp) (g : X.A.guards = some []) (hr : Room j X.A) (hk : k + 1 ≤ j) (hg : Gl X "repr") (hm : X.mg "repr" = none) (he : PE X o te) (na : starEach [o] X.env = (false, eval o X.env) :: starEach [] X.env := by rfl) :
    PE X (.Call (.Name "repr" p) [o] [] pos) (tMeth C "__repr__" sp [] C8.E0 te tNil) := by
  refine ⟨fun pins s σ H Q I h => ?_⟩
  obtain ⟨f, fd, ps, hs, hf, F, hb⟩ := c.ex
  refine wpAny_Call_Name_kw (ld_blt (u := .builtin "repr") I hg hm (by decide +kernel) ?_)
  refine PyProof.Rows.callWith_builtin1 (one_arg he I h (fun v s1 x H1 I1 r q => ?_) na) na
  obtain ⟨a, dx, fs, rfl, ha, _, q⟩ := q
  cases (show v = Value.ref a from r)
  obtain ⟨mA, J, _⟩ := ins_get I1.hok ha
  obtain ⟨od, J, _⟩ := J.look
  obtain ⟨m, hF⟩ := I1.fr
  have sb : Sub X k X.A.in1 := Sub.in1 ⟨hr.mono hk, rfl⟩
  refine PySem.W.repr_K sb.room.units0 hF I1.ok.mod.kin J hs hf (wpAny_mono (call_oneG F g hb C8.pass0 sb I1 (x := .ref a) rfl (c.ok _ _ _ _ q)) (fun r s' z => ?_) fun _ _ e => e)
  obtain ⟨z, H', I', rz, ⟨n, rfl⟩, q'⟩ := z
  obtain ⟨t, rfl⟩ := rz
  exact ⟨.str n, H', I', ⟨t, rfl⟩, q'⟩
end

/-! ### a caught error -/
def excCB (K : PySem.W.Frag) (D : Addr) : Bool := decide (PySem.W.findIn K (.ref D) "__getattribute__" = some (some (.builtin "BaseException.__getattribute__"))) && (decide (PySem.W.findIn K (.ref D) "__getattr__" = some none) && (decide (PySem.W.subIn K (.ref D) (.type "BaseException") = some true) && (PySem.W.hasDictIn K D &&
  (decide (PySem.W.findIn K (.ref D) "__class__" = some (some (.builtin "object.__class__"))) && (decide (PySem.W.specialIn K (.builtin "object.__class__") "__get__" = some (some (.builtin "getset_descriptor.__get__"))) && (decide (PySem.W.takesIn K (.builtin "object.__class__") = some true) && decide (PySem.W.mroIn K D (.type "object") = some true)))))))
theorem excCB_ok {K : PySem.W.Frag} {D : Addr} (h : excCB K D = true) : ExcC K D := by
  unfold excCB at h
  simp only [Bool.and_eq_true, decide_eq_true_eq] at h
  obtain ⟨h1, h2, h3, h4, h5, h6, h7, h8⟩ := h
  exact ⟨h1, h2, h3, h4, h5, h6, h7, h8⟩
theorem ExcC.xf {K : PySem.W.Frag} {D : Addr} (C : ExcC K D) : XfC K D := ⟨C.hg, C.hk, C.hs, C.hd⟩
/-- the dict of the caught one is known, if it has one -/
def DctAt (H : Hp) (d : Option Addr) : Prop := match d with
  | none => True
  | some dd => ∃ fs, H dd = some (.xd fs)
/-- isinstance(e, c) in an except suite -/
def rIsE2 (K : PySem.W.Frag) (a : Addr) (cls : Value) (d : Option Addr) : List V → Hp → VK → Prop := fun xs H Q => ∃ (D : Addr) (c : V) (u : Value) (b : Bool), xs = [.ref a, c] ∧ cls = .ref D ∧ ExcC K D ∧ DctAt H d ∧ ClsV c u ∧ PySem.W.kitOne K (.ref D) u = some b ∧ Q (.bl b) H
def rIsE2T (K : PySem.W.Frag) (a : Addr) (cls : Value) (d : Option Addr) : List V → Hp → VK → Prop := fun xs H Q => ∃ (D tp : Addr) (cs : List V) (us : List Value) (b : Bool), xs = [.ref a, .ref tp] ∧ cls = .ref D ∧ ExcC K D ∧ DctAt H d ∧ H tp = some (.tup cs) ∧ Paired ClsV cs us ∧ PySem.W.kitAny K (.ref D) us = some b ∧ Q (.bl b) H
section
variable {X : Cx} {a : Addr} {oe : Obj} {cls : Value} {d : Option Addr} {pn pins : List (Addr × Obj)} {σ : St} {H : Hp} {s : Shared} {D : Addr}
theorem inst_e (hz : Zc cls d oe) (hf : ∃ vs, oe.data = .fields vs) (ec : cls = .ref D) (hd : DctAt H d) (I : Inv (X.suite a ((a, oe) :: pn)) pins σ H s) : ∃ od, PySem.W.InstAt s.heap a oe D od := by
  obtain ⟨hget, _⟩ := I.pin (a, oe) (List.mem_append.mpr (.inl List.mem_cons_self))
  obtain ⟨vs, hv⟩ := hf
  have no : PySem.W.notCls oe = true := by unfold PySem.W.notCls; rw [hv]
  cases d with
  | none => exact ⟨none, hget, hz.1.trans ec, no, by rw [hz.2]; trivial⟩
  | some dd =>
    obtain ⟨fs, hfs⟩ := hd
    obtain ⟨mA, hns, _⟩ := (show ObjOk X.prog X.w H s.heap dd (.xd fs) from I.hok dd _ hfs)
    obtain ⟨od, ho, _⟩ := lookIn_ns hns
    exact ⟨some od, hget, hz.1.trans ec, no, by rw [hz.2]; exact ho⟩
theorem kit_e {od : Option Obj} (C : ExcC X.K D) : PySem.W.KitX X.K (.ref a) (.ref D) (fun h => PySem.W.InstAt h a oe D od) := by
  refine PySem.W.kitx_exc ?_ C.hg C.hk C.hs C.ha C.hn C.ht C.hm
  obtain ⟨cd, hc, _⟩ := PySem.W.any_some C.hd
  rw [hc]
  rfl
theorem call_isE2 (hz : Zc cls d oe) (hf : ∃ vs, oe.data = .fields vs) : CallR (X.suite a ((a, oe) :: pn)) (.builtin "isinstance") (rIsE2 X.K a cls d) := by
  intro pins s σ H xs us Q I r h
  obtain ⟨D, c, u, b, rfl, ec, C, hd, hc, e, q⟩ := h
  obtain ⟨u1, u2, rfl, r1, r2⟩ := vals2 r
  cases (show u1 = Value.ref a from r1)
  have e2 := hc.eq r2
  subst e2
  obtain ⟨od, J⟩ := inst_e hz hf ec hd I
  exact PySem.W.kia_one (kit_e C) I.kIn J e (fun z => nomatch z) fun tk => ⟨.bl b, H, I.tok tk, rfl, q⟩
theorem call_isE2T (hz : Zc cls d oe) (hf : ∃ vs, oe.data = .fields vs) : CallR (X.suite a ((a, oe) :: pn)) (.builtin "isinstance") (rIsE2T X.K a cls d) := by
  intro pins s σ H xs us Q I r h
  obtain ⟨D, tp, cs, ws, b, rfl, ec, C, hd, hT, k, e, q⟩ := h
  obtain ⟨u1, u2, rfl, r1, r2⟩ := vals2 r
  cases (show u1 = Value.ref a from r1)
  cases (show u2 = Value.ref tp from r2)
  obtain ⟨od, J⟩ := inst_e hz hf ec hd I
  obtain ⟨_, its, rv, o, h1, h2, n, h3⟩ := (show ObjOk X.prog X.w H s.heap tp (.tup cs) from I.hok tp _ hT)
  have e3 := ClsV.all k rv
  subst e3
  obtain ⟨oc, od, dt, sl⟩ := o
  simp only at h2 h3
  subst h2
  subst h3
  exact PySem.W.kia_tup (kit_e C) I.kIn J h1 e (fun z => nomatch z) fun tk => ⟨.bl b, H, I.tok tk, rfl, q⟩
end
/-! ### {x!r} of data -/
section
variable {X : Cx}
def tFmtD (K : PySem.W.Frag) (te : TE) : TE := fun σ H Q => te σ H fun x H1 => ∃ (a : Addr) (d : PyData), x = .ref a ∧ Dp K H1 x d ∧ d.showable = true ∧ d.depth ≤ 50 ∧ d.shown.length ≤ sizeLine ∧ Q (.str d.shown) H1
theorem pe_fmtD {e : Expr} {te : TE} {pos : Pos} {j : Nat} (hr : Room j X.A) (g : X.A.guards = some []) (he : PE X e te) : PE X (.FormattedValue e 114 none pos) (tFmtD X.K te) := by
  refine ⟨fun pins s σ H Q I h => ?_⟩
  refine wpAny_FormattedValue_repr (thn (he.run pins s σ H _ I h) fun v s1 hv => ?_)
  obtain ⟨x, H1, I1, r1, a, d, rfl, hd, hs, hdp, hz, q⟩ := hv
  obtain ⟨as, rd⟩ := Dp.reads I1 d _ v hd r1
  cases (show v = Value.ref a from r1)
  have hu := hr.units
  refine pyReprObj_of_reads rd hs (fun z => ?_) g (by omega) (fun _ _ e => e) (fun h' u tk hk => ?_) hz
  · rw [TB.dp_noDict hd] at z
    exact nomatch z
  · have J := I1.kept (t' := tk) hk
    exact wpAny_formatField_str ⟨.str d.shown, H1, J, ⟨_, rfl⟩, q⟩ ⟨.str d.shown, H1, J.tok _, ⟨_, rfl⟩, q⟩ hz
/-- + of texts -/
def rCatS : R2 := fun x y H Q => ∃ i j, x = .str i ∧ y = .str j ∧ i.length + j.length ≤ sizeLine ∧ Q (.str (i ++ j)) H
theorem op_catS : OpR X (binaryOp .Add) rCatS := op_add_str
end
end L2
namespace L3
open PySem PySem.Spec PyProof.Rows L2 TB LamX
def oCatS : O2 := fun dx dy Q => ∃ i j, dx = .str i ∧ dy = .str j ∧ i.length + j.length ≤ sizeLine ∧ Q (.str (i ++ j))
theorem lr_catS {X : Sx} : LiR X rCatS oCatS := by
  intro c hX σ F H ρ x y dx dy Q Q3 R rx ry hq h
  obtain ⟨i, j, rfl, rfl, hz, q⟩ := h
  exact ⟨i, j, rx, ry, hz, hq (.str _) _ F H R (Same.refl F) rfl q⟩
theorem w_catS {i j : Str} {Q : D → Prop} (hz : i.length + j.length ≤ sizeLine) (h : Q (.str (i ++ j))) : oCatS (.str i) (.str j) Q := ⟨i, j, rfl, rfl, hz, h⟩
end L3
/-! An order's pairs as a law lists them. -/
namespace L3
open PySem PySem.Spec PyProof.Rows L2 TB LamX
def rowP (ls : List Str) (qs : List Pr) (a : Str) : List Pr := (ls.filter fun b => decide ((a, b) ∈ qs)).map fun b => (a, b)
def allIn (ls : List Str) (qs : List Pr) : List Pr := ls.flatMap (rowP ls qs)
theorem mem_rowP {ls : List Str} {qs : List Pr} {a : Str} {p : Pr} : p ∈ rowP ls qs a ↔ p.1 = a ∧ p.2 ∈ ls ∧ p ∈ qs := by
  unfold rowP
  rw [List.mem_map]
  constructor
  · rintro ⟨b, hb, rfl⟩
    obtain ⟨h1, h2⟩ := List.mem_filter.mp hb
    exact ⟨rfl, h1, by simpa using h2⟩
  · rintro ⟨rfl, h1, h2⟩
    exact ⟨p.2, List.mem_filter.mpr ⟨h1, by simpa using h2⟩, rfl⟩
theorem ixS_get {ls : List Str} (nd : ls.Nodup) {i : Nat} (h : i < ls.length) : ixS ls ls[i] = i := by
  have h1 := (ixS_at (List.getElem_mem h)).1
  obtain ⟨hl, e⟩ := List.getElem?_eq_some_iff.mp h1
  exact (List.getElem_inj nd).mp e
theorem allIn_sort {ls : List Str} {qs : List Pr} (nd : ls.Nodup) : (allIn ls qs).Pairwise fun p q => SrtO.lexB (keyP ls p) (keyP ls q) = true := by
  have pw : ls.Pairwise fun a b => ixS ls a < ixS ls b := by
    rw [List.pairwise_iff_getElem]
    intro i j hi hj hij
    rw [ixS_get nd hi, ixS_get nd hj]
    exact hij
  have rows : ∀ a, (rowP ls qs a).Pairwise fun p q => SrtO.lexB (keyP ls p) (keyP ls q) = true := by
    intro a
    unfold rowP
    rw [List.pairwise_map]
    refine (pw.sublist List.filter_sublist).imp fun {b c} h => ?_
    refine SrtO.lexB_iff.mpr (Or.inr ⟨rfl, ?_⟩)
    show ((ixS ls b : Nat) : Int) < ((ixS ls c : Nat) : Int)
    omega
  have go : ∀ ms : List Str, ms.Pairwise (fun a b => ixS ls a < ixS ls b) → (ms.flatMap (rowP ls qs)).Pairwise fun p q => SrtO.lexB (keyP ls p) (keyP ls q) = true := by
    intro ms hm
    induction ms with
    | nil => exact List.Pairwise.nil
    | cons a r ih =>
      obtain ⟨h1, h2⟩ := List.pairwise_cons.mp hm
      rw [List.flatMap_cons, List.pairwise_append]
      refine ⟨rows a, ih h2, fun p hp q hq => ?_⟩
      obtain ⟨b, hb, hq⟩ := List.mem_flatMap.mp hq
      have e1 := (mem_rowP.mp hp).1
      have e2 := (mem_rowP.mp hq).1
      refine SrtO.lexB_iff.mpr (Or.inl ?_)
      have := h1 b hb
      show ((ixS ls p.1 : Nat) : Int) < ((ixS ls q.1 : Nat) : Int)
      rw [e1, e2]
      omega
  exact go ls pw
theorem lexB_asymm {p q : Int × Int} (h : SrtO.lexB p q = true) : SrtO.lexB q p = false := by
  have := SrtO.lexB_iff.mp h
  refine SrtO.lexB_no.mpr ?_
  omega
theorem OrdOk.told {ls : List Str} {ps qs : List Pr} (ok : OrdOk ls ps) (sm : ∀ z, z ∈ ps ↔ z ∈ qs) : allIn ls qs = ps := by
  have hm : ∀ z, z ∈ allIn ls qs ↔ z ∈ ps := by
    intro z
    unfold allIn
    rw [List.mem_flatMap, sm]
    constructor
    · rintro ⟨a, _, h⟩
      exact (mem_rowP.mp h).2.2
    · intro h
      obtain ⟨m1, m2⟩ := ok.mem z ((sm z).mpr h)
      exact ⟨z.1, m1, mem_rowP.mpr ⟨rfl, m2, h⟩⟩
  have st := allIn_sort (qs := qs) ok.nd
  have ndA : (allIn ls qs).Nodup := st.imp fun {p q} h e => by
    subst e
    have := SrtO.lexB_iff.mp h
    omega
  have pm : (allIn ls qs).Perm ps := (List.perm_ext_iff_of_nodup ndA ok.pnd).mpr hm
  refine List.Perm.eq_of_pairwise (le := fun p q => SrtO.lexB (keyP ls q) (keyP ls p) = false) ?_ (st.imp fun h => lexB_asymm h) ok.srt pm
  intro p q hp hq h1 h2
  have a := SrtO.lexB_no.mp h1
  have b := SrtO.lexB_no.mp h2
  obtain ⟨p1, p2⟩ := ok.mem p ((hm p).mp hp)
  obtain ⟨q1, q2⟩ := ok.mem q hq
  have e1 : ixS ls p.1 = ixS ls q.1 := by
    have : (keyP ls p).1 = (keyP ls q).1 := by omega
    have : ((ixS ls p.1 : Nat) : Int) = ((ixS ls q.1 : Nat) : Int) := this
    omega
  have e2 : ixS ls p.2 = ixS ls q.2 := by
    have h0 : (keyP ls p).1 = (keyP ls q).1 := by omega
    have : (keyP ls p).2 = (keyP ls q).2 := by omega
    have : ((ixS ls p.2 : Nat) : Int) = ((ixS ls q.2 : Nat) : Int) := this
    omega
  exact Prod.ext (ixS_inj p1 q1 e1) (ixS_inj p2 q2 e2)
theorem w_reprBB {a b : Bool} {F : D → Prop} (h : F (.str (PyData.list [.bool a, .bool b]).shown)) : oRepr [.lst [.bl a, .bl b]] F := w_repr (x := .list [.bool a, .bool b]) rfl (by cases a <;> cases b <;> rfl) (by cases a <;> cases b <;> decide) (by cases a <;> cases b <;> decide +kernel) h
end L3
/-! Data with dicts in it: shown, and texts held against it. -/
namespace TB
open PySem PySem.Spec PyProof.Rows L2
open PySem.SeqAt PySem.MeetsSeq PySem.MeetsSeq2 PySem.MeetsSeq3 PySem.SeqRoads2
open PySem.AutoSeq1 (wpAny_loadPart')
/-- the object at a is a dict -/
def DictObj (h : Heap) (a : Addr) : Prop := ∃ (o : Obj) (es : Array DictEntry) (n : Nat), h.get? a = some o ∧ o.cls = .type "dict" ∧ o.data = .dict es n
theorem dict_no_str (l : Addr) (es : Array DictEntry) (n : Nat) (dd : Option Addr) (sl : Array (Option Value)) (b : Str) (u : Tok) :
    Meets (Builtin.«dict.__eq__» ⟨[.ref l, .str b u], []⟩) (fun _ R s => s.heap.get? l = some { cls := .type "dict", dict := dd, data := .dict es n, slots := sl } ∧ R (.ok (.ret .notImplemented)) s) :=
  .of_wp fun prog w A R s h => by
    obtain ⟨hp, g, d, tk, os⟩ := s
    obtain ⟨hl, h⟩ := h
    have f1 := F.sub_str_dict
    wp_walk using wpAny_loadPart' hl
    exact ⟨_, rfl, h⟩
theorem str_no_dict (b : Str) (u : Tok) (l : Addr) (es : Array DictEntry) (n : Nat) (dd : Option Addr) (sl : Array (Option Value)) :
    Meets (Builtin.«str.__eq__» ⟨[.str b u, .ref l], []⟩) (fun _ R s => s.heap.get? l = some { cls := .type "dict", dict := dd, data := .dict es n, slots := sl } ∧ R (.ok (.ret .notImplemented)) s) :=
  .of_wp fun prog w A R s h => by
    obtain ⟨hp, g, d, tk, os⟩ := s
    obtain ⟨hl, h⟩ := h
    wp_walk using wpAny_loadPart' hl, wpAny_load hl
    exact ⟨_, rfl, h⟩
section
variable {A : Around} {s : Shared}
theorem eqAt_dict_str {l : Addr} (b : Str) (u : Tok) (hl : DictObj s.heap l) (hu : A.units < cLine) : EqAt A s (.ref l) (.str b u) false := fun prog w E Q h => by
  obtain ⟨⟨cls, dd, data, sl⟩, es, n, ho, hc, hd⟩ := hl
  simp only at hc hd
  subst hc
  subst hd
  unfold eqBool
  refine wpAny_holding (wpAny_ite_split (fun hab => absurd (eq_of_beq hab) nofun) (fun _ => wpAny_bind ?_))
  exact rc_eq_decline_or (k := false) ⟨_, ho, rfl⟩ (typeIs_str s b u) (by decide) F.sub_str_dict F.slot_dict_eq F.slot_str_eq_refl (fun _ hq => call_meets F.slot_dict_eq ⟨_, ho, rfl⟩ F.entry_dict_eq (F.args_dict_eq_2 _ _) (dict_no_str l es n dd sl b u) ⟨ho, hq⟩)
    (fun _ hq => call_meets F.slot_str_eq_refl (typeIs_str s b u) F.entry_str_eq (F.args_str_eq_2 _ _) (str_no_dict b u l es n dd sl) ⟨ho, hq⟩) (fun _ hq => wpAny_of_eq (rfl : isSame (.ref l) (.str b u) = pure false) hq) (.inr hu) (wpAny_truthy_bool h)
theorem eqAt_str_dict {l : Addr} (b : Str) (u : Tok) (hl : DictObj s.heap l) (hu : A.units < cLine) : EqAt A s (.str b u) (.ref l) false := fun prog w E Q h => by
  obtain ⟨⟨cls, dd, data, sl⟩, es, n, ho, hc, hd⟩ := hl
  simp only at hc hd
  subst hc
  subst hd
  unfold eqBool
  refine wpAny_holding (wpAny_ite_split (fun hab => absurd (eq_of_beq hab) nofun) (fun _ => wpAny_bind ?_))
  exact rc_eq_decline_or (k := false) (typeIs_str s b u) ⟨_, ho, rfl⟩ (by decide) F.sub_dict_str F.slot_str_eq F.slot_dict_eq_refl (fun _ hq => call_meets F.slot_str_eq (typeIs_str s b u) F.entry_str_eq (F.args_str_eq_2 _ _) (str_no_dict b u l es n dd sl) ⟨ho, hq⟩)
    (fun _ hq => call_meets F.slot_dict_eq_refl ⟨_, ho, rfl⟩ F.entry_dict_eq (F.args_dict_eq_2 _ _) (dict_no_str l es n dd sl b u) ⟨ho, hq⟩) (fun _ hq => wpAny_of_eq (rfl : isSame (.str b u) (.ref l) = pure false) hq) (.inr hu) (wpAny_truthy_bool h)
end

/-! ### data, dicts among it -/
def keyD : Key → PyData
  | .inl i => .int i
  | .inr x => .str x
mutual
inductive DpX (K : PySem.W.Frag) (H : Hp) : V → PyData → Prop
  | non : DpX K H .non .none
  | bl (b : Bool) : DpX K H (.bl b) (.bool b)
  | int (i : Int) : DpX K H (.int i) (.int i)
  | str (x : Str) : DpX K H (.str x) (.str x)
  | lst {a : Addr} {xs : List V} {ds : List PyData} : SqL K H a xs → DpXA K H xs ds → DpX K H (.ref a) (.list ds)
  | tup {a : Addr} {xs : List V} {ds : List PyData} : SqT K H a xs → DpXA K H xs ds → DpX K H (.ref a) (.tuple ds)
  | dic {a : Addr} {kvs : List (Key × V)} {ds : List PyData} : H a = some (.dK kvs) → DpXA K H (kvs.map (·.2)) ds → DpX K H (.ref a) (.dict ((kvs.map fun p => keyD p.1).zip ds))
inductive DpXA (K : PySem.W.Frag) (H : Hp) : List V → List PyData → Prop
  | nil : DpXA K H [] []
  | cons {v : V} {vs : List V} {d : PyData} {ds : List PyData} : DpX K H v d → DpXA K H vs ds → DpXA K H (v :: vs) (d :: ds)
end
/-- the modules' table is a dict, so no list -/
def SysD (h : Heap) : Prop := ∃ o, h.get? sysModules = some o ∧ o.cls = .type "dict"
theorem dpxa_len {K : PySem.W.Frag} {H : Hp} : ∀ {vs : List V} {ds : List PyData}, DpXA K H vs ds → vs.length = ds.length
  | _, _, .nil => rfl
  | _, _, .cons _ t => by rw [List.length_cons, List.length_cons, dpxa_len t]
theorem zip_fst {α β : Type} : ∀ {as : List α} {bs : List β}, as.length = bs.length → (as.zip bs).map (·.1) = as
  | [], [], _ => rfl
  | a :: as, b :: bs, h => by
    rw [List.zip_cons_cons, List.map_cons, zip_fst (by simpa using h)]
theorem zip_snd {α β : Type} : ∀ {as : List α} {bs : List β}, as.length = bs.length → (as.zip bs).map (·.2) = bs
  | [], [], _ => rfl
  | a :: as, b :: bs, h => by
    rw [List.zip_cons_cons, List.map_cons, zip_snd (by simpa using h)]
theorem keys_read {P : Program} {w : World} {h : Heap} : ∀ {es : List DictEntry} {vs : List (Key × Value)}, Pairs (mixKind P w) es vs → ReadsAll h (es.map (·.key)) (vs.map fun p => keyD p.1) []
  | _, _, .nil => .nil
  | _, _, @Pairs.cons _ _ _ _ _ e kv es kvs hk hv t => by
    rcases keyIs_shape (k := kv.1) (v := e.key) hk with ⟨i, u, e1, e2⟩ | ⟨z, u, e1, e2⟩
    · have r := ReadsAll.cons (as := []) (h := h) (show Reads h e.key (keyD kv.1) [] by rw [e1, e2]; exact Reads.int i u) (keys_read t)
      exact r
    · have r := ReadsAll.cons (as := []) (h := h) (show Reads h e.key (keyD kv.1) [] by rw [e1, e2]; exact Reads.str z u) (keys_read t)
      exact r
theorem vals_of {P : Program} {w : World} : ∀ {es : List DictEntry} {vs : List (Key × Value)}, Pairs (mixKind P w) es vs → es.map (·.val) = vs.map (·.2)
  | _, _, .nil => rfl
  | _, _, .cons _ hv t => by rw [List.map_cons, List.map_cons, hv, vals_of t]
theorem kv_vals : ∀ {kvs : List (Key × V)} {vs : List (Key × Value)}, KV kvs vs → Vals (kvs.map (·.2)) (vs.map (·.2)) ∧ kvs.map (·.1) = vs.map (·.1)
  | _, _, .nil => ⟨.nil, rfl⟩
  | _, _, .cons ⟨e, r⟩ t => by
    obtain ⟨h1, h2⟩ := kv_vals t
    exact ⟨.cons r h1, by rw [List.map_cons, List.map_cons, e, h2]⟩
section
variable {X : Cx} {pins : List (Addr × Obj)} {σ : L2.St} {H : Hp} {s : Shared}
mutual
theorem DpX.reads (I : Inv X pins σ H s) (sy : SysD s.heap) : ∀ {d : PyData} {v : V} {u : Value}, DpX X.K H v d → RelV v u → ∃ as, Reads s.heap u d as ∧ sysModules ∉ as
  | _, _, _, .non, r => by
    cases r
    exact ⟨_, Reads.none, List.not_mem_nil⟩
  | _, _, _, .bl b, r => by
    cases r
    exact ⟨_, Reads.bool b, List.not_mem_nil⟩
  | _, _, _, .int i, r => by
    obtain ⟨t, rfl⟩ := r
    exact ⟨_, Reads.int i t, List.not_mem_nil⟩
  | _, _, _, .str z, r => by
    obtain ⟨t, rfl⟩ := r
    exact ⟨_, Reads.str z t, List.not_mem_nil⟩
  | _, _, _, .lst hs ha, r => by
    cases r
    obtain ⟨its, rv, ⟨o, n, ho, hc, _, hd⟩, _⟩ := I.list hs
    obtain ⟨as, hr, na⟩ := DpXA.reads I sy ha rv
    refine ⟨_, Reads.list ho hc hd hr, fun m => ?_⟩
    rcases List.mem_cons.mp m with e | m
    · obtain ⟨o2, h2, c2⟩ := sy
      rw [e, ho] at h2
      obtain rfl := Option.some.inj h2
      rw [hc] at c2
      exact absurd c2 (by decide)
    · exact na m
  | _, _, _, .tup hs ha, r => by
    cases r
    obtain ⟨its, rv, ⟨o, ho, hc, n, hd⟩, _⟩ := I.tuple hs
    obtain ⟨as, hr, na⟩ := DpXA.reads I sy ha rv
    exact ⟨_, Reads.tuple ho hc hd hr, na⟩
  | _, _, _, @DpX.dic _ _ a kvs ds hs ha, r => by
    cases r
    obtain ⟨_, nsy, vs, kv, o, es, ep, ho, ex, hd, _, pr, _⟩ := dk_of I.hok hs
    obtain ⟨rv, ek⟩ := kv_vals kv
    obtain ⟨as, hr, na⟩ := DpXA.reads I sy ha rv
    have lk : (kvs.map fun p => keyD p.1).length = ds.length := by
      have := dpxa_len ha
      rw [List.length_map] at this ⊢
      exact this
    have e1 : (kvs.map fun p => keyD p.1) = vs.map fun p => keyD p.1 := by
      have := congrArg (List.map keyD) ek
      rw [List.map_map, List.map_map] at this
      exact this
    have rk : ReadsAll s.heap (es.toList.map (·.key)) (((kvs.map fun p => keyD p.1).zip ds).map (·.1)) [] := by
      rw [zip_fst lk, e1]
      exact keys_read pr
    have rd : ReadsAll s.heap (es.toList.map (·.val)) (((kvs.map fun p => keyD p.1).zip ds).map (·.2)) as := by
      rw [zip_snd lk, vals_of pr]
      exact hr
    refine ⟨_, Reads.dict ho ex.1 hd rk rd, fun m => ?_⟩
    rcases List.mem_cons.mp m with e | m
    · rw [← e] at nsy
      exact absurd nsy (by decide)
    · exact na m
theorem DpXA.reads (I : Inv X pins σ H s) (sy : SysD s.heap) : ∀ {ds : List PyData} {vs : List V} {us : List Value}, DpXA X.K H vs ds → Vals vs us → ∃ as, ReadsAll s.heap us ds as ∧ sysModules ∉ as
  | _, _, _, .nil, r => by
    cases r
    exact ⟨_, ReadsAll.nil, List.not_mem_nil⟩
  | _, _, _, .cons h1 h2, r => by
    cases r with
    | cons r1 r2 =>
      obtain ⟨as, q1, n1⟩ := DpX.reads I sy h1 r1
      obtain ⟨bs, q2, n2⟩ := DpXA.reads I sy h2 r2
      exact ⟨_, ReadsAll.cons q1 q2, fun m => (List.mem_append.mp m).elim n1 n2⟩
end
theorem sys_of (hs : He.dictB X.K sysModules = true) (I : Inv X pins σ H s) : SysD s.heap := by
  obtain ⟨es, n, sl, e⟩ := He.dictB_ok hs
  exact ⟨_, I.kIn _ _ e, rfl⟩
end
/-! ### repr -/
section
variable {X : Cx}
def rReprX (K : PySem.W.Frag) : List V → Hp → VK → Prop := fun xs H Q => ∃ v d, xs = [v] ∧ DpX K H v d ∧ d.showable = true ∧ d.depth ≤ 50 ∧ d.shown.length ≤ sizeLine ∧ Q (.str d.shown) H
theorem call_reprX (K : PySem.W.Frag) (hs : He.dictB K sysModules = true) (hu : X.A.units + 64 < cLine) (g : X.A.guards = some []) (hK : X.K = K := by rfl) : CallR X (.builtin "repr") (rReprX K) := by
  subst hK
  intro pins s σ H xs us Q I r h
  obtain ⟨v, d, rfl, hd, hsw, hdp, hz, q⟩ := h
  obtain ⟨u, rfl, rv⟩ : ∃ u, us = [u] ∧ RelV v u := by
    cases r with
    | cons r1 r2 => cases r2 with
      | nil => exact ⟨_, rfl, r1⟩
  obtain ⟨as, rd, na⟩ := DpX.reads I (sys_of hs I) hd rv
  have fin : ∀ {a : Addr}, u = .ref a → wpAny (model X.prog X.w) X.A (call (.builtin "repr") [u]) (EP X pins σ Q) X.xe s := by
    rintro a rfl
    exact repr_of_reads' rd hsw (fun _ => na) g (by omega) (fun _ _ e => e) (fun h' t tk hk => ⟨.str _, H, I.kept hk, ⟨_, rfl⟩, q⟩) hz
  cases hd with
  | non =>
    cases rv
    simp only [PyData.shown] at q
    exact PySem.P.repr_of_none ⟨.str _, H, I.tok _, ⟨_, rfl⟩, q⟩
  | bl b =>
    cases rv
    simp only [PyData.shown] at q
    refine PySem.P.repr_of_bool ⟨.str _, H, I.tok _, ⟨_, rfl⟩, ?_⟩
    cases b <;> exact q
  | int i =>
    obtain ⟨t, rfl⟩ := rv
    simp only [PyData.shown] at q
    exact PySem.P.repr_of_int (by simpa [PyData.showable] using hsw) ⟨.str _, H, I.tok _, ⟨_, rfl⟩, q⟩
  | str x =>
    obtain ⟨t, rfl⟩ := rv
    simp only [PyData.shown] at q hz
    exact PySem.P.repr_of_str ⟨.str _, H, I.tok _, ⟨_, rfl⟩, q⟩ hz
  | lst _ _ => exact fin rv
  | tup _ _ => exact fin rv
  | dic _ _ => exact fin rv
end

/-! ### one thing held against another -/
def EqX (K : PySem.W.Frag) (H : Hp) (i x : V) (b : Bool) : Prop :=
  (∃ d e, Dp K H i d ∧ Dp K H x e ∧ SeqAt.shaped d = true ∧ SeqAt.shaped e = true ∧ b = PyData.eqv d e) ∨
  (∃ (a : Addr) (kvs : List (Key × V)) (z : Str), i = .ref a ∧ H a = some (.dK kvs) ∧ x = .str z ∧ b = false) ∨
  ∃ (a : Addr) (kvs : List (Key × V)) (z : Str), x = .ref a ∧ H a = some (.dK kvs) ∧ i = .str z ∧ b = false
section
variable {X : Cx} {pins : List (Addr × Obj)} {σ : L2.St} {H : Hp} {s : Shared}
theorem dict_at (I : Inv X pins σ H s) {a : Addr} {kvs : List (Key × V)} (h : H a = some (.dK kvs)) : DictObj s.heap a := by
  obtain ⟨_, _, vs, kv, o, es, ep, ho, ex, hd, _⟩ := dk_of I.hok h
  exact ⟨o, es, ep, ho, ex.1, hd⟩
theorem EqX.at (I : Inv X pins σ H s) {A : Around} (hu : A.units + 64 < cLine) {i x : V} {b : Bool} {ui ux : Value} (h : EqX X.K H i x b) (ri : RelV i ui) (rx : RelV x ux) : SeqAt.EqAt A s ui ux b := by
  rcases h with ⟨d, e, h1, h2, s1, s2, rfl⟩ | ⟨a, kvs, z, rfl, ha, rfl, rfl⟩ | ⟨a, kvs, z, rfl, ha, rfl, rfl⟩
  · obtain ⟨as, r1⟩ := Dp.reads I d i ui h1 ri
    obtain ⟨bs, r2⟩ := Dp.reads I e x ux h2 rx
    exact SeqAt.eqAt_reads d e A s ui ux as bs r1 r2 (SeqAt.canLay_of_shaped s1) (SeqAt.canLay_of_shaped s2) (SeqAt.room_of_shaped s1 hu)
  · cases ri
    obtain ⟨t, rfl⟩ := rx
    exact eqAt_dict_str z t (dict_at I ha) (by omega)
  · cases rx
    obtain ⟨t, rfl⟩ := ri
    exact eqAt_str_dict z t (dict_at I ha) (by omega)
/-- by which the items answer -/
theorem answers (I : Inv X pins σ H s) {A : Around} (hu : A.units + 64 < cLine) {x : V} {ux : Value} (rx : RelV x ux) : ∀ {xs : List V} {bs : List Bool} {us : List Value}, Paired (fun i b => EqX X.K H i x b) xs bs → Vals xs us →
    ∃ e : Value → Bool, (∀ y ∈ us, SeqAt.EqAt A s y ux (e y)) ∧ us.any e = bs.any id := by
  classical
  have go : ∀ {xs : List V} {bs : List Bool} {us : List Value}, Paired (fun i b => EqX X.K H i x b) xs bs → Vals xs us → Paired (fun u b => SeqAt.EqAt A s u ux b) us bs := by
    intro xs bs us h
    induction h generalizing us with
    | nil =>
      intro r
      cases r
      exact .nil
    | cons h t ih =>
      intro r
      cases r with
      | cons r1 r2 => exact .cons (h.at I hu r1 rx) (ih r2)
  intro xs bs us h r
  have h2 := go h r
  clear h r
  have mem : ∀ {us : List Value} {bs : List Bool}, Paired (fun u b => SeqAt.EqAt A s u ux b) us bs → (∀ y ∈ us, ∃ b, (y, b) ∈ us.zip bs) ∧ (∀ p ∈ us.zip bs, SeqAt.EqAt A s p.1 ux p.2) ∧ ∀ b ∈ bs, ∃ y, (y, b) ∈ us.zip bs := by
    intro us bs h
    induction h with
    | nil => exact ⟨(fun _ z => nomatch z), (fun _ z => nomatch z), (fun _ z => nomatch z)⟩
    | cons h t ih =>
      obtain ⟨i1, i2, i3⟩ := ih
      rw [List.zip_cons_cons]
      refine ⟨fun y hy => ?_, fun p hp => ?_, fun b hb => ?_⟩
      · rcases List.mem_cons.mp hy with rfl | hy
        · exact ⟨_, List.mem_cons_self⟩
        · obtain ⟨b, hb⟩ := i1 y hy
          exact ⟨b, List.mem_cons_of_mem _ hb⟩
      · rcases List.mem_cons.mp hp with rfl | hp
        · exact h
        · exact i2 p hp
      · rcases List.mem_cons.mp hb with rfl | hb
        · exact ⟨_, List.mem_cons_self⟩
        · obtain ⟨y, hy⟩ := i3 b hb
          exact ⟨y, List.mem_cons_of_mem _ hy⟩
  obtain ⟨m1, m2, m3⟩ := mem h2
  refine ⟨fun y => decide ((y, true) ∈ us.zip bs), fun y hy => ?_, ?_⟩
  · show SeqAt.EqAt A s y ux (decide ((y, true) ∈ us.zip bs))
    by_cases c : (y, true) ∈ us.zip bs
    · rw [decide_eq_true c]
      exact m2 _ c
    · rw [decide_eq_false c]
      obtain ⟨b, hb⟩ := m1 y hy
      cases b with
      | true => exact absurd hb c
      | false => exact m2 _ hb
  · rw [Bool.eq_iff_iff, List.any_eq_true, List.any_eq_true]
    constructor
    · rintro ⟨y, hy, e⟩
      exact ⟨true, (List.of_mem_zip (of_decide_eq_true e)).2, rfl⟩
    · rintro ⟨b, hb, e⟩
      obtain rfl : b = true := e
      obtain ⟨y, hy⟩ := m3 true hb
      exact ⟨y, (List.of_mem_zip hy).1, decide_eq_true hy⟩
end
section
variable {X : Cx}
def rInX (K : PySem.W.Frag) (neg : Bool) : R2 := fun x y H Q => ∃ (p : Addr) (xs : List V) (bs : List Bool), y = .ref p ∧ (SqL K H p xs ∨ SqT K H p xs) ∧ Paired (fun i b => EqX K H i x b) xs bs ∧ Q (.bl (if neg then !bs.any id else bs.any id)) H
theorem kInX (K : PySem.W.Frag) (hu : X.A.units + 65 < cLine) (hK : X.K = K := by rfl) : OpR X (compareOp .In) (rInX K false) := by
  subst hK
  intro pins s σ H x y v u Q I rx ry h
  obtain ⟨p, xs, bs, rfl, hs, hp, q⟩ := h
  cases ry
  have hu2 : X.A.in1.units + 64 < cLine := by show X.A.units + 1 + 64 < cLine; omega
  rcases hs with hs | hs
  · obtain ⟨its, rv, ⟨o, n, ho, hc, _, hd⟩, _⟩ := I.list hs
    obtain ⟨e, e1, e2⟩ := answers I hu2 rx hp rv
    exact SeqAt.in_listAt e ⟨o, ho, hc, n, hd⟩ (fun y hy => e1 y (by simpa using hy)) ⟨.bl _, H, I, rfl, by rw [List.any_toArray, e2]; exact q⟩
  · obtain ⟨its, rv, ⟨o, ho, hc, n, hd⟩, _⟩ := I.tuple hs
    obtain ⟨e, e1, e2⟩ := answers I hu2 rx hp rv
    exact SeqAt.in_tupleAt e ⟨o, ho, hc, n, hd⟩ (fun y hy => e1 y (by simpa using hy)) ⟨.bl _, H, I, rfl, by rw [List.any_toArray, e2]; exact q⟩
theorem kNotInX (K : PySem.W.Frag) (hu : X.A.units + 65 < cLine) (hK : X.K = K := by rfl) : OpR X (compareOp .NotIn) (rInX K true) := by
  subst hK
  intro pins s σ H x y v u Q I rx ry h
  obtain ⟨p, xs, bs, rfl, hs, hp, q⟩ := h
  cases ry
  have hu2 : X.A.in1.units + 64 < cLine := by show X.A.units + 1 + 64 < cLine; omega
  rcases hs with hs | hs
  · obtain ⟨its, rv, ⟨o, n, ho, hc, _, hd⟩, _⟩ := I.list hs
    obtain ⟨e, e1, e2⟩ := answers I hu2 rx hp rv
    exact SeqAt.notIn_listAt e ⟨o, ho, hc, n, hd⟩ (fun y hy => e1 y (by simpa using hy)) ⟨.bl _, H, I, rfl, by rw [List.any_toArray, e2]; exact q⟩
  · obtain ⟨its, rv, ⟨o, ho, hc, n, hd⟩, _⟩ := I.tuple hs
    obtain ⟨e, e1, e2⟩ := answers I hu2 rx hp rv
    exact SeqAt.notIn_tupleAt e ⟨o, ho, hc, n, hd⟩ (fun y hy => e1 y (by simpa using hy)) ⟨.bl _, H, I, rfl, by rw [List.any_toArray, e2]; exact q⟩
end
end TB
namespace L3
open PySem PySem.Spec PyProof.Rows L2 TB LamX
/-! ### in the plain layer -/
mutual
def pdX : D → Option PyData
  | .non => some .none
  | .bl b => some (.bool b)
  | .int i => some (.int i)
  | .str z => some (.str z)
  | .lst ds => (pdXL ds).map .list
  | .tup ds => (pdXL ds).map .tuple
  | .dic ks ds => if ks.length = ds.length then (pdXL ds).map fun xs => .dict ((ks.map keyD).zip xs) else none
  | _ => none
def pdXL : List D → Option (List PyData)
  | [] => some []
  | d :: ds => consO (pdX d) (pdXL ds)
end
mutual
theorem pdX_dp {K : PySem.W.Frag} {F H : Hp} (s : Same F H) : ∀ {d : D} {v : V} {x : PyData}, Rp K F d v → pdX d = some x → DpX K H v x
  | .non, v, x, h, e => by
    obtain rfl : PyData.none = x := Option.some.inj e
    obtain rfl : v = .non := h
    exact .non
  | .bl b, v, x, h, e => by
    obtain rfl : PyData.bool b = x := Option.some.inj e
    obtain rfl : v = .bl b := h
    exact .bl b
  | .int b, v, x, h, e => by
    obtain rfl : PyData.int b = x := Option.some.inj e
    obtain rfl : v = .int b := h
    exact .int b
  | .str b, v, x, h, e => by
    obtain rfl : PyData.str b = x := Option.some.inj e
    obtain rfl : v = .str b := h
    exact .str b
  | .lst ds, v, x, h, e => by
    obtain ⟨a, vs, rfl, q, r⟩ := h
    have e : (pdXL ds).map PyData.list = some x := e
    obtain ⟨xs, e2, rfl⟩ := Option.map_eq_some_iff.mp e
    exact .lst (sqL_of (s _ _ q)) (pdXL_dp s r e2)
  | .tup ds, v, x, h, e => by
    obtain ⟨a, vs, rfl, q, r⟩ := h
    have e : (pdXL ds).map PyData.tuple = some x := e
    obtain ⟨xs, e2, rfl⟩ := Option.map_eq_some_iff.mp e
    exact .tup (sqT_mono s q) (pdXL_dp s r e2)
  | .dic ks ds, v, x, h, e => by
    obtain ⟨a, vs, rfl, q, r⟩ := h
    have e : (if ks.length = ds.length then (pdXL ds).map fun xs => PyData.dict ((ks.map keyD).zip xs) else none) = some x := e
    by_cases c : ks.length = ds.length
    · rw [if_pos c] at e
      obtain ⟨xs, e2, rfl⟩ := Option.map_eq_some_iff.mp e
      have lv : ks.length = vs.length := by rw [r.len]; exact c
      have h1 := DpX.dic (K := K) (ds := xs) (s _ _ q) (by rw [zip_snd lv]; exact pdXL_dp s r e2)
      have h2 : ((ks.zip vs).map fun p => keyD p.1) = ks.map keyD := by
        have := congrArg (List.map keyD) (zip_fst lv)
        rw [List.map_map] at this
        exact this
      rw [h2] at h1
      exact h1
    · rw [if_neg c] at e
      exact nomatch e
  | .ty _, v, x, h, e => nomatch e
  | .ins _ _ _, v, x, h, e => nomatch e
  | .op _, v, x, h, e => nomatch e
theorem pdXL_dp {K : PySem.W.Frag} {F H : Hp} (s : Same F H) : ∀ {ds : List D} {vs : List V} {xs : List PyData}, RpL K F ds vs → pdXL ds = some xs → DpXA K H vs xs
  | [], vs, xs, h, e => by
    obtain rfl : [] = xs := Option.some.inj e
    obtain rfl : vs = [] := h
    exact .nil
  | d :: ds, vs, xs, h, e => by
    obtain ⟨v, r, rfl, q, t⟩ := h
    have e : consO (pdX d) (pdXL ds) = some xs := e
    cases e1 : pdX d with
    | none => rw [e1] at e; exact nomatch e
    | some y =>
      cases e2 : pdXL ds with
      | none => rw [e1, e2] at e; exact nomatch e
      | some ys =>
        rw [e1, e2] at e
        obtain rfl : y :: ys = xs := Option.some.inj e
        exact .cons (pdX_dp s q e1) (pdXL_dp s t e2)
end
theorem pdX_rn {K : PySem.W.Frag} {F H : Hp} (s : Same F H) {d : D} {v : V} {x : PyData} (h : Rn K F H d v) (e : pdX d = some x) : DpX K H v x := by
  cases d with
  | lst ds =>
    obtain ⟨a, vs, rfl, q, r⟩ := h
    have e : (pdXL ds).map PyData.list = some x := e
    obtain ⟨xs, e2, rfl⟩ := Option.map_eq_some_iff.mp e
    exact .lst (sqL_of q) (pdXL_dp s r e2)
  | _ => exact pdX_dp s h e
section
variable {X : Sx}
def oReprX : OL := fun as Q => ∃ d x, as = [d] ∧ pdX d = some x ∧ x.showable = true ∧ x.depth ≤ 50 ∧ x.shown.length ≤ sizeLine ∧ Q (.str x.shown)
theorem lc_reprX {K : PySem.W.Frag} (hK : X.K = K) : LiC X (rReprX K) oReprX := by
  intro c hX σ F H ρ xs dxs Q Q3 R rx hq h
  subst hX
  subst hK
  obtain ⟨d, x, rfl, e, h1, h2, h3, q⟩ := h
  obtain ⟨v, t, rfl, rv, et⟩ := rx
  obtain rfl : t = [] := et
  exact ⟨v, x, rfl, pdX_rn R.sub rv e, h1, h2, h3, hq (.str _) _ F H R (Same.refl F) rfl q⟩
theorem w_reprX {d : D} {x : PyData} {F : D → Prop} (e : pdX d = some x) (h1 : x.showable = true) (h2 : x.depth ≤ 50) (h3 : x.shown.length ≤ sizeLine) (h : F (.str x.shown)) : oReprX [d] F := ⟨d, x, rfl, e, h1, h2, h3, h⟩
/-- what i == x answers -/
def eqXD (x i : D) (b : Bool) : Prop := (∃ d e, pd i = some d ∧ pd x = some e ∧ SeqAt.shaped d = true ∧ SeqAt.shaped e = true ∧ b = PyData.eqv d e) ∨ (∃ ks vs z, i = .dic ks vs ∧ x = .str z ∧ b = false) ∨ ∃ ks vs z, x = .dic ks vs ∧ i = .str z ∧ b = false
theorem eqXD_eq {K : PySem.W.Frag} {F H : Hp} (s : Same F H) {x i : D} {vx vi : V} {b : Bool} (hx : Rn K F H x vx) (hi : Rp K F i vi) (h : eqXD x i b) : EqX K H vi vx b := by
  rcases h with ⟨d, e, h1, h2, s1, s2, rfl⟩ | ⟨ks, vs, z, rfl, rfl, rfl⟩ | ⟨ks, vs, z, rfl, rfl, rfl⟩
  · exact Or.inl ⟨d, e, pd_dp s hi h1, pd_rn s hx h2, s1, s2, rfl⟩
  · obtain ⟨a, ws, rfl, q, _⟩ := hi
    exact Or.inr (Or.inl ⟨a, _, z, rfl, s _ _ q, hx, rfl⟩)
  · obtain ⟨a, ws, rfl, q, _⟩ := hx
    exact Or.inr (Or.inr ⟨a, _, z, rfl, s _ _ q, hi, rfl⟩)
def oInX (neg : Bool) : O2 := fun dx dy Q => ∃ (ds : List D) (bs : List Bool), (dy = .lst ds ∨ dy = .tup ds) ∧ Paired (eqXD dx) ds bs ∧ Q (.bl (if neg then !bs.any id else bs.any id))
theorem lr_inX {K : PySem.W.Frag} {neg : Bool} (hK : X.K = K) : LiR X (rInX K neg) (oInX neg) := by
  intro c hX σ F H ρ x y dx dy Q Q3 R rx ry hq h
  subst hX
  subst hK
  obtain ⟨ds, bs, hd, hp, q⟩ := h
  have go : ∀ {ds : List D} {bs : List Bool} {vs : List V}, Paired (eqXD dx) ds bs → RpL c.K F ds vs → Paired (fun i b => EqX c.K H i x b) vs bs := by
    intro ds bs vs h
    induction h generalizing vs with
    | nil =>
      intro r
      obtain rfl : vs = [] := r
      exact .nil
    | cons h t ih =>
      rintro ⟨v, r, rfl, q1, q2⟩
      exact .cons (eqXD_eq R.sub rx q1 h) (ih q2)
  rcases hd with rfl | rfl
  · obtain ⟨p, vs, rfl, hv, r⟩ := ry
    exact ⟨p, vs, bs, rfl, Or.inl (sqL_of hv), go hp r, hq (.bl _) _ F H R (Same.refl F) rfl q⟩
  · obtain ⟨p, vs, rfl, hv, r⟩ := ry
    exact ⟨p, vs, bs, rfl, Or.inr (sqT_mono R.sub hv), go hp r, hq (.bl _) _ F H R (Same.refl F) rfl q⟩
end
end L3
/-! A head that knows the modules' table; {} , insert, join in the plain layer. -/
namespace He
open PySem PySem.Spec PyProof.Rows L2
/-- K with the modules' table -/
def asS (g : Addr → Option Obj) (n : Nat) : List Addr := asD g n ++ [sysModules]
def obsS (n : Nat) (fa : List Fa) (fn : List DefD) (tf : List Defn) (ex : PySem.W.Frag → Bool) (g : Addr → Option Obj) : AlX := (obsT fa fn [] (frT g (asS g n)), ex (frT g (asS g n)) && tabsB g tf (frT g (asS g n)))
theorem says_of {fa : List Fa} {fn : List DefD} {tf : List Defn} {ex : PySem.W.Frag → Bool} {w : World} {h : Heap} {as : List Addr} (e : (obsT fa fn [] (frT h.get? as), ex (frT h.get? as) && tabsB h.get? tf (frT h.get? as)) = valX fn [] w) : SaysX fa fn [] tf ex w h (frT h.get? as) := by
  generalize hK : frT h.get? as = K at e
  have e1 : obsT fa fn [] K = valT fn [] w := congrArg Prod.fst e
  obtain ⟨h1, h2⟩ := ba (show (ex K && tabsB h.get? tf K) = true from congrArg Prod.snd e)
  have tab : ∀ p ∈ tf, PySem.W.codeHdIn K (cT K p).1 (cT K p).2 = true ∧ ∃ o, h.get? (cT K p).2 = some o ∧ emptyTab o = true := by
    intro p hp
    obtain ⟨h3, h4⟩ := ba (List.all_eq_true.mp h2 p hp)
    cases q : h.get? (cT K p).2 with
    | none => rw [q] at h4; exact nomatch h4
    | some o => rw [q] at h4; exact ⟨h3, o, rfl, h4⟩
  refine ⟨e1, h1, fun p hp => (tab p hp).1, fun p hp => ?_, fun p hp => ?_⟩
  · obtain ⟨_, o, q, z⟩ := tab p hp
    rw [← hK] at q ⊢
    exact frT_none q z
  · obtain ⟨_, o, q, z⟩ := tab p hp
    rw [q, emptyTab_eq z]
def hookS (n : Nat) (fa : List Fa) (fn : List DefD) (tf : List Defn) (ex : PySem.W.Frag → Bool) : PySem.W.Hook where
  α := AlX
  obs := fun s => obsS n fa fn tf ex s.heap.get?
  val := fun w => valX fn [] w
  says := fun w h => ∃ K : PySem.W.Frag, K.In h ∧ SaysX fa fn [] tf ex w h K
  of := fun _ _ e => ⟨_, frT_in, says_of e⟩
  keeps := fun _ _ _ ⟨K, hK, c⟩ k => ⟨K, hK.keeps k, c.t, c.more, c.hd, c.out, fun p hp => k _ _ (c.empty p hp)⟩
theorem obsS_eq {n : Nat} {fa : List Fa} {fn : List DefD} {tf : List Defn} {ex : PySem.W.Frag → Bool} {g : Addr → Option Obj} {s : Shared} (h : ∀ a, g a = s.heap.get? a) : obsS n fa fn tf ex g = (hookS n fa fn tf ex).obs s := by
  obtain rfl : g = s.heap.get? := funext h
  rfl
end He
namespace L3
open PySem PySem.Spec PyProof.Rows L2 TB LamX
section
variable {X : Sx} {K : PySem.W.Frag}
def qDNew : QD := fun ρ Q => Q (.dic [] []) ρ
theorem li_dnew : LiD X tDNewK qDNew := by
  intro c hX σ F H ρ Q Q3 R hq h p np
  have s : Same F (upd F p (.dK [])) := fun _ _ e => old_upd (R.fnone np) e
  exact hq (.dic [] []) ρ (.ref p) _ _ (R.alloc np trivial) s ⟨p, [], rfl, upd_same, rfl⟩ h
/-- own.insert(i, y) -/
def rIns : V → List V → Hp → VK → Prop := fun x vs H Q => ∃ (l : Addr) (xs : List V) (i : Int) (y : V), x = .ref l ∧ vs = [.int i, y] ∧ H l = some (.lst xs) ∧ xs.length < sizeLine ∧ 0 ≤ i ∧ i < 2 ^ 63 ∧ Q .non (upd H l (.lst (xs.take i.toNat ++ [y] ++ xs.drop i.toNat)))
theorem mt_insK {Y : Cx} : MtR Y "list.insert" rIns := mt_insert
def qIns (i : Nat) (pe : QE) (py : QD) : QE := fun ρ Q => ownP (fun _ _ => pe ρ fun r ρ1 => isInt (fun k => py ρ1 fun d ρ2 => ownP (fun f ds => ds.length < sizeLine ∧ 0 ≤ k ∧ k < 2 ^ 63 ∧ Q (.val .non) (ρ2.set i (.own f (ds.take k.toNat ++ [d] ++ ds.drop k.toNat)))) ρ2[i]?) r) ρ[i]?
theorem li_ins {i : Nat} {ti ty : TE} {pe : QE} {py : QD} (h1 : LiE X ti pe) (h2 : LiD X ty py) (hK : X.K = K := by rfl) : LiE X (tBM K "list" rIns (tVar i) (tCons ti (tCons ty tNil))) (qIns i pe py) := by
  subst hK
  intro c hX σ F H ρ Q Q3 R hq h
  subst hX
  obtain ⟨f0, ds0, hi0, h⟩ := ownP_is h
  obtain ⟨p, vs0, ep, hF0, hp0, _⟩ := R.slot i _ hi0
  refine ⟨.ref p, ep, Or.inl ⟨rfl, _, sqL_of hp0⟩, ?_⟩
  refine h1 c rfl σ F H ρ _ _ R ?_ h
  intro r ρ1 v F1 H1 R1 s1 rv q1
  obtain ⟨k, rfl, q1⟩ := isInt_is q1
  obtain rfl : v = .int k := rv
  refine h2 c rfl σ F1 H1 ρ1 _ _ R1 ?_ q1
  intro d ρ2 u F2 H2 R2 s2 ru q2
  obtain ⟨f, ds, hi, hz, k0, k1, q⟩ := ownP_is q2
  obtain ⟨p1, vs, ep1, hF, hp, hr, _⟩ := R2.slot i _ hi
  rw [ep] at ep1
  obtain rfl : p = p1 := by injection ep1 with ep1; injection ep1 with ep1; injection ep1
  refine ⟨p, vs, k, u, rfl, rfl, hp, by rw [hr.len]; exact hz, k0, k1, ?_⟩
  exact hq (.val .non) _ .non F2 _ (R2.mutOwn hi ep (((hr.take k.toNat).app (RpL.cons ru RpL.nil)).app (hr.drop k.toNat))) (tr s1 s2) rfl q
/-- sep.join(xs) -/
def qJoin (pa pb : QE) : QE := fun ρ Q => pa ρ fun x ρ1 => ∃ a : Str, x = .val (.str a) ∧ pb ρ1 fun y ρ2 => some1 (fun dy => ∃ ys : List Str, dy = .lst (ys.map D.str) ∧ (ys.map (·.length)).sum + ys.length * a.length ≤ 16777216 ∧ Q (.val (.str (Txt.join a ys))) ρ2) (rdR ρ2 y)
theorem li_join {ta tb : TE} {pa pb : QE} (h1 : LiE X ta pa) (h2 : LiE X tb pb) (hK : X.K = K := by rfl) : LiE X (tM1 (rJoin K) ta tb) (qJoin pa pb) := by
  subst hK
  intro c hX σ F H ρ Q Q3 R hq h
  subst hX
  refine h1 c rfl σ F H ρ _ _ R ?_ h
  rintro x ρ1 v F1 H1 R1 s1 rv ⟨a, rfl, q1⟩
  obtain rfl : v = .str a := rv
  refine ⟨⟨a, rfl⟩, ?_⟩
  refine h2 c rfl σ F1 H1 ρ1 _ _ R1 ?_ q1
  intro y ρ2 u F2 H2 R2 s2 ru q2
  cases e : rdR ρ2 y with
  | none => rw [e] at q2; exact q2.elim
  | some dy =>
    rw [e] at q2
    obtain ⟨ys, rfl, hz, q⟩ := q2
    obtain ⟨p, vs, rfl, hp, hr⟩ := ru.rn R2 e
    obtain rfl := hr.strs
    exact ⟨a, p, ys, rfl, rfl, Or.inl (sqL_of hp), hz, hq (.val (.str _)) _ _ F2 H2 R2 (tr s1 s2) rfl q⟩
theorem w_join {pa pb : QE} {ρ : PSt} {Q : Rv → PSt → Prop} (h : pa ρ fun x ρ1 => ∃ a : Str, x = .val (.str a) ∧ pb ρ1 fun y ρ2 => some1 (fun dy => ∃ ys : List Str, dy = .lst (ys.map D.str) ∧ (ys.map (·.length)).sum + ys.length * a.length ≤ 16777216 ∧ Q (.val (.str (Txt.join a ys))) ρ2) (rdR ρ2 y)) : qJoin pa pb ρ Q := h
theorem w_dnew {ρ : PSt} {Q : D → PSt → Prop} (h : Q (.dic [] []) ρ) : qDNew ρ Q := h
theorem w_ins {i : Nat} {pe : QE} {py : QD} {ρ : PSt} {Q : Rv → PSt → Prop} {f : Bool} {ds : List D} (e : ρ[i]? = some (.own f ds)) (h : pe ρ fun r ρ1 => isInt (fun k => py ρ1 fun d ρ2 => ownP (fun f ds => ds.length < sizeLine ∧ 0 ≤ k ∧ k < 2 ^ 63 ∧ Q (.val .non) (ρ2.set i (.own f (ds.take k.toNat ++ [d] ++ ds.drop k.toNat)))) ρ2[i]?) r) : qIns i pe py ρ Q := by
  show ownP _ ρ[i]?
  rw [e]
  exact h
end
end L3
/-! Things that may be lines. -/
namespace L3
open PySem PySem.Spec PyProof.Rows L2 TB LamX
/-- signs as they are -/
def Sg (z : Str) : Prop := z.length ≤ 100 ∧ ∀ c ∈ z.cps.toList, c < 1114112
theorem Nm.sg {z : Str} (h : Nm z) : Sg z := by
  refine ⟨?_, fun c hc => ?_⟩
  · have := h.2.1
    rw [show tl z = z.cps.toList from rfl, Array.length_toList] at this
    show z.cps.size ≤ 100
    omega
  · have := (h.2.2 c hc).2
    omega
theorem Sg.len {z : Str} (h : Sg z) : (PyData.str z).shown.length ≤ 1002 := by
  simp only [PyData.shown]
  have e := StrLaws.reprText_len z fun c hc => Nat.lt_of_lt_of_le (h.2 c hc) (by decide)
  have := h.1
  omega
/-- an item of a thing -/
inductive It : D → Prop
  | str {z : Str} : Sg z → It (.str z)
  | non : It .non
  | int {i : Int} : i.natAbs < 10 ^ 12 → It (.int i)
  | bl {b : Bool} : It (.bl b)
  | lst {ws : List Str} : ws.length ≤ 8 → (∀ z ∈ ws, Sg z) → It (.lst (strsD ws))
  | tup {ws : List Str} : ws.length ≤ 8 → (∀ z ∈ ws, Sg z) → It (.tup (strsD ws))
  | dic : It (.dic [] [])
theorem pdX_strs (ws : List Str) : pdXL (strsD ws) = some (ws.map PyData.str) := by
  induction ws with
  | nil => rfl
  | cons z r ih =>
    show consO (pdX (.str z)) (pdXL (strsD r)) = _
    rw [ih]
    rfl
theorem shown_tupG_le {B : Nat} {ds : List PyData} (h : ∀ d ∈ ds, d.shown.length ≤ B) : (PyData.tuple ds).shown.length ≤ ds.length * B + 2 * ds.length + 3 := shown_tuple_le h
theorem It.pd {d : D} (h : It d) : ∃ x, pdX d = some x ∧ x.showable = true ∧ x.depth ≤ 1 ∧ x.shown.length ≤ 9000 := by
  cases h with
  | str h =>
    have := h.len
    exact ⟨_, rfl, by simp only [PyData.showable], by simp [PyData.depth], by omega⟩
  | non => exact ⟨_, rfl, by simp only [PyData.showable], by simp [PyData.depth], by decide +kernel⟩
  | int h =>
    have := TB.shown_int_le h
    refine ⟨_, rfl, ?_, by simp [PyData.depth], by omega⟩
    simp only [PyData.showable, decide_eq_true_eq]
    rename_i i
    have hn : i.natAbs < 2 ^ 64 := by omega
    exact Nat.lt_trans (PySem.Flt.log2_lt_of (by decide) hn) (by decide)
  | @bl b => exact ⟨_, rfl, by simp only [PyData.showable], by simp [PyData.depth], by cases b <;> decide +kernel⟩
  | @lst ws h1 h2 =>
    refine ⟨.list (ws.map .str), by show (pdXL (strsD ws)).map _ = _; rw [pdX_strs]; rfl, ?_, ?_, ?_⟩
    · exact strs_show ws
    · exact strs_depth ws
    · have := shown_list_le (f := PyData.str) (B := 1002) (l := ws) fun x hx => (h2 x hx).len
      omega
  | @tup ws h1 h2 =>
    refine ⟨.tuple (ws.map .str), by show (pdXL (strsD ws)).map _ = _; rw [pdX_strs]; rfl, ?_, ?_, ?_⟩
    · simp only [PyData.showable]
      exact showAll_map fun x _ => by simp only [PyData.showable]
    · simp only [PyData.depth]
      have := depthAll_map (f := PyData.str) (n := 0) (l := ws) fun x _ => by simp only [PyData.depth]; exact Nat.le_refl _
      omega
    · have := shown_tupG_le (B := 1002) (ds := ws.map PyData.str) fun x hx => by
        obtain ⟨z, hz, rfl⟩ := List.mem_map.mp hx
        exact (h2 z hz).len
      rw [List.length_map] at this
      omega
  | dic => exact ⟨.dict [], rfl, by simp only [PyData.showable, PyData.showableKv], by simp [PyData.depth, PyData.depthKv], by decide +kernel⟩

theorem Sg.ok {z : Str} (h : Sg z) : PyData.strOk z = true := by
  unfold PyData.strOk
  rw [Array.all_eq_true_iff_forall_mem]
  intro c hc
  have h1 := h.2 c (Array.mem_toList_iff.mpr hc)
  exact decide_eq_true (by omega)
theorem strs_lay {ws : List Str} (h : ∀ z ∈ ws, Sg z) : PyData.canLayAll0 (ws.map PyData.str) = true := by
  induction ws with
  | nil => simp [PyData.canLayAll0]
  | cons z r ih => simp [PyData.canLayAll0, PyData.canLay0, (h z List.mem_cons_self).ok, ih fun y hy => h y (List.mem_cons_of_mem _ hy)]
theorem sh_strsG {ws : List Str} (h : ∀ z ∈ ws, Sg z) : SeqAt.shaped (dStrs ws) = true := by
  have h2 := strs_depth ws
  unfold SeqAt.shaped
  rw [Bool.and_eq_true, decide_eq_true_eq]
  refine ⟨?_, by omega⟩
  simp only [dStrs, PyData.canLay0]
  exact strs_lay h
theorem w_neStrsG {a b : List Str} {F : D → Prop} (ha : ∀ z ∈ a, Sg z) (hb : ∀ z ∈ b, Sg z) (h : F (.bl (!decide (a = b)))) : oEqD true (.lst (a.map D.str)) (.lst (b.map D.str)) F := ⟨_, _, pd_strs a, pd_strs b, sh_strsG ha, sh_strsG hb, by rw [eqv_strs2]; exact h⟩
theorem sh_flat {x : PyData} (h1 : x.canLay0 = true) (h2 : x.depth ≤ 64) : SeqAt.shaped x = true := by
  unfold SeqAt.shaped
  rw [h1, decide_eq_true h2]
  rfl
/-- a text held against an item -/
theorem It.eq {d : D} (h : It d) {z : Str} (hz : Sg z) : ∃ b, eqXD (.str z) d b ∧ (b = true ↔ d = .str z) := by
  have sz : SeqAt.shaped (PyData.str z) = true := sh_flat (by simp only [PyData.canLay0]; exact hz.ok) (by simp [PyData.depth])
  cases h with
  | @str y h =>
    refine ⟨decide (y = z), Or.inl ⟨.str y, .str z, rfl, rfl, sh_flat (by simp only [PyData.canLay0]; exact h.ok) (by simp [PyData.depth]), sz, ?_⟩, ?_⟩
    · simp only [PyData.eqv]
      rw [beq_str]
    · rw [decide_eq_true_eq]
      exact ⟨fun e => by rw [e], fun e => by injection e⟩
  | non => exact ⟨false, Or.inl ⟨.none, .str z, rfl, rfl, by decide +kernel, sz, by simp only [PyData.eqv]⟩, (fun e => nomatch e), (fun e => nomatch e)⟩
  | @int i h => exact ⟨false, Or.inl ⟨.int i, .str z, rfl, rfl, sh_flat (by simp only [PyData.canLay0]) (by simp [PyData.depth]), sz, by simp only [PyData.eqv]⟩, (fun e => nomatch e), (fun e => nomatch e)⟩
  | @bl b => exact ⟨false, Or.inl ⟨.bool b, .str z, rfl, rfl, sh_flat (by simp only [PyData.canLay0]) (by simp [PyData.depth]), sz, by simp only [PyData.eqv]⟩, (fun e => nomatch e), (fun e => nomatch e)⟩
  | @lst ws h1 h2 => exact ⟨false, Or.inl ⟨dStrs ws, .str z, pd_strs ws, rfl, sh_strsG h2, sz, by simp only [dStrs, PyData.eqv]⟩, (fun e => nomatch e), (fun e => nomatch e)⟩
  | @tup ws h1 h2 =>
    refine ⟨false, Or.inl ⟨.tuple (ws.map .str), .str z, ?_, rfl, sh_flat ?_ ?_, sz, by simp only [PyData.eqv]⟩, (fun e => nomatch e), (fun e => nomatch e)⟩
    · have e1 : (pdL (strsD ws)).map PyData.list = some (dStrs ws) := pd_strs ws
      obtain ⟨xs, e2, e3⟩ := Option.map_eq_some_iff.mp e1
      obtain rfl : xs = ws.map PyData.str := by injection e3
      show (pdL (strsD ws)).map PyData.tuple = _
      rw [e2]
      rfl
    · simp only [PyData.canLay0]
      exact strs_lay h2
    · simp only [PyData.depth]
      have := depthAll_map (f := PyData.str) (n := 0) (l := ws) fun x _ => by simp only [PyData.depth]; exact Nat.le_refl _
      omega
  | dic => exact ⟨false, Or.inr (Or.inl ⟨[], [], z, rfl, rfl, rfl⟩), (fun e => nomatch e), (fun e => nomatch e)⟩
/-- a text among items -/
theorem its_in {z : Str} (hz : Sg z) : ∀ {ds : List D}, (∀ d ∈ ds, It d) → ∃ bs, Paired (eqXD (.str z)) ds bs ∧ (bs.any id = true ↔ D.str z ∈ ds)
  | [], _ => ⟨[], .nil, by simp⟩
  | d :: ds, h => by
    obtain ⟨b, h1, h2⟩ := (h d List.mem_cons_self).eq hz
    obtain ⟨bs, h3, h4⟩ := its_in hz fun e he => h e (List.mem_cons_of_mem _ he)
    refine ⟨b :: bs, .cons h1 h3, ?_⟩
    rw [List.any_cons, Bool.or_eq_true, h4, List.mem_cons]
    exact or_congr (h2.trans ⟨Eq.symm, Eq.symm⟩) Iff.rfl
/-- what is handed to be judged -/
inductive Th : D → Prop
  | lst {ds : List D} : ds.length ≤ 9 → (∀ d ∈ ds, It d) → Th (.lst ds)
  | nest {ws : List Str} : ws.length ≤ 8 → (∀ z ∈ ws, Sg z) → Th (.lst [.lst (strsD ws)])
  | oth {d : D} {t : String} : It d → tyD d = some t → kitB t "list" = some false → Th d
theorem pdX_its : ∀ {ds : List D}, (∀ d ∈ ds, It d) → ∃ xs, pdXL ds = some xs ∧ xs.length = ds.length ∧ (∀ x ∈ xs, x.showable = true ∧ x.depth ≤ 1 ∧ x.shown.length ≤ 9000)
  | [], _ => ⟨[], rfl, rfl, fun _ z => nomatch z⟩
  | d :: ds, h => by
    obtain ⟨x, e, h1, h2, h3⟩ := (h d List.mem_cons_self).pd
    obtain ⟨xs, e2, l, h4⟩ := pdX_its fun e he => h e (List.mem_cons_of_mem _ he)
    refine ⟨x :: xs, by show consO (pdX d) (pdXL ds) = _; rw [e, e2]; rfl, by rw [List.length_cons, List.length_cons, l], fun y hy => ?_⟩
    rcases List.mem_cons.mp hy with rfl | hy
    · exact ⟨h1, h2, h3⟩
    · exact h4 y hy
theorem showAll_of {xs : List PyData} (h : ∀ x ∈ xs, x.showable = true) : PyData.showableAll xs = true := by
  have := showAll_map (f := id) (l := xs) (fun x hx => h x hx)
  rw [List.map_id] at this
  exact this
theorem depthAll_of {n : Nat} {xs : List PyData} (h : ∀ x ∈ xs, x.depth ≤ n) : PyData.depthAll xs ≤ n + 1 := by
  have := depthAll_map (f := id) (n := n) (l := xs) (fun x hx => h x hx)
  rw [List.map_id] at this
  omega
theorem Th.pd {t : D} (h : Th t) : ∃ x, pdX t = some x ∧ x.showable = true ∧ x.depth ≤ 50 ∧ x.shown.length ≤ sizeLine := by
  have big : ∀ {n : Nat}, n ≤ 1000000 → n ≤ sizeLine := fun h => by rw [sizeLine_eq]; omega
  have go : ∀ {ds : List D}, ds.length ≤ 9 → (∀ d ∈ ds, It d) → ∃ x, pdX (.lst ds) = some x ∧ x.showable = true ∧ x.depth ≤ 50 ∧ x.shown.length ≤ sizeLine := by
    intro ds h1 h2
    obtain ⟨xs, e, l, h3⟩ := pdX_its h2
    refine ⟨.list xs, by show (pdXL ds).map _ = _; rw [e]; rfl, ?_, ?_, big ?_⟩
    · simp only [PyData.showable]
      exact showAll_of fun x hx => (h3 x hx).1
    · simp only [PyData.depth]
      have := depthAll_of (n := 1) fun x hx => (h3 x hx).2.1
      omega
    · have h4 := shown_listG_le (B := 9000) (ds := xs) fun x hx => (h3 x hx).2.2
      have h5 : xs.length * 9000 ≤ 9 * 9000 := Nat.mul_le_mul_right _ (by omega)
      omega
  cases h with
  | lst h1 h2 => exact go h1 h2
  | @nest ws h1 h2 => exact go (ds := [.lst (strsD ws)]) (by show 1 ≤ 9; decide) (fun d hd => by rw [List.mem_singleton.mp hd]; exact .lst h1 h2)
  | oth h1 _ _ =>
    obtain ⟨x, e, h2, h3, h4⟩ := h1.pd
    exact ⟨x, e, h2, by omega, big (by omega)⟩

/-! ### lines -/
theorem perm_sub {α : Type} : ∀ {l1 l2 : List α}, l1.Nodup → (∀ x ∈ l1, x ∈ l2) → l2.length ≤ l1.length → l2.Perm l1
  | [], l2, _, _, h => by
    rw [List.eq_nil_of_length_eq_zero (Nat.le_zero.mp h)]
  | x :: r, l2, nd, h, hl => by
    obtain ⟨n1, n2⟩ := List.nodup_cons.mp nd
    obtain ⟨a, b, rfl⟩ := List.append_of_mem (h x List.mem_cons_self)
    have p1 : (a ++ x :: b).Perm (x :: (a ++ b)) := List.perm_middle
    refine p1.trans (List.Perm.cons x (perm_sub n2 (fun y hy => ?_) ?_))
    · have := h y (List.mem_cons_of_mem _ hy)
      rcases List.mem_append.mp this with m | m
      · exact List.mem_append_left _ m
      · rcases List.mem_cons.mp m with rfl | m
        · exact absurd hy n1
        · exact List.mem_append_right _ m
    · rw [List.length_append, List.length_cons] at hl
      rw [List.length_cons] at hl
      rw [List.length_append]
      omega
def unS : D → Str
  | .str z => z
  | _ => Str.empty
theorem str_injD {a b : Str} (h : D.str a = D.str b) : a = b := by injection h
theorem its_line {ls : List Str} {ds : List D} (nd : ls.Nodup) (hl : ds.length = ls.length) (h : ∀ z ∈ ls, D.str z ∈ ds) : ∃ line, ds = strsD line ∧ line.Perm ls := by
  have nd2 : (ls.map D.str).Nodup := by
    refine List.pairwise_map.mpr (nd.imp fun {a b} h e => h (str_injD e))
  have pm : ds.Perm (ls.map D.str) := perm_sub nd2 (fun x hx => by
    obtain ⟨z, hz, rfl⟩ := List.mem_map.mp hx
    exact h z hz) (by rw [List.length_map]; omega)
  refine ⟨ds.map unS, ?_, ?_⟩
  · show ds = (ds.map unS).map D.str
    rw [List.map_map]
    conv => lhs; rw [← List.map_id ds]
    refine List.map_congr_left fun d hd => ?_
    obtain ⟨z, _, rfl⟩ := List.mem_map.mp (pm.mem_iff.mp hd)
    rfl
  · have := pm.map unS
    rw [List.map_map, show (unS ∘ D.str) = id from rfl, List.map_id] at this
    exact this
theorem strsD_inj {a b : List Str} (h : strsD a = strsD b) : a = b := by
  have := congrArg (List.map unS) h
  rw [List.map_map, List.map_map, show (unS ∘ D.str) = id from rfl, List.map_id, List.map_id] at this
  exact this
theorem take_ix {line : List Str} (nd : line.Nodup) {a : Str} (ha : a ∈ line) (i : Nat) : a ∈ line.take i ↔ ixS line a < i := by
  obtain ⟨h1, h2⟩ := ixS_at ha
  obtain ⟨hl, e⟩ := List.getElem?_eq_some_iff.mp h1
  constructor
  · intro m
    obtain ⟨j, hj, e2⟩ := List.mem_iff_getElem.mp m
    rw [List.length_take] at hj
    rw [List.getElem_take] at e2
    have : j = ixS line a := (List.getElem_inj nd).mp (e2.trans e.symm)
    omega
  · intro hi
    refine List.mem_iff_getElem.mpr ⟨ixS line a, by rw [List.length_take]; omega, ?_⟩
    rw [List.getElem_take]
    exact e
theorem line_ix {ls line : List Str} {qs : List Pr} (nd : ls.Nodup) (pm : line.Perm ls) (mem : ∀ p ∈ qs, p.1 ∈ ls ∧ p.2 ∈ ls) : LineP ls qs line ↔ ∀ p ∈ qs, ixS line p.1 < ixS line p.2 := by
  have ndl : line.Nodup := pm.nodup_iff.mpr nd
  constructor
  · intro h p hp
    obtain ⟨m1, m2⟩ := mem p hp
    have := h.free _ _ (ixS_at (pm.mem_iff.mpr m2)).1
    exact (take_ix ndl (pm.mem_iff.mpr m1) _).mp (freeB_iff.mp this p.1 hp)
  · intro h
    refine ⟨pm, fun i z e => freeB_iff.mpr fun a ha => ?_⟩
    obtain ⟨m1, m2⟩ := mem _ ha
    have hz : ixS line z = i := by
      obtain ⟨hl, e1⟩ := List.getElem?_eq_some_iff.mp e
      rw [← e1]
      exact ixS_get ndl hl
    refine (take_ix ndl (pm.mem_iff.mpr m1) i).mpr ?_
    have := h _ ha
    rw [← hz]
    exact this
theorem LineP.same {ls line : List Str} {ps qs : List Pr} (h : ∀ z, z ∈ ps ↔ z ∈ qs) (l : LineP ls ps line) : LineP ls qs line := ⟨l.pm, fun i z e => by rw [← freeB_same h]; exact l.free i z e⟩
/-- grown by any that may stand -/
structure GA (ls : List Str) (qs : List Pr) (fs : List Str) : Prop where
  nd : fs.Nodup
  mem : ∀ z ∈ fs, z ∈ ls
  pre : PreOk qs fs
theorem GA.nil {ls : List Str} {qs : List Pr} : GA ls qs [] := ⟨List.nodup_nil, (fun _ z => nomatch z), fun i z e => by simp at e⟩
theorem GA.snoc {ls : List Str} {qs : List Pr} {fs : List Str} {z : Str} (g : GA ls qs fs) (h : z ∈ nextL ls qs fs) : GA ls qs (fs ++ [z]) := by
  unfold nextL at h
  obtain ⟨h1, h2⟩ := List.mem_filter.mp h
  obtain ⟨h3, h4⟩ := Bool.and_eq_true_iff.mp h2
  have h5 : z ∉ fs := by simpa using h3
  refine ⟨?_, fun y hy => ?_, snoc_free g.pre h4⟩
  · rw [List.nodup_append]
    exact ⟨g.nd, by simp, fun a ha b hb e => h5 (by rw [← List.mem_singleton.mp hb, ← e]; exact ha)⟩
  · rcases List.mem_append.mp hy with m | m
    · exact g.mem y m
    · rw [List.mem_singleton.mp m]
      exact h1
theorem GA.line {ls : List Str} {qs : List Pr} {fs : List Str} (g : GA ls qs fs) (nd : ls.Nodup) (hl : ls.length ≤ fs.length) : LineP ls qs fs := ⟨(perm_sub g.nd g.mem hl).symm, g.pre⟩
/-- told is whether it is a line -/
def IsLn (ls : List Str) (qs : List Pr) (t : D) : Prop := ∃ line, t = .lst (strsD line) ∧ LineP ls qs line
theorem IsLn.same {ls : List Str} {ps qs : List Pr} {t : D} (h : ∀ z, z ∈ ps ↔ z ∈ qs) : IsLn ls ps t ↔ IsLn ls qs t := ⟨fun ⟨l, e, q⟩ => ⟨l, e, q.same h⟩, fun ⟨l, e, q⟩ => ⟨l, e, q.same fun z => (h z).symm⟩⟩
def pDue37 : PSp := fun ds Q => ∃ (ls : List Str) (qs : List Pr) (t : D), ds = [.lst (strsD ls), .lst (qs.map prD), t] ∧ ls.Nodup ∧ (∀ z ∈ ls, Nm z) ∧ ls.length ≤ 7 ∧ (∀ p ∈ qs, p.1 ∈ ls ∧ p.2 ∈ ls) ∧ qs.length ≤ 300 ∧ Th t ∧ ∀ b : Bool, (b = true ↔ IsLn ls qs t) → Q (.val (.bl b)) none
def pIsLX (C : Addr) : PSp := fun ds Q => ∃ (ls : List Str) (ps : List Pr) (t : D), ds = [ordD C ls ps, t] ∧ OrdOk ls ps ∧ ls.length ≤ 7 ∧ Th t ∧ ∀ b : Bool, (b = true ↔ IsLn ls ps t) → Q (.val (.bl b)) none
def pGrown : PSp := fun ds Q => ∃ (ls : List Str) (qs : List Pr), ds = [.lst (strsD ls), .lst (qs.map prD)] ∧ ls.Nodup ∧ ls.length ≤ 7 ∧ LP ls qs ∧ qs.length ≤ 300 ∧ ∀ line, LineP ls qs line → Q (.new (strsD line)) none
def pSpoilt : PSp := fun ds Q => ∃ (ls line : List Str), ds = [potD, .lst (strsD ls), .lst (strsD line)] ∧ (∀ z ∈ line, Nm z) ∧ 1 ≤ line.length ∧ line.length ≤ 7 ∧ (∀ ds, Th (.lst ds) → Q (.new ds) none) ∧ ∀ t, Th t → Q (.val t) none
theorem Th.cases {t : D} (h : Th t) : (∃ ds, t = .lst ds ∧ ds.length ≤ 9 ∧ ∀ d ∈ ds, It d) ∨ ∃ ty, tyD t = some ty ∧ kitB ty "list" = some false ∧ ∀ ds, t ≠ .lst ds := by
  cases h with
  | lst h1 h2 => exact Or.inl ⟨_, rfl, h1, h2⟩
  | @nest ws h1 h2 => exact Or.inl ⟨_, rfl, (by show 1 ≤ 9; decide), fun d hd => by rw [List.mem_singleton.mp hd]; exact .lst h1 h2⟩
  | @oth d ty h1 h2 h3 =>
    refine Or.inr ⟨ty, h2, h3, fun ds e => ?_⟩
    subst e
    obtain rfl : "list" = ty := Option.some.inj h2
    exact absurd h3 (by decide +kernel)
theorem It.ty {d : D} (h : It d) : ∃ ty b, tyD d = some ty ∧ kitB ty "str" = some b ∧ (b = true ↔ ∃ z, d = .str z) := by
  cases h with
  | @str z h => exact ⟨_, true, rfl, by decide +kernel, fun _ => ⟨z, rfl⟩, fun _ => rfl⟩
  | non => exact ⟨_, false, rfl, by decide +kernel, (fun e => nomatch e), fun ⟨z, e⟩ => nomatch e⟩
  | int _ => exact ⟨_, false, rfl, by decide +kernel, (fun e => nomatch e), fun ⟨z, e⟩ => nomatch e⟩
  | bl => exact ⟨_, false, rfl, by decide +kernel, (fun e => nomatch e), fun ⟨z, e⟩ => nomatch e⟩
  | lst _ _ => exact ⟨_, false, rfl, by decide +kernel, (fun e => nomatch e), fun ⟨z, e⟩ => nomatch e⟩
  | tup _ _ => exact ⟨_, false, rfl, by decide +kernel, (fun e => nomatch e), fun ⟨z, e⟩ => nomatch e⟩
  | dic => exact ⟨_, false, rfl, by decide +kernel, (fun e => nomatch e), fun ⟨z, e⟩ => nomatch e⟩
theorem all_strs : ∀ {ds : List D}, (∀ d ∈ ds, ∃ z, d = .str z) → ∃ ws, ds = strsD ws
  | [], _ => ⟨[], rfl⟩
  | d :: ds, h => by
    obtain ⟨z, rfl⟩ := h d List.mem_cons_self
    obtain ⟨ws, rfl⟩ := all_strs fun e he => h e (List.mem_cons_of_mem _ he)
    exact ⟨z :: ws, rfl⟩
theorem LcP_mapI {ds : List D} {g : QG} {pt : QT} {pe : QD} {vs : List Nat} {ρ0 : PSt} {Q : List D → PSt → Prop} (f : D → D) (hz : ds.length < sizeLine)
    (hs : ∀ d ∈ ds, ∀ (Y : D → PSt → Prop) (N : PSt → Prop), (∀ ρ4, backP ρ0 ρ4 vs = ρ0 → Y (f d) ρ4) → g d (wipeP ρ0 vs) fun ρ2 => pt ρ2 fun b ρ3 => if b = true then pe ρ3 Y else N ρ3) (hq : Q (ds.map f) ρ0) : LcP ds g pt pe vs ρ0 Q := by
  have h := LcP_map (xs := ds) (enc := id) (g := g) (pt := pt) (pe := pe) (vs := vs) (ρ0 := ρ0) (Q := Q) f hz hs hq
  rw [List.map_id] at h
  exact h
/-- x, y, z = .., .., .. -/
def sPar3 (i j l : Nat) (pa : QAD) : QS := fun P ρ => pa ρ fun ds ρ1 => ∃ d e u, ds = [d, e, u] ∧ P.nx (((ρ1.set i (.val d)).set j (.val e)).set l (.val u))
theorem ls_par3 {X : Sx} {i j l : Nat} {ta : TA} {pa : QAD} (h1 : LiAD X ta pa) : LiS X (tPar3 i j l ta) (sPar3 i j l pa) := by
  intro c hX σ F H ρ D P R a h
  refine h1 c hX σ F H ρ _ _ R ?_ h
  rintro ds ρ' vs F' H' R' s rv ⟨d, e, u, rfl, q⟩
  obtain ⟨v, t, rfl, r1, w, t2, rfl, r2, x, t3, rfl, r3, r4⟩ := rv
  obtain rfl : t3 = [] := r4
  exact ⟨v, w, x, rfl, a.nx _ F' H' _ (((R'.setVal r1).setVal r2).setVal r3) s q⟩
theorem w_par3 {i j l : Nat} {pa : QAD} {P : PEnds} {ρ : PSt} (h : pa ρ fun ds ρ1 => ∃ d e u, ds = [d, e, u] ∧ P.nx (((ρ1.set i (.val d)).set j (.val e)).set l (.val u))) : sPar3 i j l pa P ρ := h
end L3
namespace L3
open PySem PySem.Spec PyProof.Rows L2 TB LamX
theorem joinL_mem : ∀ {xss : List (List Nat)} {c : Nat}, c ∈ TL.joinL [] xss → ∃ xs ∈ xss, c ∈ xs
  | [], c, h => nomatch h
  | [x], c, h => ⟨x, List.mem_singleton.mpr rfl, h⟩
  | x :: y :: r, c, h => by
    have h2 : c ∈ x ++ TL.joinL [] (y :: r) := h
    rcases List.mem_append.mp h2 with m | m
    · exact ⟨x, List.mem_cons_self, m⟩
    · obtain ⟨xs, h3, h4⟩ := joinL_mem m
      exact ⟨xs, List.mem_cons_of_mem _ h3, h4⟩
theorem joinL_len {n : Nat} : ∀ {xss : List (List Nat)}, (∀ xs ∈ xss, xs.length ≤ n) → (TL.joinL [] xss).length ≤ xss.length * n
  | [], _ => Nat.zero_le _
  | [x], h => by
    have := h x List.mem_cons_self
    show x.length ≤ 1 * n
    omega
  | x :: y :: r, h => by
    have h1 := h x List.mem_cons_self
    have h2 := joinL_len (n := n) (xss := y :: r) fun xs hx => h xs (List.mem_cons_of_mem _ hx)
    show (x ++ TL.joinL [] (y :: r)).length ≤ _
    rw [List.length_append]
    rw [show (x :: y :: r).length * n = n + (y :: r).length * n by rw [List.length_cons, Nat.succ_mul]; omega]
    omega
theorem join_sg {line : List Str} (nm : ∀ z ∈ line, Nm z) (l7 : line.length ≤ 7) : Sg (Txt.join "" line) := by
  have e : (Txt.join "" line).cps.toList = TL.joinL [] (line.map fun z => z.cps.toList) := (congrArg TL.tl (TL.join_eq "" line)).trans (TL.tl_join "" line)
  refine ⟨?_, fun c hc => ?_⟩
  · have h1 := joinL_len (n := 8) (xss := line.map fun z => z.cps.toList) fun xs hx => by
      obtain ⟨z, hz, rfl⟩ := List.mem_map.mp hx
      exact (nm z hz).2.1
    rw [← e, Array.length_toList, List.length_map] at h1
    show (Txt.join "" line).cps.size ≤ 100
    omega
  · rw [e] at hc
    obtain ⟨xs, hx, hc⟩ := joinL_mem hc
    obtain ⟨z, hz, rfl⟩ := List.mem_map.mp hx
    exact (Nm.sg (nm z hz)).2 c hc
theorem join_fit {line : List Str} (nm : ∀ z ∈ line, Nm z) (l7 : line.length ≤ 7) : (line.map (·.length)).sum + line.length * ("" : Str).length ≤ 16777216 := by
  have h : ∀ l : List Str, (∀ z ∈ l, Nm z) → (l.map (·.length)).sum ≤ l.length * 8 := by
    intro l hl
    induction l with
    | nil => exact Nat.zero_le _
    | cons z r ih =>
      have h1 := ih fun y hy => hl y (List.mem_cons_of_mem _ hy)
      have h2 : z.length ≤ 8 := by
        have := (hl z List.mem_cons_self).2.1
        rw [show tl z = z.cps.toList from rfl, Array.length_toList] at this
        exact this
      rw [List.map_cons, List.sum_cons, List.length_cons]
      omega
  have h1 := h line nm
  have h2 : ("" : Str).length = 0 := rfl
  rw [h2]
  omega
theorem sgQ {z : Str} (h : Nm z) : Sg (z ++ Str.ofString "Q") := by
  have e : (z ++ Str.ofString "Q").cps = z.cps ++ #[81] := rfl
  have h2 := Nm.sg h
  have h8 := h.2.1
  rw [show tl z = z.cps.toList from rfl, Array.length_toList] at h8
  refine ⟨?_, fun c hc => ?_⟩
  · show (z ++ Str.ofString "Q").cps.size ≤ 100
    rw [e, Array.size_append]
    show z.cps.size + 1 ≤ 100
    omega
  · rw [e, Array.toList_append] at hc
    rcases List.mem_append.mp hc with m | m
    · exact h2.2 c m
    · rw [List.mem_singleton.mp m]
      decide
/-- items of a list that are items -/
theorem it_sub {ds es : List D} (h : ∀ d ∈ ds, It d) (s : ∀ d ∈ es, d ∈ ds) : ∀ d ∈ es, It d := fun d hd => h d (s d hd)
theorem its_strs {line : List Str} (nm : ∀ z ∈ line, Nm z) : ∀ d ∈ strsD line, It d := fun d hd => by
  obtain ⟨z, hz, rfl⟩ := List.mem_map.mp hd
  exact .str (Nm.sg (nm z hz))
theorem its_set {ds : List D} {d : D} (n : Nat) (h : ∀ e ∈ ds, It e) (hd : It d) : ∀ e ∈ ds.set n d, It e := fun e he => by
  rcases List.mem_or_eq_of_mem_set he with m | rfl
  · exact h e m
  · exact hd
theorem seq_at {n j : Nat} (h : j < n) : seqIndex? (j : Int) n = some j := by
  unfold seqIndex?
  have h1 : ¬ ((j : Int) < 0) := by omega
  simp only [if_neg h1]
  rw [if_pos (by simp; omega), Int.toNat_natCast]
end L3
open TB in
local macro_rules | `(tactic| walk_at "s") => `(tactic| first
  | with_reducible refine st_seq ?_
  | with_reducible refine st_asg ?_
  | with_reducible refine st_name ?_
  | ((with_reducible refine st_var (v := ?v) ?e ?_); (case e => exact rfl))
  | with_reducible refine st_c ?_
  | with_reducible refine st_op ?_
  | with_reducible refine st_cons ?_
  | with_reducible refine st_nil ?_
  | with_reducible refine st_cb ?_
  | with_reducible refine st_call ?_
  | with_reducible refine st_I0 ?_
  | with_reducible refine st_test ?_
  | with_reducible refine st_bl ?_
  | with_reducible refine st_ifs ?_
  | with_reducible refine st_if ?_
  | with_reducible refine st_ret ?_
  | with_reducible refine st_drop ?_
  | with_reducible refine st_next ?_
  | with_reducible refine st_lst ?_
  | with_reducible refine st_tup ?_
  | ((with_reducible refine st_eq ?e ?_); (case e => exact rfl))
  | ((with_reducible refine st_ne ?e ?_); (case e => exact rfl))
  | with_reducible refine st_not ?_
  | with_reducible refine st_and ?_
  | with_reducible refine st_or ?_
  | with_reducible refine st_tb ?_
  | with_reducible refine st_yes ?_
  | with_reducible refine st_un ?_
  | with_reducible refine st_sl ?_
  | with_reducible refine st_nopart ?_
  | with_reducible refine st_part ?_
  | with_reducible refine st_gcons ?_
  | with_reducible refine st_gnil ?_
  | with_reducible refine st_gsub ?_
  | with_reducible refine st_bm ?_
  | with_reducible refine st_m1 ?_
  | with_reducible refine st_intB ?_
  | with_reducible refine st_for ?_
  | with_reducible refine st_lc ?_
  | with_reducible refine st_rng1 ?_
  | with_reducible refine st_il ?_
  | with_reducible refine st_is ?_
  | with_reducible refine st_ie ?_
  | with_reducible refine st_par ?_
  | ((with_reducible show ∃ i, L2.V.int _ = L2.V.int i ∧ _); refine ⟨_, rfl, ?_⟩)
  | ((with_reducible show (∃ a, L2.V.str _ = L2.V.str a) ∧ _); refine ⟨⟨_, rfl⟩, ?_⟩)
  | ((with_reducible show ∃ v w, [_, _] = [v, w] ∧ _); refine ⟨_, _, rfl, ?_⟩)
  | with_reducible refine st_fld ?_
  | with_reducible refine st_mkK ?_
  | with_reducible refine st_lc2 ?_
  | with_reducible refine st_bmT ?_
  | with_reducible refine st_sortLam ?_
  | with_reducible refine st_itu ?_
  | with_reducible refine st_iany ?_
  | with_reducible refine st_mt ?_
  | with_reducible refine st_mk ?_
  | with_reducible refine st_sfld ?_
  | with_reducible refine st_bm0 ?_
  | with_reducible refine st_revS ?_
  | with_reducible refine st_revL ?_)
local macro_rules | `(tactic| walk_at "ss") => `(tactic| repeat walk_at "s")
open TB L3 in
local macro_rules | `(tactic| walk_at "l1") => `(tactic| first
  | with_reducible exact ls_next
  | with_reducible apply ls_seq
  | with_reducible apply ls_cut
  | with_reducible apply ls_own
  | with_reducible apply ls_may
  | with_reducible apply ls_set
  | with_reducible apply ls_asg
  | with_reducible apply ls_parNN
  | with_reducible apply ls_parVN
  | with_reducible apply ls_tupVN
  | with_reducible apply ls_tupVVN
  | with_reducible apply ls_par
  | with_reducible apply ls_par3
  | with_reducible apply ls_drop
  | with_reducible exact ls_retV
  | with_reducible exact ls_retN
  | ((with_reducible apply ls_retNew); (with_reducible apply li_lst))
  | ((with_reducible apply ls_retNew); (with_reducible apply li_lc))
  | ((with_reducible apply ls_retNew); (with_reducible apply (li_cbN lc_list')))
  | ((with_reducible apply ls_retNew); (with_reducible apply (li_slN lsl_L')))
  | with_reducible apply ls_ret
  | with_reducible apply ls_if
  | with_reducible apply ls_while
  | with_reducible apply ls_for
  | with_reducible exact ls_never
  | with_reducible apply li_snap
  | with_reducible exact li_var
  | with_reducible exact li_cRef
  | with_reducible exact li_c
  | with_reducible apply li_place
  | with_reducible apply li_hand
  | with_reducible apply li_drafts
  | with_reducible apply li_called
  | with_reducible apply li_mkG
  | with_reducible apply li_mkG0
  | with_reducible apply li_own
  | with_reducible apply li_revT
  | with_reducible apply (li_un lu_neg)
  | with_reducible apply (li_isiC (by assumption))
  | ((with_reducible apply li_keep); (with_reducible apply (li_opN lr_rep)))
  | with_reducible apply (li_opN lr_rep)
  | with_reducible apply li_tup
  | ((with_reducible apply li_val); (with_reducible apply li_tup))
  | with_reducible exact li_dnew
  | ((with_reducible apply li_val); (with_reducible exact li_dnew))
  | with_reducible apply li_esc
  | with_reducible apply li_lst
  | ((with_reducible apply li_keep); (with_reducible apply li_lst))
  | with_reducible apply li_lc
  | ((with_reducible apply li_keep); (with_reducible apply li_lc))
  | with_reducible apply li_lc2
  | ((with_reducible apply li_keep); (with_reducible apply li_lc2))
  | with_reducible exact li_nil
  | with_reducible apply li_cons
  | with_reducible exact li_nilD
  | with_reducible apply li_consD
  | with_reducible apply (li_op (lr_inD _))
  | with_reducible apply (li_op lr_isN)
  | with_reducible apply (li_op lr_notO)
  | with_reducible apply (li_op lr_isB)
  | with_reducible apply (li_op lr_notB)
  | with_reducible apply li_rev
  | with_reducible apply li_clear
  | with_reducible apply (li_callD (by assumption))
  | with_reducible apply (li_callDN (by assumption))
  | with_reducible apply (li_callZ (by assumption))
  | with_reducible apply (li_callV (by assumption))
  | with_reducible apply (li_callVN (by assumption))
  | with_reducible apply (li_op lr_I0)
  | with_reducible apply (li_op lr_I)
  | with_reducible apply (li_op lr_eq)
  | with_reducible apply (li_op lr_ne)
  | with_reducible apply (li_op lr_ixL')
  | with_reducible apply (li_op lr_ixT')
  | with_reducible apply (li_op lr_ixS)
  | with_reducible apply (li_op lr_in')
  | with_reducible apply (li_op (lr_inX rfl))
  | with_reducible apply (li_op lr_eqD')
  | with_reducible apply (li_op lr_neD')
  | with_reducible apply (li_op lr_catT')
  | with_reducible apply (li_op lr_catS)
  | ((with_reducible apply li_keep); (with_reducible apply (li_opN lr_catL)))
  | with_reducible apply (li_opN lr_catL)
  | with_reducible apply (li_cb lc_len')
  | with_reducible apply li_scr
  | with_reducible apply (li_cb lc_minIs)
  | with_reducible apply (li_cbN lc_sortW)
  | ((with_reducible apply li_keep); (with_reducible apply (li_cbN lc_sortW)))
  | with_reducible apply li_index
  | with_reducible apply li_ins
  | with_reducible apply li_join
  | with_reducible apply li_rgN
  | with_reducible apply li_zipN
  | ((with_reducible apply li_keep); (with_reducible apply li_rgN))
  | ((with_reducible apply li_keep); (with_reducible apply li_zipN))
  | with_reducible apply (li_cb lc_max)
  | with_reducible apply (li_cb lc_min)
  | with_reducible apply (li_cb lc_int)
  | with_reducible apply (li_cb lc_isStr)
  | with_reducible apply (li_cb lc_isi)
  | with_reducible apply (li_cb lc_all')
  | with_reducible apply (li_cb lc_any')
  | with_reducible apply (li_cb lc_tuple')
  | with_reducible apply (li_cb lc_repr')
  | with_reducible apply (li_cb (lc_reprX rfl))
  | with_reducible apply (li_cbN lc_list')
  | ((with_reducible apply li_keep); (with_reducible apply (li_cbN lc_list')))
  | with_reducible apply (li_cbN lc_sortS')
  | with_reducible apply (li_cbN lc_sortI)
  | ((with_reducible apply li_keep); (with_reducible apply (li_cbN lc_sortS')))
  | ((with_reducible apply li_keep); (with_reducible apply (li_cbN lc_sortI)))
  | with_reducible apply li_test
  | with_reducible apply li_tB
  | with_reducible apply li_and
  | with_reducible apply li_or
  | with_reducible apply li_not
  | with_reducible exact li_yes
  | with_reducible apply li_if
  | with_reducible apply li_andV
  | with_reducible apply li_orV
  | with_reducible apply li_notV
  | with_reducible exact li_nopart
  | with_reducible apply li_part
  | with_reducible apply (li_sl lsl_T')
  | with_reducible apply (li_slN lsl_L')
  | ((with_reducible apply li_keep); (with_reducible apply (li_slN lsl_L')))
  | with_reducible apply lii_list'
  | with_reducible apply lii_tup'
  | with_reducible apply lii_enum'
  | with_reducible apply lii_rng1
  | with_reducible apply lii_revR
  | with_reducible apply lii_enA
  | with_reducible apply lii_any
  | with_reducible apply lii_rng2
  | with_reducible apply lii_str
  | with_reducible exact lg_name
  | with_reducible apply lg_sub
  | with_reducible apply lg_tup'
  | with_reducible apply lg_unl'
  | with_reducible exact lg_nil
  | with_reducible apply lg_cons
  | with_reducible apply li_io
  | with_reducible apply li_callN
  | with_reducible apply li_call
  | with_reducible apply li_methN'
  | with_reducible apply li_meth'
  | with_reducible apply li_append'
  | with_reducible apply li_extend'
  | with_reducible exact li_pop'
  | with_reducible apply li_popAt'
  | with_reducible apply li_mkOrd2
  | ((with_reducible apply li_mkOrd); (first | assumption | skip))
  | exact rfl
  | assumption
  | decide)
local macro_rules | `(tactic| walk_at "li") => `(tactic| repeat' (walk_at "l1"))
open TB L3 in
local macro_rules | `(tactic| walk_at "p1") => `(tactic| first
  | with_reducible refine w_seq ?_
  | with_reducible refine w_next ?_
  | with_reducible refine w_drop ?_
  | with_reducible refine w_ret ?_
  | with_reducible refine w_retNew ?_
  | ((with_reducible refine w_retV (d := ?d) ?e ?_); (case e => exact rfl))
  | ((with_reducible refine w_retO (ds := ?d) ?e ?_); (case e => exact rfl))
  | with_reducible refine w_retN ?_
  | with_reducible refine w_ifs ?_
  | with_reducible refine w_asg ?_
  | with_reducible refine w_own ?_
  | with_reducible refine w_par ?_
  | with_reducible refine w_par3 ?_
  | ((with_reducible show ∃ d e u : L3.D, [_, _, _] = [d, e, u] ∧ _); refine ⟨_, _, _, rfl, ?_⟩)
  | with_reducible refine w_parNN ?_
  | with_reducible refine w_parVN ?_
  | with_reducible refine w_parVVN ?_
  | with_reducible refine w_for ?_
  | with_reducible refine w_name ?_
  | with_reducible refine w_gnil ?_
  | with_reducible refine w_gcons ?_
  | ((with_reducible refine w_gtup ?e ?_); (case e => exact rfl))
  | ((with_reducible refine w_gunl ?e ?_); (case e => exact rfl))
  | ((with_reducible refine w_var (d := ?d) ?e ?_); (case e => exact rfl))
  | ((with_reducible refine w_varO (ds := ?d) (f := ?f) ?e ?_); (case e => exact rfl))
  | with_reducible refine w_cI ?_
  | with_reducible refine w_cS ?_
  | with_reducible refine w_cB ?_
  | with_reducible refine w_cN ?_
  | with_reducible refine w_esc ?_
  | with_reducible refine w_escV ?_
  | ((with_reducible refine w_escC (ds := ?d) ?e ?_); (case e => exact rfl))
  | with_reducible refine w_keep ?_
  | with_reducible refine w_val ?_
  | with_reducible refine w_nil ?_
  | with_reducible refine w_cons ?_
  | with_reducible refine w_nilD ?_
  | with_reducible refine w_consD ?_
  | with_reducible refine w_lst ?_
  | with_reducible refine w_tup ?_
  | with_reducible refine w_eqOwn ?_
  | ((with_reducible refine w_life ?e ?_); (case e => decide))
  | with_reducible refine w_key ?_
  | with_reducible refine w_fld ?_
  | with_reducible refine w_revT ?_
  | with_reducible refine w_cls ?_
  | with_reducible refine w_mkG ?_
  | with_reducible refine w_op ?_
  | with_reducible refine w_opN ?_
  | with_reducible refine w_un ?_
  | with_reducible refine w_cb ?_
  | with_reducible refine w_cbN ?_
  | ((with_reducible refine w_some2 (x := ?x) (y := ?y) ?e ?e2 ?_); (case e => exact rfl); (case e2 => exact rfl))
  | ((with_reducible refine w_some1 (x := ?x) ?e ?_); (case e => exact rfl))
  | with_reducible refine w_callV ?_
  | with_reducible refine w_callZ ?_
  | with_reducible refine w_may ?_
  | with_reducible refine w_mayN ?_
  | with_reducible refine w_mayS ?_
  | with_reducible refine w_callVN ?_
  | ((with_reducible refine w_andLen ?e ?e2 ?_); (case e => exact rfl); (case e2 => exact rfl))
  | with_reducible refine w_callD ?_
  | with_reducible refine w_callDN ?_
  | with_reducible refine w_isB ?_
  | with_reducible refine w_notB ?_
  | ((with_reducible refine w_isN ?e ?_); (case e => exact rfl))
  | with_reducible refine w_notO1 ?_
  | ((with_reducible refine w_notO2 ?e ?_); (case e => exact rfl))
  | ((with_reducible refine w_notN ?e ?_); (case e => exact rfl))
  | ((with_reducible refine w_rev (ds := ?d) (f := ?f) ?e ?_); (case e => exact rfl))
  | ((with_reducible refine w_clear (ds := ?d) (f := ?f) ?e ?_); (case e => exact rfl))
  | with_reducible refine w_I0 ?_
  | with_reducible refine w_eqS ?_
  | with_reducible refine w_neS ?_
  | with_reducible refine w_neI ?_
  | with_reducible refine w_neB ?_
  | with_reducible refine w_eqI ?_
  | with_reducible refine w_eqB ?_
  | with_reducible refine w_test ?_
  | with_reducible refine w_isBl ?_
  | with_reducible refine w_isInt ?_
  | with_reducible refine w_and ?_
  | with_reducible refine w_or ?_
  | with_reducible refine w_not ?_
  | with_reducible refine w_yes ?_
  | with_reducible refine w_if ?_
  | with_reducible refine w_andV ?_
  | with_reducible refine w_orV ?_
  | with_reducible refine w_notV ?_
  | with_reducible refine w_nopart ?_
  | with_reducible refine w_part ?_
  | with_reducible refine w_sl ?_
  | with_reducible refine w_slN ?_
  | with_reducible refine w_slL ?_
  | with_reducible refine w_slT ?_
  | with_reducible refine w_iseq ?_
  | with_reducible refine w_itup ?_
  | with_reducible refine w_exL ?_
  | with_reducible refine w_exT ?_
  | with_reducible refine w_ienum ?_
  | with_reducible refine w_ienA ?_
  | with_reducible refine w_iany ?_
  | with_reducible refine w_cT ?_
  | with_reducible refine w_isStr ?_
  | with_reducible refine w_isLL ?_
  | with_reducible refine w_isSS ?_
  | with_reducible refine w_exE ?_
  | with_reducible refine w_irng1 ?_
  | with_reducible refine w_lc ?_
  | with_reducible refine w_lc2 ?_
  | with_reducible refine w_call ?_
  | with_reducible refine w_callN ?_
  | with_reducible refine w_callIo ?_
  | ((with_reducible refine w_res ?e ?_); (case e => exact rfl))
  | ((with_reducible refine w_resF ?e ?_); (case e => exact rfl))
  | ((with_reducible refine w_resN ?e ?_); (case e => exact rfl))
  | with_reducible refine w_resNS ?_
  | ((with_reducible refine w_new ?e ?_); (case e => exact rfl))
  | with_reducible refine w_newS ?_
  | with_reducible refine w_meth ?_
  | with_reducible refine w_methN ?_
  | ((with_reducible refine w_ord ?e ?_); (case e => decide))
  | with_reducible refine w_inS ?_
  | with_reducible refine w_inST ?_
  | with_reducible refine w_ninS ?_
  | with_reducible refine w_ninST ?_
  | with_reducible refine w_any ?_
  | with_reducible refine w_eqNilI ?_
  | with_reducible refine w_neNilI ?_
  | with_reducible refine w_snap ?_
  | with_reducible refine w_flatB ?_
  | with_reducible refine w_lenL ?_
  | with_reducible refine w_lenT ?_
  | with_reducible refine w_list ?_
  | with_reducible refine w_listT ?_
  | with_reducible refine w_tuple ?_
  | with_reducible refine w_intB ?_
  | with_reducible refine w_all ?_
  | ((with_reducible refine w_append (ds := ?d) (f := ?f) ?e ?_); (case e => exact rfl))
  | ((with_reducible refine w_extend (ds := ?d) (f := ?f) ?e ?_); (case e => exact rfl))
  | ((with_reducible refine w_popAt (ds := ?d) (f := ?f) ?e ?_); (case e => exact rfl))
  | ((with_reducible refine w_ownP (ds := ?d) (f := ?f) ?e ?_); (case e => exact rfl))
  | with_reducible refine w_mkOrd ?_
  | with_reducible refine w_mkOrd2 ?_
  | with_reducible refine w_mm ?_
  | with_reducible refine w_index ?_
  | ((with_reducible refine w_ins (ds := ?d) (f := ?f) ?e ?_); (case e => exact rfl))
  | with_reducible refine w_join ?_
  | with_reducible refine w_dnew ?_
  | with_reducible refine w_rgN ?_
  | with_reducible refine w_zipN ?_
  | with_reducible refine w_revR ?_
  | ((with_reducible refine w_ilst (ds := ?d) ?e ?_); (case e => exact rfl))
  | with_reducible refine w_lenS ?_
  | with_reducible refine w_gsub ?_
  | ((with_reducible show ∃ d e : L3.D, [_, _] = [d, e] ∧ _); refine ⟨_, _, rfl, ?_⟩)
  | with_reducible refine w_set ?_)
local macro_rules | `(tactic| walk_at "pp") => `(tactic| repeat (walk_at "p1"))
namespace K37
open PySem PySem.Spec PyProof.Rows L2 TB LamX
open C8 (Cal pe_c Mak pe_mk Met pe_mt pe_mt0 pss_cut tCut pe_gc)
def top (i : Nat) : Stmt := PySem.Challenge.pw_turnedback_k37_lines_judged.main.body.getD i (.Pass ⟨0, 0, 0, 0⟩)
abbrev s_Order_want : Stmt := inClass (top 8) 1
theorem sc_Order_want : FnScope ["self", "lock"] ["self", "lock"] (defScope s_Order_want) := ⟨rfl, rfl, rfl, by decide +kernel, rfl, by decide +kernel, by decide +kernel⟩
abbrev s_Order_has : Stmt := inClass (top 8) 4
theorem sc_Order_has : FnScope ["self", "one", "other"] ["self", "one", "other"] (defScope s_Order_has) := ⟨rfl, rfl, rfl, by decide +kernel, rfl, by decide +kernel, by decide +kernel⟩
abbrev s_Order_after : Stmt := inClass (top 8) 5
theorem sc_Order_after : FnScope ["self", "lock", "one", "other"] ["self", "lock"] (defScope s_Order_after) := ⟨rfl, rfl, rfl, by decide +kernel, rfl, by decide +kernel, by decide +kernel⟩
section
variable {P : Program} {w : World} {K : PySem.W.Frag} {mg : Str → Option Value} {base : Heap} {f C : Addr} {fd : FuncData}
theorem ok_Order_want (F : FnM K "want" "Order.want" s_Order_want [] f fd) (T : BltA mg) (oc : OrdC K C) : FnOk P w K mg base CX0 1 f fd ["self", "lock"] (spWant C) := by
  refine F.ok sc_Order_want (fun vs H Q E h => ?_) (fun cdv A outer s H vs Q E hr h => ⟨_, PSs.nox
(pss_one (ps_if (PW.pt (pw_or (pt_not (pt_val (pe_callB call_isStr (by rfl) T.b_isinstance (by decide +kernel) (pa_cons (pv 1) (pa_cons (pe_bltn (v := .ty "str") (u := .type "str") (by rfl) T.b_str (by decide +kernel) rfl) pa_nil))))) (pw_or1 (pt_cmpR (op_ninK K) (pv 1) (kFld K (pe_fld (pv 0) rfl)) rfl))))
    (pss_one ps_never)
    pss_nil))
, ?_⟩)
  · obtain ⟨x, z, ls, ps, rfl, _⟩ := h
    rfl
  · obtain ⟨x, z, ls, ps, rfl, ⟨dx, tl, tp, rs, h1, h2, h3, h4⟩, hz, q⟩ := h
    walk_at "ss"
    refine ⟨z, rfl, ?_⟩
    walk_at "ss"
    refine iteF ?_
    walk_at "ss"
    refine ⟨x, C, dx, _, _, rfl, h1, oc.cls, oc.nl, rfl, ?_⟩
    walk_at "ss"
    refine st_ninT h2.sq ?_
    walk_at "ss"
    rw [decide_eq_true hz]
    refine iteF ?_
    walk_at "ss"
    exact q
theorem ok_Order_has (F : FnM K "has" "Order.has" s_Order_has [] f fd) (T : BltA mg) (oc : OrdC K C) (m_Order_want : Met P w K mg base 1 C "want" (spWant C) []) : FnOk P w K mg base CX0 2 f fd ["self", "one", "other"] (spHas C) := by
  refine fn_fg (sp := fun vs H Q _ => ∃ (x : Addr) (a b : Str) (ls : List Str) (ps : List Pr), vs = [.ref x, .str a, .str b] ∧ OrdAt C H x ls ps ∧ OrdOk ls ps ∧ a ∈ ls ∧ b ∈ ls ∧ NoT H ∧ ∀ H', Same H H' → Q (.bl (decide ((a, b) ∈ ps))) H') ?_ ?_
  · refine F.ok sc_Order_has (fun vs H Q E h => ?_) (fun cdv A outer s H vs Q E hr h => ⟨_, PSs.nox
(pss_cons (ps_expr (pe_mt m_Order_want hr (by decide) (pv 0) (pa_cons (pv 1) pa_nil)))
  (pss_cons (ps_expr (pe_mt m_Order_want hr (by decide) (pv 0) (pa_cons (pv 2) pa_nil)))
  (pss_one (ps_ret (pe_cmpR (op_inP (hu65 hr)) (pe_tup (pa_cons (pv 1) (pa_cons (pv 2) pa_nil))) (kFld K (pe_fld (pv 0) rfl)) rfl)))))
, ?_⟩)
    · obtain ⟨x, a, b, ls, ps, rfl, _⟩ := h
      rfl
    · obtain ⟨x, a, b, ls, ps, rfl, ho, hok, ha, hb, nt, q⟩ := h
      obtain ⟨dx, tl, tp, rs, h1, h2, h3, h4⟩ := id ho
      walk_at "ss"
      refine ⟨x, dx, _, rfl, h1, rfl, ?_⟩
      walk_at "ss"
      refine ⟨x, a, ls, ps, rfl, ho, ha, ?_⟩
      walk_at "ss"
      refine ⟨x, dx, _, rfl, h1, rfl, ?_⟩
      walk_at "ss"
      refine ⟨x, b, ls, ps, rfl, ho, hb, ?_⟩
      walk_at "ss"
      refine ⟨(by show 2 ≤ sizeLine; decide), fun t nt2 => ?_⟩
      walk_at "ss"
      refine ⟨x, C, dx, _, _, rfl, old_upd nt2 h1, oc.cls, oc.np, rfl, ?_⟩
      refine st_inP (p := (a, b)) upd_same (Or.inl (old_upd nt2 h3)) (h4.keep fun c xs e => old_upd nt2 e) ⟨hok.nm a ha, hok.nm b hb⟩ hok.nmp ?_
      exact q _ (fun c o e => old_upd nt2 e)
  · rintro vs H Q E ⟨x, a, b, ls, ps, rfl, ho, hok, ha, hb, nt, q⟩
    exact ⟨x, a, b, ls, ps, rfl, ho, hok, ha, hb, nt, fun H' sm => ⟨H, Fg.back sm nt, q⟩⟩
theorem ok_Order_after (F : FnM K "after" "Order.after" s_Order_after [] f fd) (T : BltA mg) (oc : OrdC K C) : FnOk P w K mg base CX0 1 f fd ["self", "lock"] (spAfter C) := by
  refine F.ok sc_Order_after (fun vs H Q E h => ?_) (fun cdv A outer s H vs Q E hr h => ⟨_, PSs.nox
(pss_one (ps_ret (pe_lc (own := [("one", 2), ("other", 3)]) rfl sc_Order_after.nd (kPT K (pi_tup (kFld K (pe_fld (pv 0) rfl)))) (blkOk_by (N := ["self", "lock", "one", "other"]) (sc := defScope s_Order_after) (by decide +kernel)) (fun _ _ _ _ _ => kTup K 2 (pg_tup rfl (pgs_cons (pg_name (i := 2) sc_Order_after.nd rfl (Or.inl rfl)) (pgs_cons (pg_name (i := 3) sc_Order_after.nd rfl (Or.inl rfl)) pgs_nil)))) (fun _ _ _ _ _ => pts_one (pt_cmpR op_eq (pv 2) (pv 1) (nomark _))) (fun _ _ _ _ _ => (pv 3)))))
, ?_⟩)
  · obtain ⟨x, z, ls, ps, rfl, _⟩ := h
    rfl
  · obtain ⟨x, z, ls, ps, rfl, ⟨dx, tl, tp, rs, h1, h2, h3, h4⟩, hok, q⟩ := h
    walk_at "ss"
    refine ⟨x, C, dx, _, _, rfl, h1, oc.cls, oc.np, rfl, ?_⟩
    walk_at "ss"
    have pl := hok.plen
    have er : rs.filterMap (fun v => if (decP H v).1 = z then some (V.str (decP H v).2) else none) = (afterP ps z).map V.str := by
      unfold afterP
      rw [h4.dec, List.filterMap_map, List.map_filterMap]
      refine fm_congr (fun v _ => ?_)
      show _ = Option.map V.str (if (decP H v).1 = z then some (decP H v).2 else none)
      by_cases c : (decP H v).1 = z
      · rw [if_pos c, if_pos c]
        rfl
      · rw [if_neg c, if_neg c]
        rfl
    refine ⟨tp, rfl, ⟨rs, sqT_of h3⟩, ?_⟩
    have hz : rs.length < sizeLine := by
      rw [h4.len, sizeLine_eq]
      omega
    refine lc_pure (fun v => if (decP H v).1 = z then some (V.str (decP H v).2) else none) wk_tup (fun D acc nD => sqT_of (old_upd nD h3)) ?_ ?_
    · intro D i v acc nD hv ha
      obtain ⟨t, rfl, _, ht⟩ := h4.mem v (List.mem_of_getElem? hv)
      refine st_gtup (sqT_of (old_upd nD ht)) rfl ?_
      walk_at "ss"
      refine ⟨rfl, ?_⟩
      walk_at "ss"
      by_cases c : (decP H (.ref t)).1 = z
      · rw [decide_eq_true (congrArg V.str c)]
        refine iteT ?_
        walk_at "ss"
        exact pur_yes hz hv ha (if_pos c)
      · rw [decide_eq_false (fun e => c (V.str.inj e))]
        refine iteF ?_
        exact pur_no hv ha (if_neg c)
    · intro D nD
      rw [er]
      exact q D nD
end
end K37
namespace K37
open PySem PySem.Spec PyProof.Rows L2 TB LamX
open C8 (Cal pe_c Mak pe_mk Met pe_mt pe_mt0 pss_cut tCut pe_gc)
abbrev s_Order_behind : Stmt := inClass (top 8) 6
theorem sc_Order_behind : FnScope ["self", "one", "found", "left", "more", "other", "lock"] ["self", "one"] (defScope s_Order_behind) := ⟨rfl, rfl, rfl, by decide +kernel, rfl, by decide +kernel, by decide +kernel⟩
abbrev s_Order_leads : Stmt := inClass (top 8) 7
theorem sc_Order_leads : FnScope ["self", "one", "other"] ["self", "one", "other"] (defScope s_Order_leads) := ⟨rfl, rfl, rfl, by decide +kernel, rfl, by decide +kernel, by decide +kernel⟩
section
variable {P : Program} {w : World} {K : PySem.W.Frag} {mg : Str → Option Value} {base : Heap} {f C : Addr} {fd : FuncData}
theorem ok_Order_behind (F : FnM K "behind" "Order.behind" s_Order_behind [] f fd) (T : BltA mg) (oc : OrdC K C) (m_Order_want : Met P w K mg base 1 C "want" (spWant C) []) (m_Order_after : Met P w K mg base 1 C "after" (spAfter C) []) :
    FnOk P w K mg base CX0 2 f fd ["self", "one"] (spBehind C) := by
  refine fn_fg (sp := fun vs H Q _ => ∃ (x : Addr) (a : Str) (ls : List Str) (ps : List Pr), vs = [.ref x, .str a] ∧ OrdAt C H x ls ps ∧ OrdOk ls ps ∧ a ∈ ls ∧ NoT H ∧
    ∀ (p : Addr) (fs : List Str) (H' : Hp), H p = none → (∀ z, z ∈ fs ↔ Rch ps a z) → Kp [] H H' → H' p = some (.lst ((ls.filter fun z => decide (z ∈ fs)).map V.str)) → Q (.ref p) H') ?_ ?_
  · refine F.ok sc_Order_behind (fun vs H Q E h => ?_) (fun cdv A outer s H vs Q E hr h => ⟨_, PSs.nox
(pss_cons (ps_expr (pe_mt m_Order_want hr (by decide) (pv 0) (pa_cons (pv 1) pa_nil)))
  (pss_cons (ps_set (i := 2) sc_Order_behind.nd rfl (.inr rfl) (pe_lst pa_nil))
  (pss_cons (ps_set (i := 3) sc_Order_behind.nd rfl (.inl rfl) (pe_lst (pa_cons (pv 1) pa_nil)))
  (pss_cons (ps_while PassesOwn.never (pt_cmpR (op_neDK K hr.units) (pv 3) (pe_lst pa_nil) (nomark _))
    (pss_cons (ps_setLc (i := 4) (own := [("other", 5)]) rfl sc_Order_behind.nd rfl rfl (sw_true rfl rfl rfl (by decide +kernel)) (kPI K (pi_list (pe_mt m_Order_after hr (by decide) (pv 0) (pa_cons (kBM0 K (pe_bm0 PySem.F.plainAttrs_list PySem.F.slot_list_pop PySem.F.type_list_pop mt_pop (pv 3))) pa_nil)))) (blkOk_by (N := ["self", "one", "found", "left", "more", "other", "lock"]) (sc := defScope s_Order_behind) (by decide +kernel)) (fun _ _ _ _ _ => pg_name (i := 5) sc_Order_behind.nd rfl (Or.inl rfl)) (fun _ _ _ _ _ => pts_one (pt_cmpR (op_ninK K) (pv 5) (pv 2) rfl)) (fun _ _ _ _ _ => (pv 5)))
      (pss_cons (ps_expr (kBM K (pe_bm PySem.F.plainAttrs_list PySem.F.slot_list_extend PySem.F.type_list_extend mt_extend (pv 2) (pa_cons (pv 4) pa_nil))))
      (pss_one (ps_expr (kBM K (pe_bm PySem.F.plainAttrs_list PySem.F.slot_list_extend PySem.F.type_list_extend mt_extend (pv 3) (pa_cons (pv 4) pa_nil))))))))
  (pss_one (ps_ret (pe_lc (own := [("lock", 6)]) rfl sc_Order_behind.nd (kPT K (pi_tup (kFld K (pe_fld (pv 0) rfl)))) (blkOk_by (N := ["self", "one", "found", "left", "more", "other", "lock"]) (sc := defScope s_Order_behind) (by decide +kernel)) (fun _ _ _ _ _ => pg_name (i := 6) sc_Order_behind.nd rfl (Or.inl rfl)) (fun _ _ _ _ _ => pts_one (pt_cmpR (op_inK K) (pv 6) (pv 2) rfl)) (fun _ _ _ _ _ => (pv 6)))))))))
, ?_⟩)
    · obtain ⟨x, a, ls, ps, rfl, _⟩ := h
      rfl
    · obtain ⟨x, a, ls, ps, rfl, ho, hok, ha, nt, q⟩ := h
      obtain ⟨dx, tl, tp, rs, h1, h2, h3, h4⟩ := id ho
      walk_at "ss"
      refine ⟨x, dx, _, rfl, h1, rfl, ?_⟩
      walk_at "ss"
      refine ⟨x, a, ls, ps, rfl, ho, ha, ?_⟩
      walk_at "ss"
      refine ⟨Nat.zero_le _, fun fa nfa => ?_⟩
      walk_at "ss"
      refine ⟨(by show 1 ≤ sizeLine; decide), fun la nla => ?_⟩
      walk_at "ss"
      obtain ⟨nlf, nla0⟩ := nil_upd nla
      refine ⟨fun m σ H2 => ∃ (fs lf : List Str) (y4 y5 : Option V), σ = [some (.ref x), some (.str a), some (.ref fa), some (.ref la), y4, y5, none] ∧ Kp [] H H2 ∧ NoT H2 ∧ H2 fa = some (.lst (fs.map V.str)) ∧ H2 la = some (.lst (lf.map V.str)) ∧ m = 2 * (ls.length - fs.length) + lf.length ∧ BInv ls ps a fs lf ∧ lf.length + fs.length + fs.length ≤ 2 * fs.length + 2 * ls.length + 1 ∧ 2 * (ls.length - fs.length) + lf.length ≤ 2 * ls.length + 1,
        ⟨_, [], [a], none, none, rfl, ((Kp.refl H).new nfa).new nla, nt.lst.lst, oth_upd nlf.symm upd_same, upd_same, rfl, BInv.init, (by show 1 + 0 + 0 ≤ _; omega), (by show 2 * (ls.length - 0) + 1 ≤ _; omega)⟩, ?_⟩
      rintro m σ H2 ⟨fs, lf, y4, y5, rfl, k2, nt2, hfa, hla, rfl, bi, lb1, lb2⟩
      have nlf2 : ∀ z ∈ lf, Nm z := fun z hz => (bi.lft z hz).elim (fun e => by rw [e]; exact hok.nm a ha) (fun e => hok.nm z (bi.ins z e))
      walk_at "ss"
      refine ⟨Nat.zero_le _, fun e0 ne0 => ?_⟩
      refine st_neNil nlf2 (old_upd ne0 hla) upd_same ?_
      walk_at "ss"
      have k3 : Kp [] H (upd H2 e0 (.lst [])) := k2.new ne0
      have nt3 : NoT (upd H2 e0 (.lst [])) := nt2.lst
      replace hfa := old_upd (o := .lst []) ne0 hfa
      replace hla := old_upd (o := .lst []) ne0 hla
      generalize upd H2 e0 (.lst []) = H3 at k3 nt3 hfa hla ⊢
      have x3 : H3 x = _ := k3.same _ _ h1
      have ho3 : OrdAt C H3 x ls ps := ho.same k3.same
      rcases List.eq_nil_or_concat lf with e | ⟨lf', l, e⟩
      · subst e
        refine iteF ?_
        walk_at "ss"
        refine ⟨x, C, dx, _, _, rfl, x3, oc.cls, oc.nl, rfl, ?_⟩
        walk_at "ss"
        refine ⟨tl, rfl, ⟨_, (h2.keep fun ob u e => k3.same _ _ e).sq⟩, ?_⟩
        have hz : (ls.map V.str).length < sizeLine := by
          have := hok.len
          rw [List.length_map, sizeLine_eq]
          omega
        refine lc_pure (strF fun z => decide (z ∈ fs)) wk_tup (fun D acc nD => (h2.keep fun ob u e => old_upd nD (k3.same _ _ e)).sq) ?_ ?_
        · intro D i v acc nD hv hacc
          obtain ⟨z, _, rfl⟩ := List.mem_map.mp (List.mem_of_getElem? hv)
          walk_at "ss"
          refine ⟨rfl, ?_⟩
          walk_at "ss"
          refine st_inS (Or.inl (sqL_of (old_upd nD hfa))) ?_
          walk_at "ss"
          by_cases c : z ∈ fs
          · rw [decide_eq_true c]
            refine iteT ?_
            walk_at "ss"
            exact pur_yes hz hv hacc (strF_yes (decide_eq_true c))
          · rw [decide_eq_false c]
            refine iteF ?_
            exact pur_no hv hacc (strF_no (decide_eq_false c))
        · intro D nD
          rw [fm_filter]
          refine q D fs _ ?_ bi.done (k3.new nD) upd_same
          cases e : H D with
          | none => rfl
          | some o => rw [k3.same _ _ e] at nD; exact nomatch nD
      · rw [List.concat_eq_append] at e
        subst e
        rw [decide_eq_false (by simp)]
        refine iteT ⟨fun σ' H' => ∃ m', m' < 2 * (ls.length - fs.length) + (lf' ++ [l]).length ∧ ∃ (fs lf : List Str) (y4 y5 : Option V), σ' = [some (.ref x), some (.str a), some (.ref fa), some (.ref la), y4, y5, none] ∧ Kp [] H H' ∧ NoT H' ∧ H' fa = some (.lst (fs.map V.str)) ∧ H' la = some (.lst (lf.map V.str)) ∧ m' = 2 * (ls.length - fs.length) + lf.length ∧ BInv ls ps a fs lf ∧ lf.length + fs.length + fs.length ≤ 2 * fs.length + 2 * ls.length + 1 ∧ 2 * (ls.length - fs.length) + lf.length ≤ 2 * ls.length + 1, fun _ _ z => z, ?_⟩
        walk_at "ss"
        refine ⟨x, dx, _, rfl, x3, rfl, ?_⟩
        walk_at "ss"
        refine ⟨Or.inl ⟨rfl, _, sqL_of hla⟩, la, _, .str l, rfl, rfl, hla, by simp, ?_⟩
        walk_at "ss"
        have ed : ((lf' ++ [l]).map V.str).dropLast = lf'.map V.str := by simp
        rw [ed]
        refine ⟨x, l, ls, ps, rfl, ho3.lst hla, hok, fun p np => ?_⟩
        obtain ⟨npl, np3⟩ := nil_upd np
        have x4 : upd (upd H3 la (.lst (lf'.map V.str))) p (.lst ((afterP ps l).map V.str)) fa = some (.lst (fs.map V.str)) := old_upd np (oth_upd nlf.symm hfa)
        walk_at "ss"
        refine ⟨p, rfl, ⟨_, sqL_of upd_same⟩, ?_⟩
        have hz : ((afterP ps l).map V.str).length < sizeLine := by
          have h5 := hok.plen
          have h6 : (afterP ps l).length ≤ ps.length := List.length_filterMap_le _ _
          rw [List.length_map, sizeLine_eq]
          omega
        refine lc_pure (strF fun z => !decide (z ∈ fs)) wk_list (fun D acc nD => sqL_of (old_upd nD upd_same)) ?_ ?_
        · intro D i v acc nD hv hacc
          obtain ⟨z, _, rfl⟩ := List.mem_map.mp (List.mem_of_getElem? hv)
          walk_at "ss"
          refine ⟨rfl, ?_⟩
          walk_at "ss"
          refine st_ninS (Or.inl (sqL_of (old_upd nD x4))) ?_
          walk_at "ss"
          by_cases c : z ∈ fs
          · rw [decide_eq_true c]
            refine iteF ?_
            exact pur_no hv hacc (strF_no (by rw [decide_eq_true c]; rfl))
          · rw [decide_eq_false c]
            refine iteT ?_
            walk_at "ss"
            exact pur_yes hz hv hacc (strF_yes (by rw [decide_eq_false c]; rfl))
        · intro D nD
          rw [fm_filter]
          have em : (afterP ps l).filter (fun z => !decide (z ∈ fs)) = moreP ps fs l := rfl
          rw [em]
          obtain ⟨nDp, nD4⟩ := nil_upd nD
          obtain ⟨nDl, nD3⟩ := nil_upd nD4
          have bi2 := bi.step hok
          have h7 := nodup_le bi2.nd bi2.ins
          have h8 := hok.len
          rw [List.length_append] at h7
          have lD : upd (upd (upd H3 la (.lst (lf'.map V.str))) p (.lst ((afterP ps l).map V.str))) D (.lst ((moreP ps fs l).map V.str)) la = some (.lst (lf'.map V.str)) := old_upd nD (old_upd np upd_same)
          walk_at "ss"
          refine ⟨Or.inl ⟨rfl, _, sqL_of (old_upd nD x4)⟩, ?_⟩
          walk_at "ss"
          refine ⟨fa, D, _, _, rfl, rfl, old_upd nD x4, upd_same, ?_, ?_⟩
          · rw [List.length_map, List.length_map, sizeLine_eq]
            omega
          walk_at "ss"
          refine ⟨Or.inl ⟨rfl, _, sqL_of (oth_upd nlf lD)⟩, ?_⟩
          walk_at "ss"
          refine ⟨la, D, _, _, rfl, rfl, oth_upd nlf lD, oth_upd (fun e => by rw [e] at nD; rw [x4] at nD; exact nomatch nD) upd_same, ?_, ?_⟩
          · rw [List.length_append] at lb1
            rw [List.length_map, List.length_map, sizeLine_eq]
            omega
          walk_at "ss"
          have lss := bi2.less
          refine ⟨_, lss, _, _, _, _, rfl, ((((k3.own nla0).new np).new nD).own nfa).own nla0, nt3.lst.lst.lst.lst.lst, ?_, ?_, rfl, bi2, ?_, ?_⟩
          · rw [upd_ne nlf.symm, upd_same, List.map_append]
          · rw [upd_same, List.map_append]
          · omega
          · omega
  · rintro vs H Q E ⟨x, a, ls, ps, rfl, ho, hok, ha, nt, q⟩
    exact ⟨x, a, ls, ps, rfl, ho, hok, ha, nt, fun p fs H' np hf k e => ⟨_, Fg.one k.same nt np e trivial (fun _ => trivial), q p fs np hf⟩⟩
theorem ok_Order_leads (F : FnM K "leads" "Order.leads" s_Order_leads [] f fd) (T : BltA mg) (oc : OrdC K C) (m_Order_want : Met P w K mg base 1 C "want" (spWant C) []) (m_Order_behind : Met P w K mg base 2 C "behind" (spBehind C) []) :
    FnOk P w K mg base CX0 3 f fd ["self", "one", "other"] (spLeads C) := by
  refine fn_fg (sp := fun vs H Q _ => ∃ (x : Addr) (a b : Str) (ls : List Str) (ps : List Pr), vs = [.ref x, .str a, .str b] ∧ OrdAt C H x ls ps ∧ OrdOk ls ps ∧ a ∈ ls ∧ b ∈ ls ∧ NoT H ∧ ∀ (k : Bool) (H' : Hp), (k = true ↔ Rch ps a b) → Same H H' → Q (.bl k) H') ?_ ?_
  · refine F.ok sc_Order_leads (fun vs H Q E h => ?_) (fun cdv A outer s H vs Q E hr h => ⟨_, PSs.nox
(pss_cons (ps_expr (pe_mt m_Order_want hr (by decide) (pv 0) (pa_cons (pv 1) pa_nil)))
  (pss_cons (ps_expr (pe_mt m_Order_want hr (by decide) (pv 0) (pa_cons (pv 2) pa_nil)))
  (pss_one (ps_ret (pe_cmpR (op_inK K) (pv 2) (pe_mt m_Order_behind hr (by decide) (pv 0) (pa_cons (pv 1) pa_nil)) rfl)))))
, ?_⟩)
    · obtain ⟨x, a, b, ls, ps, rfl, _⟩ := h
      rfl
    · obtain ⟨x, a, b, ls, ps, rfl, ho, hok, ha, hb, nt, q⟩ := h
      obtain ⟨dx, tl, tp, rs, h1, h2, h3, h4⟩ := id ho
      walk_at "ss"
      refine ⟨x, dx, _, rfl, h1, rfl, ?_⟩
      walk_at "ss"
      refine ⟨x, a, ls, ps, rfl, ho, ha, ?_⟩
      walk_at "ss"
      refine ⟨x, dx, _, rfl, h1, rfl, ?_⟩
      walk_at "ss"
      refine ⟨x, b, ls, ps, rfl, ho, hb, ?_⟩
      walk_at "ss"
      refine ⟨x, dx, _, rfl, h1, rfl, ?_⟩
      walk_at "ss"
      refine ⟨x, a, ls, ps, rfl, ho, hok, ha, nt, fun p fs np hf => ?_⟩
      refine st_inS (Or.inl (sqL_of upd_same)) ?_
      refine q _ _ ?_ (fun c o e => old_upd np e)
      rw [decide_eq_true_iff, List.mem_filter, decide_eq_true_iff, hf]
      exact ⟨fun z => z.2, fun z => ⟨hb, z⟩⟩
  · rintro vs H Q E ⟨x, a, b, ls, ps, rfl, ho, hok, ha, hb, nt, q⟩
    exact ⟨x, a, b, ls, ps, rfl, ho, hok, ha, hb, nt, fun k H' hk sm => ⟨H, Fg.back sm nt, q k hk⟩⟩
end
end K37
namespace K37
open PySem PySem.Spec PyProof.Rows L2 TB LamX NdefX
open C8 (Cal pe_c Mak pe_mk Met pe_mt pe_mt0 pss_cut tCut pe_gc)
abbrev s_Order_with_pair : Stmt := inClass (top 8) 8
theorem sc_Order_with_pair : FnScope ["self", "one", "other", "locks", "pairs"] ["self", "one", "other"] (defScope s_Order_with_pair) := ⟨rfl, rfl, rfl, by decide +kernel, rfl, by decide +kernel, by decide +kernel⟩
section
variable {P : Program} {w : World} {K : PySem.W.Frag} {mg : Str → Option Value} {base : Heap} {f C : Addr} {fd : FuncData}
/-- the lambda's name -/
def lamQ : Str := (envOfC "Order.with_pair" (defScope s_Order_with_pair) 0 0 .none).qual ++ "<lambda>"
theorem ok_Order_with_pair {c T0 : Addr} (F : FnM K "with_pair" "Order.with_pair" s_Order_with_pair [] f fd) (hcd : fd.code = .ref c) (tb0 : TabB base mg c T0) (T : BltA mg) (oc : OrdC K C) (m_Order_has : Met P w K mg base 2 C "has" (spHas C) []) (m_Order_leads : Met P w K mg base 3 C "leads" (spLeads C) []) :
    FnOk P w K mg base CX0 4 f fd ["self", "one", "other"] (spWith C T0 lamQ) := by
  refine okC F hcd sc_Order_with_pair (fun vs H Q E h => ?_) (fun A outer s H vs Q E hr h => ⟨_, PSs.nox
    (pss_cons (ps_if (pt_val (pe_mt m_Order_has hr (by decide) (pv 0) (pa_cons (pv 1) (pa_cons (pv 2) pa_nil)))) (pss_one (ps_ret (kFld K (pe_fld (pv 0) rfl)))) pss_nil)
    (pss_cons (ps_if (PW.pt (pw_or (pt_cmpR op_eq (pv 1) (pv 2) (nomark _)) (pw_or1 (pt_val (pe_mt m_Order_leads hr (by decide) (pv 0) (pa_cons (pv 2) (pa_cons (pv 1) pa_nil))))))) (pss_one ps_never) pss_nil)
    (pss_cons (ps_set (i := 3) sc_Order_with_pair.nd rfl (.inr rfl) (kFld K (pe_fld (pv 0) rfl)))
    (pss_cons (ps_set (i := 4) sc_Order_with_pair.nd rfl (.inl rfl) (pe_op (op_catK K) (kFld K (pe_fld (pv 0) rfl)) (pe_tup (pa_cons (pe_tup (pa_cons (pv 1) (pa_cons (pv 2) pa_nil))) pa_nil))))
    (pss_one (ps_ret (pe_callTy (call_tupK K) (by rfl) T.b_tuple (by decide +kernel) (pa_cons
      (pe_sortedLam (N := ["pair", "locks"]) (fr := ["locks"]) (x0 := "pair") (js := [3]) (k := 0) tb0 rfl rfl (ndef_free (sc := defScope s_Order_with_pair) (fr := ["locks"]) (by decide +kernel)) (ndef_fr (sc := defScope s_Order_with_pair) (by decide +kernel)) rfl (nscope_by (by decide +kernel)) hr (fun _ _ _ _ _ => rfl)
        (fun cl c' f A outer s' H' hr' => pe_tup (pa_cons (pe_bmT PySem.F.slot_tuple_index PySem.F.type_tuple_index (mt_tupIxK K) (pv 1) (pa_cons (pe_ix (ix_tupK K) (pv 0) pe_int (fun _ _ => rfl)) pa_nil))
          (pa_cons (pe_bmT PySem.F.slot_tuple_index PySem.F.type_tuple_index (mt_tupIxK K) (pv 1) (pa_cons (pe_ix (ix_tupK K) (pv 0) pe_int (fun _ _ => rfl)) pa_nil)) pa_nil)))
        (by rfl) T.b_sorted (by decide +kernel) (pa_cons (pv 4) pa_nil)) pa_nil))))))))
, ?_⟩)
  · obtain ⟨x, a, b, ls, ps, rfl, _⟩ := h
    rfl
  · obtain ⟨x, a, b, ls, ps, rfl, ho, hok, ha, hb, ne, nr, nt, tb, q⟩ := h
    obtain ⟨dx, tl, tp, rs, h1, h2, h3, h4⟩ := id ho
    walk_at "ss"
    refine ⟨x, dx, _, rfl, h1, rfl, ?_⟩
    walk_at "ss"
    refine ⟨x, a, b, ls, ps, rfl, ho, hok, ha, hb, nt, ?_⟩
    walk_at "ss"
    by_cases m : (a, b) ∈ ps
    · rw [decide_eq_true m]
      refine iteT ?_
      walk_at "ss"
      refine ⟨x, C, dx, _, _, rfl, h1, oc.cls, oc.np, rfl, ?_⟩
      refine q H tp rs ps (Tg.refl tb) h3 h4 hok (fun z => ⟨Or.inl, fun e => e.elim id (fun e => by rw [e]; exact m)⟩)
    · rw [decide_eq_false m]
      refine iteF ?_
      walk_at "ss"
      rw [decide_eq_false (fun e => ne (V.str.inj e))]
      refine iteF ?_
      walk_at "ss"
      refine ⟨x, dx, _, rfl, h1, rfl, ?_⟩
      walk_at "ss"
      refine ⟨x, b, a, ls, ps, rfl, ho, hok, hb, ha, nt, fun k hk => ?_⟩
      obtain rfl : k = false := by
        cases k with
        | false => rfl
        | true => exact absurd (hk.mp rfl) nr
      walk_at "ss"
      refine iteF ?_
      walk_at "ss"
      refine ⟨x, C, dx, _, _, rfl, h1, oc.cls, oc.nl, rfl, ?_⟩
      walk_at "ss"
      refine ⟨x, C, dx, _, _, rfl, h1, oc.cls, oc.np, rfl, ?_⟩
      walk_at "ss"
      refine ⟨(by show 2 ≤ sizeLine; decide), fun t1 nt1 => ?_⟩
      walk_at "ss"
      refine ⟨(by show 1 ≤ sizeLine; decide), fun t2 nt2 => ?_⟩
      have pl := hok.plen
      refine st_catP (old_upd nt2 (old_upd nt1 h3)) upd_same ?_ (by simp) ?_
      · rw [h4.len, sizeLine_eq]
        show ps.length + 1 ≤ _
        omega
      intro tq H1 sm1 ntt htq
      have s1 : Same H H1 := fun c o e => sm1 c o (old_upd nt2 (old_upd nt1 e))
      have e1 : H1 t1 = some (.tup [.str a, .str b]) := sm1 _ _ (old_upd nt2 upd_same)
      have n1 : NoT H1 := ntt (NoT.tup (NoT.tup nt))
      have tb1 : TabS H1 T0 lamQ := tb.ext s1
      have pr1 : Prs H1 (rs ++ [.ref t1]) (ps ++ [(a, b)]) := (h4.keep fun c xs e => s1 _ _ e).app (.cons ⟨t1, rfl, e1⟩ .nil)
      have okm : ∀ p ∈ ps ++ [(a, b)], p.1 ∈ ls ∧ p.2 ∈ ls := by
        intro p hp
        rcases List.mem_append.mp hp with e | e
        · exact hok.mem p e
        · rw [List.mem_singleton.mp e]
          exact ⟨ha, hb⟩
      walk_at "ss"
      refine ⟨tq, rs ++ [.ref t1], fun v => keyP ls (decP H1 v), rfl, sqT_of htq, pr1.refs, tb1, ?_, ?_⟩
      · intro y hy H2 ext Q' hQ
        obtain ⟨t, rfl, hm, ht⟩ := pr1.mem y hy
        have ht2 := ext _ _ ht (fun ps => by simp)
        have hl2 : LkAt H2 tl ls := h2.keep fun ob u e => ext _ _ (s1 _ _ e) (fun ps => by simp)
        obtain ⟨i1, i2⟩ := ixS_at (okm _ hm).1
        obtain ⟨j1, j2⟩ := ixS_at (okm _ hm).2
        walk_at "ss"
        refine ⟨⟨tl, ls, rfl, hl2⟩, ?_⟩
        walk_at "ss"
        refine st_ixT (sqT_of ht2) rfl ?_
        walk_at "ss"
        refine ⟨tl, ls, _, _, rfl, rfl, hl2.sq, i1, i2, ?_⟩
        walk_at "ss"
        refine ⟨⟨tl, ls, rfl, hl2⟩, ?_⟩
        walk_at "ss"
        refine st_ixT (sqT_of ht2) rfl ?_
        walk_at "ss"
        refine ⟨tl, ls, _, _, rfl, rfl, hl2.sq, j1, j2, ?_⟩
        walk_at "ss"
        exact ⟨(by show 2 ≤ sizeLine; decide), hQ⟩
      · intro ys D H3 pm sr tg nD hD
        walk_at "ss"
        refine ⟨D, ys, rfl, Or.inl ⟨sqL_of hD, fun l nl => ?_⟩⟩
        have hp2 : (ys.map (decP H1)).Perm (ps ++ [(a, b)]) := by
          rw [pr1.dec]
          exact pm.map _
        have hs2 : SortP ls (ys.map (decP H1)) := List.pairwise_map.mpr sr
        obtain ⟨o1, o2⟩ := hok.add ha hb m hp2 hs2
        refine q _ l ys (ys.map (decP H1)) ?_ upd_same (prs_map fun y hy => ?_) o1 o2
        · exact Tg.new (Tg.trans ⟨fun c o e _ => s1 c o e, tb1, fun _ => n1⟩ tg) nl trivial
        · obtain ⟨t, e, _, ht⟩ := pr1.mem y (pm.mem_iff.mp hy)
          exact ⟨t, e, old_upd nl (tg.at tb1 ht (fun ps => by simp))⟩
end
end K37
namespace K37
open PySem PySem.Spec PyProof.Rows L2 TB
open C8 (Cal pe_c Mak pe_mk Met pe_mt pe_mt0 pss_cut tCut pe_gc)
abbrev s__law_pot : Stmt := top 10
theorem sc__law_pot : FnScope ["_law_script", "_law_k", "_law_cell"] ["_law_script", "_law_k"] (defScope s__law_pot) := ⟨rfl, rfl, rfl, by decide +kernel, rfl, by decide +kernel, by decide +kernel⟩
abbrev s__law_draw : Stmt := top 11
theorem sc__law_draw : FnScope ["_law_pot_here", "_law_many", "_law_digit"] ["_law_pot_here", "_law_many"] (defScope s__law_draw) := ⟨rfl, rfl, rfl, by decide +kernel, rfl, by decide +kernel, by decide +kernel⟩
section
variable {P : Program} {w : World} {K : PySem.W.Frag} {mg : Str → Option Value} {base : Heap} {f : Addr} {fd : FuncData}
def spDraw0 : Sp := fun vs H Q _ => ∃ (p : Addr) (m a b : Int), vs = [.ref p, .int m] ∧ H p = some (.lst [.int a, .int b]) ∧ 0 ≤ a ∧ 0 ≤ b ∧ b < 2147483647 ∧ 0 < m ∧ m < 2 ^ 64 ∧
  ∀ (H' : Hp) (a' b' d : Int), 0 ≤ a' → 0 ≤ b' → b' < 2147483647 → H' p = some (.lst [.int a', .int b']) → Kp [p] H H' → 0 ≤ d → d < m → Q (.int d) H'
def spDraw : Sp := fun vs H Q _ => ∃ (p : Addr) (m : Int), vs = [.ref p, .int m] ∧ H p = some (PotO p) ∧ NoT H ∧ 0 < m ∧ m < 2 ^ 64 ∧ ∀ d : Int, 0 ≤ d → d < m → Q (.int d) H
theorem ok_draw0 (F : FnP K "_law_draw" s__law_draw f fd) (T : BltA mg) : FnOk P w K mg base CX0 1 f fd ["_law_pot_here", "_law_many"] spDraw0 := by
  refine F.ok sc__law_draw (fun vs H Q E h => ?_) (fun cdv A outer s H vs Q E hr h => ⟨_, PSs.nox 
(pss_cons (ps_if (pt_cmpR op_gt (pe_ix ix_list (pv 0) pe_int (fun _ _ => rfl)) pe_int (nomark _))
    (pss_cons (ps_asg (pe_callB call_divmodW (by rfl) T.b_divmod (by decide +kernel) (pa_cons (pe_ix ix_list (pv 0) pe_int (fun _ _ => rfl)) (pa_cons (pv 1) pa_nil))) (pg_tup rfl (pgs_cons (pg_sub (pv 0) pe_int set_list) (pgs_cons (pg_name (i := 2) sc__law_draw.nd rfl (.inl rfl)) pgs_nil))))
      (pss_one (ps_ret (pv 2))))
    pss_nil)
  (pss_cons (ps_asg (pe_op op_mod (pe_op op_add (pe_op op_mul (pe_ix ix_list (pv 0) pe_int (fun _ _ => rfl)) pe_int) pe_int) pe_int) (pg_sub (pv 0) pe_int set_list))
  (pss_one (ps_ret (pe_op op_mod (pe_op op_fdiv (pe_op op_mod (pe_op op_mul (pe_ix ix_list (pv 0) pe_int (fun _ _ => rfl)) (pe_ix ix_list (pv 0) pe_int (fun _ _ => rfl))) pe_int) pe_int) (pv 1)))))), ?_⟩)
  · obtain ⟨p, m, a, b, rfl, _⟩ := h
    rfl
  · obtain ⟨p, m, a, b, rfl, hp, ha, hb, hb2, hm, hm2, q⟩ := h
    walk_at "ss"
    refine st_ixL (sqL_of hp) rfl ?_
    walk_at "ss"
    refine ite2 (fun c => ?_) (fun c => ?_)
    · walk_at "ss"
      refine st_ixL (sqL_of hp) rfl ?_
      walk_at "ss"
      refine ⟨_, _, rfl, cdivP hm hm2, fun t nt => ?_⟩
      refine st_gtup (sqT_of upd_same) rfl ?_
      walk_at "ss"
      refine st_setL (old_upd nt hp) rfl ?_
      walk_at "ss"
      refine q _ (a / m) b (a % m) (Int.ediv_nonneg ha (by omega)) hb hb2 (by rw [upd_same]; rfl) (((Kp.refl H).new nt).mut (by simp)) (Int.emod_nonneg _ (by omega)) (Int.emod_lt_of_pos _ hm)
    · walk_at "ss"
      refine st_ixL (sqL_of hp) rfl ?_
      walk_at "ss"
      refine st_I (Or.inr ⟨by decide, by decide⟩) ?_
      walk_at "ss"
      refine st_I (by show (0 : Int) < 2147483647; decide) ?_
      walk_at "ss"
      refine st_setL hp rfl ?_
      have h0 : 0 ≤ (b * 48271 + 30011) % 2147483647 := Int.emod_nonneg _ (by decide)
      have h1 : (b * 48271 + 30011) % 2147483647 < 2147483647 := Int.emod_lt_of_pos _ (by decide)
      revert h0 h1
      generalize (b * 48271 + 30011) % 2147483647 = c1
      intro h0 h1
      walk_at "ss"
      refine st_ixL (sqL_of upd_same) rfl ?_
      walk_at "ss"
      refine st_ixL (sqL_of upd_same) rfl ?_
      walk_at "ss"
      refine st_I (Or.inl ⟨by omega, by omega⟩) ?_
      walk_at "ss"
      refine st_I (by show (0 : Int) < 2147483629; decide) ?_
      walk_at "ss"
      refine st_I ⟨by decide, by decide⟩ ?_
      walk_at "ss"
      refine st_I (show (0 : Int) < m from hm) ?_
      exact q _ a c1 _ ha h0 h1 (by rw [upd_same]; rfl) ((Kp.refl H).mut (by simp)) (Int.emod_nonneg _ (by omega)) (Int.emod_lt_of_pos _ hm)
theorem ok_draw (F : FnP K "_law_draw" s__law_draw f fd) (T : BltA mg) : FnOk P w K mg base CX0 1 f fd ["_law_pot_here", "_law_many"] spDraw := by
  refine fn_pot (ok_draw0 F T) fun vs H Q E h => ?_
  obtain ⟨p, m, rfl, hp, nt, hm, hm2, q⟩ := h
  refine ⟨p, hp, fun a b ha hb hb2 => ⟨p, m, a, b, rfl, upd_same, ha, hb, hb2, hm, hm2, fun H' a' b' d h1 h2 h3 h4 h5 h6 h7 => ⟨a', b', h1, h2, h3, h4, H, Fg.back (fun c o e => ?_) nt, q d h6 h7⟩⟩⟩
  by_cases z : c = p
  · rw [z, upd_same, ← e, z]
    exact hp.symm
  · exact oth_upd z (h5 c o (oth_upd z e) (by simp [z]))
def spPot0 (K : PySem.W.Frag) : Sp := fun vs H Q _ => ∃ (l : Addr) (ns : List Int) (k : Int), vs = [.ref l, .int k] ∧ SqL K H l (ns.map V.int) ∧ 0 ≤ k ∧ k < 1000 ∧
  ∀ (p : Addr) (a b : Int), H p = none → 0 ≤ a → 0 ≤ b → b < 2147483647 → Q (.ref p) (upd H p (.lst [.int a, .int b]))
def spPot (K : PySem.W.Frag) : Sp := fun vs H Q _ => ∃ (l : Addr) (ns : List Int) (k : Int), vs = [.ref l, .int k] ∧ SqL K H l (ns.map V.int) ∧ 0 ≤ k ∧ k < 1000 ∧ NoT H ∧ ∀ p : Addr, H p = none → Q (.ref p) (upd H p (PotO p))
theorem ok_pot0 (F : FnP K "_law_pot" s__law_pot f fd) (T : BltA mg) : FnOk P w K mg base CX0 1 f fd ["_law_script", "_law_k"] (spPot0 K) := by
  refine F.ok sc__law_pot (fun vs H Q E h => ?_) (fun cdv A outer s H vs Q E hr h => ⟨_, PSs.nox 
(pss_cons (ps_set (i := 2) sc__law_pot.nd rfl (.inl rfl) (pe_ifExp (pt_cmpR op_lt (pv 1) (pe_callB call_len_seq (by rfl) T.b_len PySem.boot_len (pa_cons (pv 0) pa_nil)) (nomark _)) (pe_ix ix_list (pv 0) (pv 1) (fun _ _ => rfl)) pe_int))
  (pss_one (ps_ret (pe_lst (pa_cons (pe_callB (call_max2 rfl) (by rfl) T.b_max (by decide +kernel) (pa_cons pe_int (pa_cons (pe_op op_sub (pe_callB call_abs (by rfl) T.b_abs (by decide +kernel) (pa_cons (pv 2) pa_nil)) (pe_op op_pow pe_int pe_int)) pa_nil))) (pa_cons (pe_op op_mod (pe_op op_add (pe_op op_add (pe_op op_mul (pe_op op_mod (pe_callB call_abs (by rfl) T.b_abs (by decide +kernel) (pa_cons (pv 2) pa_nil)) pe_int) pe_int) (pe_op op_mul pe_int (pv 1))) pe_int) pe_int) pa_nil)))))), ?_⟩)
  · obtain ⟨l, ns, k, rfl, _⟩ := h
    rfl
  · obtain ⟨l, ns, k, rfl, hl, hk, hk2, q⟩ := h
    walk_at "ss"
    refine ⟨_, _, rfl, Or.inl hl, ?_⟩
    walk_at "ss"
    have key : ∀ c : Int, (tRet (tLst (tCons (tCB (fun xs H Q => ∃ i j, xs = [V.int i, V.int j] ∧ Q (.int (if j > i then j else i)) H) (tCons (tC (.int 0)) (tCons (tOp (rI0 fun i j => .int (i - j)) (tCB (fun xs H Q => ∃ i, xs = [V.int i] ∧ Q (.int (if i < 0 then -i else i)) H) (tCons (tVar 2) tNil)) (tOp (rI CPow fun i j => .int (i ^ j.toNat)) (tC (.int 10)) (tC (.int 18)))) tNil))) (tCons (tOp (rI (fun _ j => 0 < j) fun i j => .int (i % j)) (tOp (rI0 fun i j => .int (i + j)) (tOp (rI0 fun i j => .int (i + j)) (tOp (rI CMul fun i j => .int (i * j)) (tOp (rI (fun _ j => 0 < j) fun i j => .int (i % j)) (tCB (fun xs H Q => ∃ i, xs = [V.int i] ∧ Q (.int (if i < 0 then -i else i)) H) (tCons (tVar 2) tNil)) (tC (.int 2147483579))) (tC (.int 44021))) (tOp (rI CMul fun i j => .int (i * j)) (tC (.int 6151)) (tVar 1))) (tC (.int 97))) (tC (.int 2147483647))) tNil)))) { nx := fun _ H' => Q .non H', rt := Q } [some (.ref l), some (.int k), some (.int c)] H := by
      intro c
      walk_at "ss"
      refine ⟨_, rfl, ?_⟩
      walk_at "ss"
      refine st_I ⟨by decide, by decide, by decide⟩ ?_
      walk_at "ss"
      refine ⟨_, _, rfl, ?_⟩
      walk_at "ss"
      refine ⟨_, rfl, ?_⟩
      walk_at "ss"
      refine st_I (by show (0 : Int) < 2147483579; decide) ?_
      walk_at "ss"
      refine st_I (Or.inr ⟨by decide, by decide⟩) ?_
      walk_at "ss"
      refine st_I (Or.inl ⟨by decide, by decide⟩) ?_
      walk_at "ss"
      refine st_I (by show (0 : Int) < 2147483647; decide) ?_
      refine ⟨(by show 2 ≤ sizeLine; decide), fun p np => q p _ _ np ?_ (Int.emod_nonneg _ (by decide)) (Int.emod_lt_of_pos _ (by decide))⟩
      split <;> omega
    refine ite2 (fun c => ?_) (fun c => ?_)
    · walk_at "ss"
      have hk3 : k.toNat < ns.length := by
        have c1 := of_decide_eq_true c
        rw [List.length_map] at c1
        omega
      refine st_ixL hl (at_of (j := k.toNat) (v := .int ns[k.toNat]) (by omega) (by rw [List.getElem?_map, List.getElem?_eq_getElem hk3]; rfl)) ?_
      exact key _
    · exact key 0
theorem ok_pot (F : FnP K "_law_pot" s__law_pot f fd) (T : BltA mg) : FnOk P w K mg base CX0 1 f fd ["_law_script", "_law_k"] (spPot K) := by
  refine fn_mkpot (ok_pot0 F T) fun vs H Q E h => ?_
  obtain ⟨l, ns, k, rfl, hl, hk, hk2, nt, q⟩ := h
  refine ⟨l, ns, k, rfl, hl, hk, hk2, fun p a b np ha hb hb2 => ⟨p, a, b, ha, hb, hb2, np, upd_same, upd H p (PotO p), ?_, q p np⟩⟩
  rw [upd_upd]
  exact Fg.one ((Kp.refl (ls := []) H).new np).same nt np upd_same trivial (fun _ => trivial)
end
end K37
namespace K37
open PySem PySem.Spec PyProof.Rows L2 TB
open C8 (Cal pe_c Mak pe_mk Met pe_mt pe_mt0 pss_cut tCut pe_gc)
abbrev s__law_name : Stmt := top 12
theorem sc__law_name : FnScope ["_law_pot_here", "_law_taken", "_law_letters", "_law_size", "_law_word", "_law_k", "_law_letter"] ["_law_pot_here", "_law_taken"] (defScope s__law_name) := ⟨rfl, rfl, rfl, by decide +kernel, rfl, by decide +kernel, by decide +kernel⟩
section
variable {P : Program} {w : World} {K : PySem.W.Frag} {mg : Str → Option Value} {base : Heap} {f : Addr} {fd : FuncData}
/-- a name is drawn that is not among ws, and put behind them -/
def spName : Sp := fun vs H Q _ => ∃ (p l : Addr) (ws : List Str), vs = [.ref p, .ref l] ∧ H p = some (PotO p) ∧ H l = some (.lst (ws.map V.str)) ∧ NoT H ∧ ws.length < 26 ∧
  ∀ z : Str, Nm z → z ∉ ws → Q (.str z) (upd H l (.lst ((ws ++ [z]).map V.str)))
def spName0 : Sp := fun vs H Q _ => ∃ (p l : Addr) (ws : List Str), vs = [.ref p, .ref l] ∧ H p = some (PotO p) ∧ H l = some (.lst (ws.map V.str)) ∧ NoT H ∧ ws.length < 26 ∧
  ∀ (z : Str) (H' : Hp), Nm z → z ∉ ws → Kp [l] H H' → H' l = some (.lst ((ws ++ [z]).map V.str)) → Q (.str z) H'
theorem ok_name0 (F : FnP K "_law_name" s__law_name f fd) (T : BltA mg) (c__law_draw : Cal P w K mg base 1 "_law_draw" spDraw []) : FnOk P w K mg base CX0 2 f fd ["_law_pot_here", "_law_taken"] spName0 := by
  refine F.ok sc__law_name (fun vs H Q E h => ?_) (fun cdv A outer s H vs Q E hr h => ⟨_, PSs.nox 
(pss_cons (ps_set (i := 2) sc__law_name.nd rfl (.inr rfl) pe_str)
  (pss_cons (ps_set (i := 3) sc__law_name.nd rfl (.inl rfl) (pe_ix (ix_listK K) (pe_lst (pa_cons pe_int (pa_cons pe_int (pa_cons pe_int (pa_cons pe_int (pa_cons (pe_op op_add pe_int (pe_c c__law_draw hr (by decide) (by rfl) (pa_cons (pv 0) (pa_cons pe_int pa_nil)))) pa_nil)))))) (pe_c c__law_draw hr (by decide) (by rfl) (pa_cons (pv 0) (pa_cons pe_int pa_nil))) (fun _ _ => rfl)))
  (pss_cons (ps_set (i := 4) sc__law_name.nd rfl (.inl rfl) (pe_joinK K pe_str (pe_lc (own := [("_law_k", 5)]) (tt := tYes) rfl sc__law_name.nd (pi_range1 (by rfl) T.b_range (pa_cons (pv 3) pa_nil)) (blkOk_by (N := ["_law_pot_here", "_law_taken", "_law_letters", "_law_size", "_law_word", "_law_k", "_law_letter"]) (sc := defScope s__law_name) (by decide +kernel)) (fun _ _ _ _ _ => pg_name (i := 5) sc__law_name.nd rfl (Or.inl rfl)) (fun _ _ _ _ _ => pts_nil) (fun _ _ _ _ _ => (pe_ix ix_str (pv 2) (pe_c c__law_draw hr (by decide) (by rfl) (pa_cons (pv 0) (pa_cons pe_int pa_nil))) (fun _ _ => rfl))))))
  (pss_cut (ps_if (pt_cmpR op_eq (pe_c c__law_draw hr (by decide) (by rfl) (pa_cons (pv 0) (pa_cons pe_int pa_nil))) pe_int (nomark _))
    (pss_one (ps_set (i := 4) sc__law_name.nd rfl (.inl rfl) (pe_ix (ix_listK K) (pe_lst (pa_cons pe_str (pa_cons pe_str (pa_cons pe_str (pa_cons pe_str (pa_cons pe_str (pa_cons pe_str (pa_cons pe_str (pa_cons pe_str pa_nil))))))))) (pe_c c__law_draw hr (by decide) (by rfl) (pa_cons (pv 0) (pa_cons pe_int pa_nil))) (fun _ _ => rfl))))
    pss_nil)
  (pss_cut (ps_if (pt_cmpR (op_inK K) (pv 4) (pv 1) rfl)
    (pss_one (ps_set (i := 4) sc__law_name.nd rfl (.inl rfl) (pe_ix (ix_listK K) (pe_lc (own := [("_law_letter", 6)]) rfl sc__law_name.nd (pi_str (pv 2)) (blkOk_by (N := ["_law_pot_here", "_law_taken", "_law_letters", "_law_size", "_law_word", "_law_k", "_law_letter"]) (sc := defScope s__law_name) (by decide +kernel)) (fun _ _ _ _ _ => pg_name (i := 6) sc__law_name.nd rfl (Or.inl rfl)) (fun _ _ _ _ _ => pts_one (pt_cmpR (op_ninK K) (pv 6) (pv 1) rfl)) (fun _ _ _ _ _ => (pv 6))) pe_int (fun _ _ => rfl))))
    pss_nil)
  (pss_cons (ps_expr (kBM K (pe_bm PySem.F.plainAttrs_list PySem.F.slot_list_append PySem.F.type_list_append mt_append (pv 1) (pa_cons (pv 4) pa_nil))))
  (pss_one (ps_ret (pv 4))))))))), ?_⟩)
  · obtain ⟨p, l, ws, rfl, _⟩ := h
    rfl
  · obtain ⟨p, l, ws, rfl, hp, hl, nt, hw, q⟩ := h
    walk_at "ss"
    refine ⟨p, 8, rfl, hp, nt, by decide, by decide, fun d0 h0 h1 => ?_⟩
    walk_at "ss"
    refine ⟨by show 5 ≤ sizeLine; decide, fun l1 n1 => ?_⟩
    walk_at "ss"
    have hp1 := old_upd (o := .lst [.int 1, .int 1, .int 2, .int 8, .int (1 + d0)]) n1 hp
    have hl1 := old_upd (o := .lst [.int 1, .int 1, .int 2, .int 8, .int (1 + d0)]) n1 hl
    have nt1 : NoT (upd H l1 (.lst [.int 1, .int 1, .int 2, .int 8, .int (1 + d0)])) := nt.upd trivial
    have k1 : Kp [l] H (upd H l1 (.lst [.int 1, .int 1, .int 2, .int 8, .int (1 + d0)])) := (Kp.refl H).new n1
    refine ⟨p, 5, rfl, hp1, nt1, by decide, by decide, fun d1 h2 h3 => ?_⟩
    walk_at "ss"
    obtain ⟨sv, hsv, esv⟩ := at_some (xs := [.int 1, .int 1, .int 2, .int 8, .int (1 + d0)]) h2 h3
    refine st_ixL (sqL_of upd_same) esv ?_
    obtain ⟨n, rfl, hn1, hn2⟩ : ∃ n : Nat, sv = .int (n : Int) ∧ 1 ≤ n ∧ n ≤ 8 := by
      simp only [List.mem_cons, List.not_mem_nil, or_false] at hsv
      rcases hsv with rfl | rfl | rfl | rfl | rfl
      · exact ⟨1, rfl, by decide, by decide⟩
      · exact ⟨1, rfl, by decide, by decide⟩
      · exact ⟨2, rfl, by decide, by decide⟩
      · exact ⟨8, rfl, by decide, by decide⟩
      · exact ⟨(1 + d0).toNat, by rw [Int.toNat_of_nonneg (by omega)], by omega, by omega⟩
    generalize hH1 : upd H l1 (.lst [.int 1, .int 1, .int 2, .int 8, .int (1 + d0)]) = H1 at hp1 hl1 nt1 k1 ⊢
    walk_at "ss"
    -- the signs
    walk_at "ss"
    refine ⟨_, rfl, by omega, by omega, ?_⟩
    rw [Int.toNat_natCast]
    refine lc_walk wk_range (fun D i acc H' => ∃ cs : List Nat, acc = cs.map signV ∧ cs.length = i ∧ (∀ c ∈ cs, 97 ≤ c ∧ c ≤ 122) ∧ H' = upd H1 D (.lst acc)) (fun D nD => ⟨[], rfl, rfl, by simp, rfl⟩) (fun _ _ _ _ _ => trivial) ?_ ?_
    · rintro D i x acc H' nD hx ⟨cs, rfl, hi, hc, rfl⟩
      have hi8 : i < 8 := by
        have := (List.getElem?_eq_some_iff.mp hx).1
        rw [List.length_map, List.length_range] at this
        omega
      walk_at "ss"
      refine ⟨rfl, ?_⟩
      walk_at "ss"
      refine iteT ?_
      walk_at "ss"
      refine ⟨p, 26, rfl, old_upd nD hp1, nt1.upd trivial, by decide, by decide, fun d2 h4 h5 => ?_⟩
      obtain ⟨j, hj, rfl, ej⟩ := at_some' (xs := tl "abcdefghijklmnopqrstuvwxyz") h4 (by exact h5)
      refine st_ixS (by decide +kernel) ej ?_
      refine ⟨cs.map signV, upd_same, by rw [List.length_map]; exact small1000 (by omega), (cs ++ [(tl "abcdefghijklmnopqrstuvwxyz")[j]]).map signV, cs ++ [(tl "abcdefghijklmnopqrstuvwxyz")[j]], rfl, by simp [hi], ?_, ?_⟩
      · intro c hcc
        rcases List.mem_append.mp hcc with z | z
        · exact hc c z
        · rw [List.mem_singleton] at z
          subst z
          have all : ∀ c ∈ tl "abcdefghijklmnopqrstuvwxyz", 97 ≤ c ∧ c ≤ 122 := by decide +kernel
          exact all _ (List.getElem_mem hj)
      · rw [upd_upd, List.map_append]
        rfl
    · rintro D acc H' nD ⟨cs, rfl, hi, hc, rfl⟩
      rw [List.length_map, List.length_range] at hi
      have e1 : cs.map signV = (cs.map fun c => (⟨#[c]⟩ : Str)).map V.str := by rw [List.map_map]; rfl
      rw [e1]
      refine st_join (sqL_of upd_same) ?_ ?_
      · exact signs_fit (by omega)
      · walk_at "ss"
        rw [join_signs]
        have nm : Nm ⟨cs.toArray⟩ := ⟨by show 1 ≤ cs.toArray.toList.length; simp; omega, by show cs.toArray.toList.length ≤ 8; simp; omega, fun c hcc => hc c (by simpa [tl] using hcc)⟩
        have k2 : Kp [] H (upd H1 D (.lst ((cs.map fun c => (⟨#[c]⟩ : Str)).map V.str))) := by
          subst hH1
          exact ((Kp.refl H).new n1).new nD
        have nt2 : NoT (upd H1 D (.lst ((cs.map fun c => (⟨#[c]⟩ : Str)).map V.str))) := nt1.upd trivial
        generalize hH2 : upd H1 D (.lst ((cs.map fun c => (⟨#[c]⟩ : Str)).map V.str)) = H2 at k2 nt2 ⊢
        -- one of the words, or not
        refine ⟨fun σ' H' => ∃ z, Nm z ∧ σ' = [some (.ref p), some (.ref l), some (.str "abcdefghijklmnopqrstuvwxyz"), some (.int n), some (.str z), none, none] ∧ Kp [] H H' ∧ NoT H', ?_, ?_⟩
        · walk_at "ss"
          refine ⟨p, 12, rfl, k2.same _ _ hp, nt2, by decide, by decide, fun d3 h6 h7 => ?_⟩
          walk_at "ss"
          refine ite2 (fun c => ?_) (fun c => ?_)
          · walk_at "ss"
            refine ⟨by show 8 ≤ sizeLine; decide, fun l3 n3 => ?_⟩
            walk_at "ss"
            refine ⟨p, 8, rfl, old_upd n3 (k2.same _ _ hp), nt2.upd trivial, by decide, by decide, fun d4 h8 h9 => ?_⟩
            obtain ⟨sv2, hsv2, esv2⟩ := at_some (xs := [.str "take", .str "set", .str "quit", .str "come", .str "lock", .str "task", .str "done", .str "got"]) h8 h9
            refine st_ixL (sqL_of upd_same) esv2 ?_
            obtain ⟨z, rfl, hz⟩ : ∃ z, sv2 = .str z ∧ Nm z := by
              simp only [List.mem_cons, List.not_mem_nil, or_false] at hsv2
              rcases hsv2 with rfl | rfl | rfl | rfl | rfl | rfl | rfl | rfl <;> exact ⟨_, rfl, nm_of (by decide +kernel)⟩
            walk_at "ss"
            exact ⟨z, hz, rfl, k2.new n3, nt2.upd trivial⟩
          · walk_at "ss"
            exact ⟨_, nm, rfl, k2, nt2⟩
        · rintro σ' H3 ⟨z, hz, rfl, k3, nt3⟩
          -- a free letter, where it is taken
          refine ⟨fun σ' H' => ∃ z, Nm z ∧ z ∉ ws ∧ σ' = [some (.ref p), some (.ref l), some (.str "abcdefghijklmnopqrstuvwxyz"), some (.int n), some (.str z), none, none] ∧ Kp [] H H' ∧ NoT H', ?_, ?_⟩
          · walk_at "ss"
            refine st_in (sqL_of (k3.same _ _ hl)) rfl (TB.flat_strs ws) ?_
            walk_at "ss"
            rw [inV_strs]
            refine ite2 (fun c => ?_) (fun c => ?_)
            · walk_at "ss"
              refine ⟨_, rfl, ?_⟩
              refine lc_walk wk_str (fun D i acc H' => acc = ((abc.take i).filter (fun c => !decide ((⟨#[c]⟩ : Str) ∈ ws))).map signV ∧ H' = upd H3 D (.lst acc)) (fun D nD => ⟨rfl, rfl⟩) (fun _ _ _ _ _ => trivial) ?_ ?_
              · rintro D i x acc H' nD hx ⟨rfl, rfl⟩
                obtain ⟨c2, hc2, rfl⟩ : ∃ c2, abc[i]? = some c2 ∧ x = signV c2 := by
                  rw [List.getElem?_map] at hx
                  cases e3 : (tl "abcdefghijklmnopqrstuvwxyz")[i]? with
                  | none =>
                    rw [e3] at hx
                    exact nomatch hx
                  | some c2 =>
                    rw [e3] at hx
                    exact ⟨c2, e3, (Option.some.inj hx).symm⟩
                have et : (abc.take (i + 1)).filter (fun c => !decide ((⟨#[c]⟩ : Str) ∈ ws)) = (abc.take i).filter (fun c => !decide ((⟨#[c]⟩ : Str) ∈ ws)) ++ [c2].filter (fun c => !decide ((⟨#[c]⟩ : Str) ∈ ws)) := by
                  rw [List.take_add_one, hc2, List.filter_append]
                  rfl
                have hlen : (((abc.take i).filter (fun c => !decide ((⟨#[c]⟩ : Str) ∈ ws))).map signV).length < sizeLine := by
                  rw [List.length_map]
                  have l1 := List.length_filter_le (fun c => !decide ((⟨#[c]⟩ : Str) ∈ ws)) (abc.take i)
                  have l2 : (abc.take i).length ≤ abc.length := by rw [List.length_take]; omega
                  have l3 : abc.length = 26 := by decide +kernel
                  exact small1000 (by omega)
                walk_at "ss"
                refine ⟨rfl, ?_⟩
                walk_at "ss"
                refine st_nin (sqL_of (old_upd nD (k3.same _ _ hl))) rfl (TB.flat_strs ws) ?_
                walk_at "ss"
                rw [show signV c2 = V.str ⟨#[c2]⟩ from rfl, inV_strs]
                refine ite2 (fun c3 => ?_) (fun c3 => ?_)
                · walk_at "ss"
                  refine ⟨_, upd_same, hlen, _, rfl, ?_⟩
                  rw [upd_upd, et, show [c2].filter (fun c => !decide ((⟨#[c]⟩ : Str) ∈ ws)) = [c2] from List.filter_cons_of_pos (p := fun c => !decide ((⟨#[c]⟩ : Str) ∈ ws)) c3, List.map_append]
                  rfl
                · refine ⟨_, rfl, ?_⟩
                  rw [et, show [c2].filter (fun c => !decide ((⟨#[c]⟩ : Str) ∈ ws)) = [] from List.filter_cons_of_neg (p := fun c => !decide ((⟨#[c]⟩ : Str) ∈ ws)) c3, List.append_nil]
              · rintro D acc H' nD ⟨rfl, rfl⟩
                obtain ⟨c4, r4, e4, hc4, hn4⟩ := free_letter hw
                have el : abc.take ((tl "abcdefghijklmnopqrstuvwxyz").map signV).length = abc := List.take_of_length_le (by rw [List.length_map]; exact Nat.le_refl _)
                rw [el, e4]
                walk_at "ss"
                refine st_ixL (sqL_of upd_same) (atI_nat (j := 0) rfl) ?_
                walk_at "ss"
                exact ⟨⟨#[c4]⟩, abc_nm hc4, hn4, rfl, k3.new nD, nt3.upd trivial⟩
            · walk_at "ss"
              exact ⟨z, hz, by simpa using c, rfl, k3, nt3⟩
          · rintro σ' H4 ⟨z, hz, hz2, rfl, k4, nt4⟩
            have hl4 := k4.same _ _ hl
            walk_at "ss"
            refine ⟨Or.inl ⟨rfl, _, sqL_of hl4⟩, ?_⟩
            walk_at "ss"
            refine st_append hl4 (by rw [List.length_map]; exact small1000 (by omega)) ?_
            walk_at "ss"
            refine q z _ hz hz2 (fun b o e m => ?_) ?_
            · exact oth_upd (fun z2 => m (by rw [z2]; simp)) (k4.same _ _ e)
            · rw [upd_same, List.map_append]
              rfl
theorem ok_name (F : FnP K "_law_name" s__law_name f fd) (T : BltA mg) (c__law_draw : Cal P w K mg base 1 "_law_draw" spDraw []) : FnOk P w K mg base CX0 2 f fd ["_law_pot_here", "_law_taken"] spName := by
  refine fn_fg (ok_name0 F T c__law_draw) fun vs H Q E h => ?_
  obtain ⟨p, l, ws, rfl, hp, hl, nt, hw, q⟩ := h
  exact ⟨p, l, ws, rfl, hp, hl, nt, hw, fun z H' h1 h2 k e => ⟨_, Fg.mut1 k nt hl e trivial (fun _ => trivial) (fun y => by intro z; cases z), q z h1 h2⟩⟩
end
end K37
namespace K37
open PySem PySem.Spec PyProof.Rows L2 TB LamX NdefX
open C8 (Cal pe_c Mak pe_mk Met pe_mt pe_mt0 pss_cut tCut pe_gc)
abbrev s_Order_locks : Stmt := inClass (top 8) 2
theorem sc_Order_locks : FnScope ["self"] ["self"] (defScope s_Order_locks) := ⟨rfl, rfl, rfl, by decide +kernel, rfl, by decide +kernel, by decide +kernel⟩
section
variable {P : Program} {w : World} {K : PySem.W.Frag} {mg : Str → Option Value} {base : Heap} {f C : Addr} {fd : FuncData}
theorem ok_Order_locks (F : FnM K "locks" "Order.locks" s_Order_locks [] f fd) (T : BltA mg) (oc : OrdC K C) : FnOk P w K mg base CX0 1 f fd ["self"] (spLocks C) := by
  refine F.ok sc_Order_locks (fun vs H Q E h => ?_) (fun cdv A outer s H vs Q E hr h => ⟨_, PSs.nox
(pss_one (ps_ret (pe_callTy (call_listK K) (by rfl) T.b_list (by decide +kernel) (pa_cons (kFld K (pe_fld (pv 0) rfl)) pa_nil))))
, ?_⟩)
  · obtain ⟨x, ls, ps, rfl, _⟩ := h
    rfl
  · obtain ⟨x, ls, ps, rfl, ⟨dx, tl, tp, rs, h1, h2, h3, h4⟩, q⟩ := h
    walk_at "ss"
    refine ⟨x, C, dx, _, _, rfl, h1, oc.cls, oc.nl, rfl, ?_⟩
    walk_at "ss"
    exact ⟨tl, _, rfl, Or.inr h2.sq, q⟩
end
end K37
namespace K37
open PySem PySem.Spec PyProof.Rows L2 TB LamX NdefX
open C8 (Cal pe_c Mak pe_mk Met pe_mt pe_mt0 pss_cut tCut pe_gc)
abbrev s_Order_pairs : Stmt := inClass (top 8) 3
theorem sc_Order_pairs : FnScope ["self"] ["self"] (defScope s_Order_pairs) := ⟨rfl, rfl, rfl, by decide +kernel, rfl, by decide +kernel, by decide +kernel⟩
section
variable {P : Program} {w : World} {K : PySem.W.Frag} {mg : Str → Option Value} {base : Heap} {f C : Addr} {fd : FuncData}
theorem ok_Order_pairs (F : FnM K "pairs" "Order.pairs" s_Order_pairs [] f fd) (T : BltA mg) (oc : OrdC K C) : FnOk P w K mg base CX0 1 f fd ["self"] (spPairs C) := by
  refine F.ok sc_Order_pairs (fun vs H Q E h => ?_) (fun cdv A outer s H vs Q E hr h => ⟨_, PSs.nox
(pss_one (ps_ret (pe_callTy (call_listK K) (by rfl) T.b_list (by decide +kernel) (pa_cons (kFld K (pe_fld (pv 0) rfl)) pa_nil))))
, ?_⟩)
  · obtain ⟨x, ls, ps, rfl, _⟩ := h
    rfl
  · obtain ⟨x, ls, ps, rfl, ⟨dx, tl, tp, rs, h1, h2, h3, h4⟩, q⟩ := h
    walk_at "ss"
    refine ⟨x, C, dx, _, _, rfl, h1, oc.cls, oc.np, rfl, ?_⟩
    walk_at "ss"
    exact ⟨tp, rs, rfl, Or.inr (sqT_of h3), fun l nl => q l rs nl h4⟩
end
end K37
namespace K37
open PySem PySem.Spec PyProof.Rows L2 TB LamX NdefX L3 OwnE
open C8 (Cal pe_c Mak pe_mk Met pe_mt pe_mt0 pss_cut tCut pe_gc)
abbrev s__law_latches : Stmt := top 13
theorem sc__law_latches : FnScope ["_law_pot_here", "_law_taken", "_law_many", "_law_k"] ["_law_pot_here"] (defScope s__law_latches) := ⟨rfl, rfl, rfl, by decide +kernel, rfl, by decide +kernel, by decide +kernel⟩
section
variable {P : Program} {w : World} {K : PySem.W.Frag} {mg : Str → Option Value} {base : Heap} {f C : Addr} {fd : FuncData} {tb : List (Addr × Str)}
theorem ok__law_latches (F : FnP K "_law_latches" s__law_latches f fd) (T : BltA mg) (c__law_draw : Cal P w K mg base 1 "_law_draw" (lsp ⟨K, tb⟩ none pDraw) []) (c__law_name : Cal P w K mg base 2 "_law_name" (lsp ⟨K, tb⟩ (some 1) pName) []) : FnOk P w K mg base CX0 3 f fd ["_law_pot_here"] (lsp ⟨K, tb⟩ none pLatches) := by
  refine F.ok sc__law_latches (lsp_len (by rintro ds Q3 ⟨rfl, _⟩; rfl)) (fun cdv A outer s H vs Q E hr h => ⟨_, PSs.nox
(pss_cons (toN (ps_set (i := 1) sc__law_latches.nd rfl (.inr rfl) (pe_lst pa_nil)))
  (pss_cons (ps_set (i := 2) sc__law_latches.nd rfl (.inl rfl) (pe_ix (ix_listK K) (pe_lst (pa_cons pe_int (pa_cons pe_int (pa_cons pe_int (pa_cons pe_int (pa_cons pe_int (pa_cons pe_int (pa_cons pe_int (pa_cons pe_int pa_nil))))))))) (pe_c c__law_draw hr (by decide) (by rfl) (pa_cons (pv 0) (pa_cons pe_int pa_nil))) (fun _ _ => rfl)))
  (pss_one (ps_ret (pe_lc (own := [("_law_k", 3)]) (tt := tYes) rfl sc__law_latches.nd (pi_range1 (by rfl) T.b_range (pa_cons (pv 2) pa_nil)) (blkOk_by (N := ["_law_pot_here", "_law_taken", "_law_many", "_law_k"]) (sc := defScope s__law_latches) (by decide +kernel)) (fun _ _ _ _ _ => pg_name (i := 3) sc__law_latches.nd rfl (Or.inl rfl)) (fun _ _ _ _ _ => pts_nil) (fun _ _ _ _ _ => (toIo 1 (pe_c c__law_name hr (by decide) (by rfl) (pa_cons (pv 0) (pa_cons (pv 1) pa_nil))))))))))
, run3' ?go h⟩)
  case go =>
    refine ⟨_, (by walk_at "li"), ?_⟩
    rintro ds Q3 ⟨rfl, q⟩
    walk_at "pp"
    refine ⟨Nat.zero_le _, ?_⟩
    walk_at "pp"
    refine ⟨(by show 8 ≤ sizeLine; decide), ?_⟩
    walk_at "pp"
    refine ⟨8, rfl, by decide, by decide, fun d d1 d2 => ?_⟩
    walk_at "pp"
    obtain ⟨m, hm, m1, m7⟩ : ∃ m : Int, atI [D.int 1, D.int 2, D.int 3, D.int 4, D.int 5, D.int 6, D.int 7, D.int 7] d = some (D.int m) ∧ 1 ≤ m ∧ m ≤ 7 := by
      obtain ⟨k, rfl⟩ := Int.eq_ofNat_of_zero_le d1
      have hk : k < 8 := by omega
      match k, hk with
      | 0, _ => exact ⟨1, atI_nat (j := 0) rfl, by decide, by decide⟩
      | 1, _ => exact ⟨2, atI_nat (j := 1) rfl, by decide, by decide⟩
      | 2, _ => exact ⟨3, atI_nat (j := 2) rfl, by decide, by decide⟩
      | 3, _ => exact ⟨4, atI_nat (j := 3) rfl, by decide, by decide⟩
      | 4, _ => exact ⟨5, atI_nat (j := 4) rfl, by decide, by decide⟩
      | 5, _ => exact ⟨6, atI_nat (j := 5) rfl, by decide, by decide⟩
      | 6, _ => exact ⟨7, atI_nat (j := 6) rfl, by decide, by decide⟩
      | 7, _ => exact ⟨7, atI_nat (j := 7) rfl, by decide, by decide⟩
    refine w_ixL (d := .int m) hm ?_
    walk_at "pp"
    refine ⟨m, rfl, by omega, by omega, ?_⟩
    have mn : m.toNat ≤ 7 := by omega
    have mp : 1 ≤ m.toNat := by omega
    refine ⟨fun i acc ρ => ∃ ws : List Str, ws.length = i ∧ i ≤ m.toNat ∧ acc = strsD ws ∧ ws.Nodup ∧ (∀ z ∈ ws, Nm z) ∧ ρ = [.val potD, .own true (strsD ws), .val (.int m), .un], ⟨[], rfl, Nat.zero_le _, rfl, List.nodup_nil, (fun _ z => nomatch z), rfl⟩, ?_⟩
    rintro i acc ρ ⟨ws, e1, e2, rfl, nd, nm, rfl⟩
    refine ⟨fun hn => ?_, fun d hd => ?_⟩
    case refine_2 =>
      have hi : i < m.toNat := by
        have := (List.getElem?_eq_some_iff.mp hd).1
        simpa using this
      walk_at "pp"
      refine ⟨rfl, io_1, ws, rfl, by omega, fun z hz hn => ?_⟩
      walk_at "pp"
      have lw : (strsD ws).length < sizeLine := small1000 (by rw [List.length_map]; omega)
      refine ⟨lw, ws ++ [z], by rw [List.length_append, e1]; rfl, hi, by simp [strsD], ?_, ?_, rfl⟩
      · rw [List.nodup_append]
        exact ⟨nd, List.nodup_cons.mpr ⟨by simp, List.nodup_nil⟩, by rintro a ha b hb rfl; exact hn (List.mem_singleton.mp hb ▸ ha)⟩
      · intro y hy
        rcases List.mem_append.mp hy with h | h
        · exact nm y h
        · rw [List.mem_singleton.mp h]
          exact hz
    case refine_1 =>
      have hi : i = m.toNat := by
        have := List.getElem?_eq_none_iff.mp hn
        rw [List.length_map, List.length_range] at this
        omega
      walk_at "pp"
      exact q ws nd nm (by omega) (by omega)
end
end K37
namespace K37
open PySem PySem.Spec PyProof.Rows L2 TB LamX NdefX L3 OwnE
open C8 (Cal pe_c Mak pe_mk Met pe_mt pe_mt0 pss_cut tCut pe_gc)
abbrev s__law_reached : Stmt := top 14
theorem sc__law_reached : FnScope ["_law_pairs_here", "_law_start", "_law_found", "_law_left", "_law_here", "_law_low", "_law_high"] ["_law_pairs_here", "_law_start"] (defScope s__law_reached) := ⟨rfl, rfl, rfl, by decide +kernel, rfl, by decide +kernel, by decide +kernel⟩
abbrev s__law_two : Stmt := top 15
theorem sc__law_two : FnScope ["_law_pot_here", "_law_latches_here"] ["_law_pot_here", "_law_latches_here"] (defScope s__law_two) := ⟨rfl, rfl, rfl, by decide +kernel, rfl, by decide +kernel, by decide +kernel⟩
abbrev s__law_pairs : Stmt := top 16
theorem sc__law_pairs : FnScope ["_law_pot_here", "_law_latches_here", "_law_most", "_law_found", "_law_k", "_law_low", "_law_high"] ["_law_pot_here", "_law_latches_here", "_law_most"] (defScope s__law_pairs) := ⟨rfl, rfl, rfl, by decide +kernel, rfl, by decide +kernel, by decide +kernel⟩
section
variable {P : Program} {w : World} {K : PySem.W.Frag} {mg : Str → Option Value} {base : Heap} {f C : Addr} {fd : FuncData} {tb : List (Addr × Str)}
theorem ok__law_reached (F : FnP K "_law_reached" s__law_reached f fd) (T : BltA mg) : FnOk P w K mg base CX0 1 f fd ["_law_pairs_here", "_law_start"] (lsp ⟨K, tb⟩ none pReached) := by
  refine F.ok sc__law_reached (lsp_len (by rintro ds Q3 ⟨qs, a, rfl, _⟩; rfl)) (fun cdv A outer s H vs Q E hr h => ⟨_, PSs.nox
(pss_cons (toNN (ps_par (i := 2) (j := 3) rfl sc__law_reached.nd rfl rfl (by decide) rfl rfl (pa_cons (pe_lst pa_nil) (pa_cons (pe_lst (pa_cons (pv 1) pa_nil)) pa_nil)) rfl))
  (pss_cons (ps_while PassesOwn.never (pt_cmpR (op_neDK K hr.units) (pv 3) (pe_lst pa_nil) (nomark _))
    (pss_cons (ps_set (i := 4) sc__law_reached.nd rfl (.inl rfl) (kBM0 K (pe_bm0 PySem.F.plainAttrs_list PySem.F.slot_list_pop PySem.F.type_list_pop mt_pop (pv 3))))
      (pss_one (ps_for PassesOwn.never rfl (kPI K (pi_list (pv 0))) (kTup K 2 (pg_tup rfl (pgs_cons (pg_name (i := 5) sc__law_reached.nd rfl (.inl rfl)) (pgs_cons (pg_name (i := 6) sc__law_reached.nd rfl (.inl rfl)) pgs_nil))))
        (pss_one (ps_if (PW.pt (pw_and (pt_cmpR op_eq (pv 5) (pv 4) (nomark _)) (pw_and1 (pt_cmpR (op_ninK K) (pv 6) (pv 2) rfl))))
            (pss_cons (ps_expr (kBM K (pe_bm PySem.F.plainAttrs_list PySem.F.slot_list_append PySem.F.type_list_append mt_append (pv 2) (pa_cons (pv 6) pa_nil))))
              (pss_one (ps_expr (kBM K (pe_bm PySem.F.plainAttrs_list PySem.F.slot_list_append PySem.F.type_list_append mt_append (pv 3) (pa_cons (pv 6) pa_nil))))))
            pss_nil))))))
  (pss_one (ps_ret (pv 2)))))
, run3' ?go h⟩)
  case go =>
    refine ⟨_, (by walk_at "li"), ?_⟩
    rintro ds Q3 ⟨qs, a, rfl, hl, na, nq, q⟩
    walk_at "pp"
    refine ⟨Nat.zero_le _, ?_⟩
    walk_at "pp"
    refine ⟨(by show 1 ≤ sizeLine; decide), ?_⟩
    walk_at "pp"
    refine ⟨fun m ρ => ∃ fs lf p4 p5 p6, ρ = [.val (.lst (qs.map L3.prD)), .val (.str a), .own true (strsD fs), .own true (strsD lf), p4, p5, p6] ∧ RInv qs a fs lf ∧ lf.length + 2 * (qs.length - fs.length) ≤ 2 * qs.length + 1 ∧ m = lf.length + 2 * (qs.length - fs.length), ⟨_, [], [a], _, _, _, rfl, RInv.init, by simp only [List.length_cons, List.length_nil]; omega, rfl⟩, ?_⟩
    rintro m ρ ⟨fs, lf, p4, p5, p6, rfl, inv, hbd, rfl⟩
    walk_at "pp"
    refine ⟨Nat.zero_le _, ?_⟩
    walk_at "pp"
    refine w_neStrs (a := lf) (b := []) (found_nm na nq inv.sub inv.lft) (fun _ z => nomatch z) ?_
    walk_at "pp"
    by_cases c : lf = []
    · rw [decide_eq_true c]
      refine iteF ?_
      walk_at "pp"
      subst c
      exact q fs inv.done
    rw [decide_eq_false c]
    refine iteT ?_
    obtain ⟨lf', hh, rfl⟩ : ∃ l x, lf = l ++ [x] := ⟨lf.dropLast, lf.getLast c, (List.dropLast_concat_getLast c).symm⟩
    walk_at "pp"
    refine w_pop (ds := strsD lf') (d := .str hh) (f := true) (by show some _ = some _; rw [show strsD (lf' ++ [hh]) = strsD lf' ++ [D.str hh] from List.map_append]) ?_
    walk_at "pp"
    refine ⟨fun i ρ => ∃ fs2 lf2 p5 p6, ρ = [.val (.lst (qs.map L3.prD)), .val (.str a), .own true (strsD fs2), .own true (strsD lf2), .val (.str hh), p5, p6] ∧ RIn qs a fs2 lf2 hh i ∧ lf2.length + 2 * (qs.length - fs2.length) ≤ lf'.length + 2 * (qs.length - fs.length) ∧ i ≤ qs.length, ⟨fs, lf', _, _, rfl, inv.pop, Nat.le_refl _, Nat.zero_le _⟩, ?_⟩
    rintro i ρ ⟨fs2, lf2, p5, p6, rfl, rin, hle, hi⟩
    refine ⟨fun e => ?_, fun d e => ?_⟩
    · have hi2 : i = qs.length := by
        have := List.getElem?_eq_none_iff.mp e
        rw [List.length_map] at this
        omega
      subst hi2
      rw [List.length_append, List.length_singleton] at hbd
      refine ⟨_, ?_, fs2, lf2, _, _, _, rfl, rin.out, by omega, rfl⟩
      rw [List.length_append, List.length_singleton]
      omega
    · obtain ⟨p, hp, rfl⟩ : ∃ p, qs[i]? = some p ∧ L3.prD p = d := by
        rw [List.getElem?_map] at e
        exact Option.map_eq_some_iff.mp e
      obtain ⟨low, high⟩ := p
      have hi3 : i < qs.length := (List.getElem?_eq_some_iff.mp hp).1
      have hf2 := found_le rin.nd rin.sub
      walk_at "pp"
      by_cases c1 : low = hh
      · rw [decide_eq_true c1]
        refine iteT ?_
        walk_at "pp"
        subst c1
        by_cases c2 : high ∈ fs2
        · rw [decide_eq_true c2]
          refine iteF ?_
          walk_at "pp"
          exact ⟨fs2, lf2, _, _, rfl, rin.skip hp (Or.inr c2), hle, hi3⟩
        · rw [decide_eq_false c2]
          refine iteT ?_
          have rin2 := rin.add hp c2
          have hf3 := found_le rin2.nd rin2.sub
          rw [List.length_append, List.length_singleton] at hf3
          rw [List.length_append, List.length_singleton] at hbd
          walk_at "pp"
          refine ⟨small1000 (by rw [List.length_map]; omega), ?_⟩
          walk_at "pp"
          refine ⟨small1000 (by rw [List.length_map]; omega), ?_⟩
          refine ⟨fs2 ++ [high], lf2 ++ [high], .val (.str low), .val (.str high), ?_, rin2, ?_, hi3⟩
          · rw [show strsD (fs2 ++ [high]) = strsD fs2 ++ [D.str high] from List.map_append, show strsD (lf2 ++ [high]) = strsD lf2 ++ [D.str high] from List.map_append]
            rfl
          · rw [List.length_append, List.length_append, List.length_singleton]
            omega
      · rw [decide_eq_false c1]
        refine iteF ?_
        refine iteF ?_
        walk_at "pp"
        exact ⟨fs2, lf2, _, _, rfl, rin.skip hp (Or.inl c1), hle, hi3⟩
theorem ok__law_two (F : FnP K "_law_two" s__law_two f fd) (T : BltA mg) (c__law_draw : Cal P w K mg base 1 "_law_draw" (lsp ⟨K, tb⟩ none pDraw) []) : FnOk P w K mg base CX0 2 f fd ["_law_pot_here", "_law_latches_here"] (lsp ⟨K, tb⟩ none pTwo) := by
  refine F.ok sc__law_two (lsp_len (by rintro ds Q3 ⟨ls, rfl, _⟩; rfl)) (fun cdv A outer s H vs Q E hr h => ⟨_, PSs.nox
(pss_one (ps_ret (pe_tup (pa_cons (pe_ix (ix_listK K) (pv 1) (pe_c c__law_draw hr (by decide) (by rfl) (pa_cons (pv 0) (pa_cons (pe_callB (call_lenK K) (by rfl) T.b_len PySem.boot_len (pa_cons (pv 1) pa_nil)) pa_nil))) (fun _ _ => rfl)) (pa_cons (pe_ix (ix_listK K) (pv 1) (pe_c c__law_draw hr (by decide) (by rfl) (pa_cons (pv 0) (pa_cons (pe_callB (call_lenK K) (by rfl) T.b_len PySem.boot_len (pa_cons (pv 1) pa_nil)) pa_nil))) (fun _ _ => rfl)) pa_nil)))))
, run3' ?go h⟩)
  case go =>
    refine ⟨_, (by walk_at "li"), ?_⟩
    rintro ds Q3 ⟨ls, rfl, h1, h30, q⟩
    walk_at "pp"
    rw [List.length_map]
    refine ⟨_, rfl, by omega, by omega, fun d d1 d2 => ?_⟩
    obtain ⟨k, rfl⟩ := Int.eq_ofNat_of_zero_le d1
    have hk : k < ls.length := by omega
    walk_at "pp"
    refine w_ixL (d := .str ls[k]) (atI_nat (j := k) (by rw [List.getElem?_map, List.getElem?_eq_getElem hk]; rfl)) ?_
    walk_at "pp"
    rw [List.length_map]
    refine ⟨_, rfl, by omega, by omega, fun d d1 d2 => ?_⟩
    obtain ⟨k2, rfl⟩ := Int.eq_ofNat_of_zero_le d1
    have hk2 : k2 < ls.length := by omega
    walk_at "pp"
    refine w_ixL (d := .str ls[k2]) (atI_nat (j := k2) (by rw [List.getElem?_map, List.getElem?_eq_getElem hk2]; rfl)) ?_
    walk_at "pp"
    exact ⟨(by show 2 ≤ sizeLine; decide), q _ (List.getElem_mem hk) _ (List.getElem_mem hk2)⟩
theorem ok__law_pairs (F : FnP K "_law_pairs" s__law_pairs f fd) (T : BltA mg) (c__law_draw : Cal P w K mg base 1 "_law_draw" (lsp ⟨K, tb⟩ none pDraw) []) (c__law_two : Cal P w K mg base 2 "_law_two" (lsp ⟨K, tb⟩ none pTwo) []) (c__law_reached : Cal P w K mg base 1 "_law_reached" (lsp ⟨K, tb⟩ none pReached) []) : FnOk P w K mg base CX0 3 f fd ["_law_pot_here", "_law_latches_here", "_law_most"] (lsp ⟨K, tb⟩ none pPairsL) := by
  refine F.ok sc__law_pairs (lsp_len (by rintro ds Q3 ⟨ls, m, rfl, _⟩; rfl)) (fun cdv A outer s H vs Q E hr h => ⟨_, PSs.nox
(pss_cons (toN (ps_set (i := 3) sc__law_pairs.nd rfl (.inl rfl) (pe_lst pa_nil)))
  (pss_cons (ps_for PassesOwn.never rfl (pi_range1 (by rfl) T.b_range (pa_cons (pe_c c__law_draw hr (by decide) (by rfl) (pa_cons (pv 0) (pa_cons (pe_op op_add (pv 2) pe_int) pa_nil))) pa_nil)) (pg_name (i := 4) sc__law_pairs.nd rfl (.inl rfl))
    (pss_cons (ps_asg (pe_c c__law_two hr (by decide) (by rfl) (pa_cons (pv 0) (pa_cons (pv 1) pa_nil))) (kTup K 2 (pg_tup rfl (pgs_cons (pg_name (i := 5) sc__law_pairs.nd rfl (.inl rfl)) (pgs_cons (pg_name (i := 6) sc__law_pairs.nd rfl (.inl rfl)) pgs_nil)))))
      (pss_one (ps_if (PW.pt (pw_and (pt_cmpR op_ne (pv 5) (pv 6) (nomark _)) (pw_and (pt_cmpR (op_ninK K) (pv 5) (pe_c c__law_reached hr (by decide) (by rfl) (pa_cons (pv 3) (pa_cons (pv 6) pa_nil))) rfl) (pw_and1 (pt_cmpR (kNotInD K (hu65 hr)) (pe_tup (pa_cons (pv 5) (pa_cons (pv 6) pa_nil))) (pv 3) rfl)))))
        (pss_one (ps_expr (kBM K (pe_bm PySem.F.plainAttrs_list PySem.F.slot_list_append PySem.F.type_list_append mt_append (pv 3) (pa_cons (pe_tup (pa_cons (pv 5) (pa_cons (pv 6) pa_nil))) pa_nil)))))
        pss_nil))))
  (pss_one (ps_ret (pv 3)))))
, run3' ?go h⟩)
  case go =>
    refine ⟨_, (by walk_at "li"), ?_⟩
    rintro ds Q3 ⟨ls, m, rfl, h1, h30, nm, m0, m1, q⟩
    walk_at "pp"
    refine ⟨Nat.zero_le _, ?_⟩
    walk_at "pp"
    refine ⟨_, rfl, by omega, by omega, fun n n1 n2 => ?_⟩
    walk_at "pp"
    refine ⟨n, rfl, by omega, by omega, ?_⟩
    refine ⟨fun i ρ => ∃ qs p4 p5 p6, ρ = [.val potD, .val (.lst (strsD ls)), .val (.int m), .own true (qs.map L3.prD), p4, p5, p6] ∧ LP ls qs ∧ qs.length ≤ i ∧ i ≤ n.toNat, ⟨[], _, _, _, rfl, LP.nil, Nat.zero_le _, Nat.zero_le _⟩, ?_⟩
    rintro i ρ ⟨qs, p4, p5, p6, rfl, lp, hq, hi⟩
    refine ⟨fun e => ?_, fun d e => ?_⟩
    · walk_at "pp"
      exact q qs lp (by omega)
    · have hi3 : i < n.toNat := by
        have := (List.getElem?_eq_some_iff.mp e).1
        simpa using this
      have nq : ∀ p ∈ qs, NmP p := fun p hp => ⟨nm _ (lp.mem p hp).1, nm _ (lp.mem p hp).2⟩
      walk_at "pp"
      refine ⟨ls, rfl, h1, h30, fun low hlow high hhigh => ?_⟩
      walk_at "pp"
      by_cases c1 : low = high
      · rw [decide_eq_true c1]
        refine iteF ?_
        refine iteF ?_
        walk_at "pp"
        exact ⟨qs, _, _, _, rfl, lp, by omega, hi3⟩
      rw [decide_eq_false c1]
      refine iteT ?_
      walk_at "pp"
      refine ⟨qs, high, rfl, by omega, nm _ hhigh, nq, fun fs hfs => ?_⟩
      walk_at "pp"
      by_cases c2 : low ∈ fs
      · rw [decide_eq_true c2]
        refine iteF ?_
        refine iteF ?_
        walk_at "pp"
        exact ⟨qs, _, _, _, rfl, lp, by omega, hi3⟩
      rw [decide_eq_false c2]
      refine iteT ?_
      walk_at "pp"
      refine ⟨(by show 2 ≤ sizeLine; decide), ?_⟩
      walk_at "pp"
      refine w_notInPrs (p := (low, high)) (ps := qs) ⟨nm _ hlow, nm _ hhigh⟩ nq ?_
      walk_at "pp"
      by_cases c3 : (low, high) ∈ qs
      · rw [decide_eq_true c3]
        refine iteF ?_
        walk_at "pp"
        exact ⟨qs, _, _, _, rfl, lp, by omega, hi3⟩
      rw [decide_eq_false c3]
      refine iteT ?_
      walk_at "pp"
      refine ⟨(by show 2 ≤ sizeLine; decide), ?_⟩
      walk_at "pp"
      refine ⟨small1000 (by rw [List.length_map]; omega), ?_⟩
      refine ⟨qs ++ [(low, high)], .val d, .val (.str low), .val (.str high), by rw [List.map_append]; rfl, lp.snoc hlow hhigh c1 c3 (fun r => c2 ((hfs _).mpr r)), by rw [List.length_append, List.length_singleton]; omega, hi3⟩
end
end K37
namespace K37
open PySem PySem.Spec PyProof.Rows L2 TB LamX NdefX L3
open C8 (Cal pe_c Mak pe_mk Met pe_mt pe_mt0 pss_cut tCut pe_gc)
abbrev s_Order___init__ : Stmt := inClass (top 8) 0
theorem sc_Order___init__ : FnScope ["self", "locks", "pairs", "one", "other"] ["self", "locks", "pairs"] (defScope s_Order___init__) := ⟨rfl, rfl, rfl, by decide +kernel, rfl, by decide +kernel, by decide +kernel⟩
section
variable {P : Program} {w : World} {K : PySem.W.Frag} {mg : Str → Option Value} {base : Heap} {f C : Addr} {fd : FuncData}
theorem ok_Order___init__P {dvs : List V} {T0 : Addr} (F : FnM K "__init__" "Order.__init__" s_Order___init__ dvs f fd) (T : BltA mg) (oc : OrdC K C) (m_Order_with_pair : Met P w K mg base 4 C "with_pair" (spWith C T0 lamQ) []) : FnOk P w K mg base CX0 5 f fd ["self", "locks", "pairs"] (spInitP K C T0 lamQ) := by
  refine F.ok sc_Order___init__ (fun vs H Q E h => ?_) (fun cdv A outer s H vs Q E hr h => ⟨_, PSs.nox
(pss_cons (kSFld K (ps_fld (pv 0) (pe_callTy (call_tupF K) (by rfl) T.b_tuple (by decide +kernel) (pa_cons (pv 1) pa_nil)) rfl))
  (pss_cons (kSFld K (ps_fld (pv 0) (pe_tup pa_nil) rfl))
  (pss_one (ps_for PassesOwn.never rfl (kPI K (pi_list (pv 2))) (kTup K 2 (pg_tup rfl (pgs_cons (pg_name (i := 3) sc_Order___init__.nd rfl (.inl rfl)) (pgs_cons (pg_name (i := 4) sc_Order___init__.nd rfl (.inl rfl)) pgs_nil))))
    (pss_one (kSFld K (ps_fld (pv 0) (pe_mt m_Order_with_pair hr (by decide) (pv 0) (pa_cons (pv 3) (pa_cons (pv 4) pa_nil))) rfl)))))))
, ?_⟩)
  · obtain ⟨x, dx, l, d, ls, qs, rs, F, rfl, _⟩ := h
    rfl
  · obtain ⟨x, dx, l, d, ls, qs, rs, F, rfl, h1, h2, h3, sF, Fx, FT, hr3, ok0, lp, ql, nt, tb, q⟩ := h
    walk_at "ss"
    refine st_tupF (Or.inl (sqL_of h2)) ?_
    intro tl H1 sm n1 lk
    walk_at "ss"
    refine ⟨x, C, dx, _, rfl, sm _ _ h1, oc.cls, oc.nl, by decide, ?_⟩
    walk_at "ss"
    refine ⟨Nat.zero_le _, fun tp ntp => ?_⟩
    walk_at "ss"
    obtain ⟨ntx, ntp1⟩ := nil_upd ntp
    refine ⟨x, C, dx, _, rfl, old_upd ntp upd_same, oc.cls, oc.np, (by show 1 < 1000; decide), ?_⟩
    have k1 : Kp [x] H (upd (upd (upd H1 x (.ins C dx (putF "own_locks" (.ref tl) []))) tp (.tup [])) x (.ins C dx (putF "own_pairs" (.ref tp) (putF "own_locks" (.ref tl) [])))) := ((((show Kp [x] H H1 from fun b o e _ => sm b o e).mut (by simp)).new ntp).mut (by simp))
    have nt1 : NoT (upd (upd (upd H1 x (.ins C dx (putF "own_locks" (.ref tl) []))) tp (.tup [])) x (.ins C dx (putF "own_pairs" (.ref tp) (putF "own_locks" (.ref tl) [])))) := NoT.upd (o := .ins _ _ _) (NoT.upd (o := .tup _) (NoT.upd (o := .ins _ _ _) (n1 nt) trivial) trivial) trivial
    have oa1 : OrdAt C (upd (upd (upd H1 x (.ins C dx (putF "own_locks" (.ref tl) []))) tp (.tup [])) x (.ins C dx (putF "own_pairs" (.ref tp) (putF "own_locks" (.ref tl) [])))) x ls [] := by
      refine ⟨dx, tl, tp, [], upd_same, ?_, ?_, .nil⟩
      · have hx : ∀ ob u, H1 tl = some (.frz ob u) → tl ≠ x := fun ob u e z => by
          rw [z, sm _ _ h1] at e
          exact nomatch e
        refine lk.keep fun ob u e => ?_
        rw [upd_ne (hx ob u e), upd_ne (ne_of_none e ntp1), upd_ne (hx ob u e)]
        exact e
      · rw [upd_ne ntx, upd_same]
    have tb1 : TabS (upd (upd (upd H1 x (.ins C dx (putF "own_locks" (.ref tl) []))) tp (.tup [])) x (.ins C dx (putF "own_pairs" (.ref tp) (putF "own_locks" (.ref tl) [])))) T0 lamQ := TabS.mutI (TabS.new (TabS.mutI (tb.ext sm) (sm _ _ h1)) ntp) (old_upd ntp upd_same)
    generalize (upd (upd (upd H1 x (.ins C dx (putF "own_locks" (.ref tl) []))) tp (.tup [])) x (.ins C dx (putF "own_pairs" (.ref tp) (putF "own_locks" (.ref tl) [])))) = H2 at k1 nt1 oa1 tb1 ⊢
    have nxT : T0 ≠ x := by
      obtain ⟨ts, e, _⟩ := tb
      exact ne_of e h1 (fun z => nomatch z)
    have ndx : d ≠ x := ne_of h3 h1 (fun z => nomatch z)
    have ndT : d ≠ T0 := by
      obtain ⟨ts, e, _⟩ := tb
      exact ne_of h3 e (fun z => nomatch z)
    walk_at "ss"
    have mem2 : ∀ b, b ≠ x → b ≠ T0 → b ∉ [x, T0] := fun b n1 n2 m => by
      rcases List.mem_cons.mp m with m | m
      · exact n1 m
      · exact n2 (List.mem_singleton.mp m)
    have hd2 : ∀ H', Kp [x, T0] H H' → SqL K H' d rs := fun H' k => sqL_of (k _ _ h3 (mem2 d ndx ndT))
    have k2 : Kp [x, T0] H H2 := fun b o e m => k1 b o e (fun z => m (List.mem_cons.mpr (Or.inl (List.mem_singleton.mp z))))
    refine ⟨d, rfl, ⟨rs, hd2 _ k2⟩, ?_⟩
    refine for_walk (wk_list (xs := rs)) (fun i σ H3 => ∃ (y3 y4 : Option V) (ps : List Pr), σ = [some (.ref x), some (.ref l), some (.ref d), y3, y4] ∧ Kp [x, T0] H H3 ∧ NoT H3 ∧ TabS H3 T0 lamQ ∧ OrdAt C H3 x ls ps ∧ OrdOk ls ps ∧ ∀ z, z ∈ ps ↔ z ∈ qs.take i) ⟨none, none, [], rfl, k2, nt1, tb1, oa1, ok0, fun z => by simp⟩ ?_ ?_ ?_
    · rintro i σ H3 ⟨y3, y4, ps, rfl, k3, _⟩
      exact hd2 _ k3
    · rintro i v σ H3 hv ⟨y3, y4, ps, rfl, k3, nt3, tb3, oa3, ok3, mm⟩
      obtain ⟨dp, hdp, rp⟩ := hr3.get hv
      obtain ⟨p, hp, rfl⟩ : ∃ p, qs[i]? = some p ∧ L3.prD p = dp := by
        rw [List.getElem?_map] at hdp
        exact Option.map_eq_some_iff.mp hdp
      have sF3 : Same F H3 := fun b o e => k3 b o (sF _ _ e) (mem2 b (fun z => by rw [z, Fx] at e; exact nomatch e) (fun z => by rw [z, FT] at e; exact nomatch e))
      obtain ⟨t, us, rfl, ht, v1, t1, rfl, e1, v2, t2, rfl, e2, et⟩ := rp.mono sF3
      obtain rfl : t2 = [] := et
      obtain rfl : v1 = .str p.1 := e1
      obtain rfl : v2 = .str p.2 := e2
      have hmem : p ∈ qs := List.mem_of_getElem? hp
      have nr : ¬ Rch ps p.2 p.1 := fun r => lp.nr i p hp ((Rch.same mm).mp r)
      obtain ⟨dx3, tl3, tp3, rs3, x1, x2, x3, x4⟩ := id oa3
      walk_at "ss"
      refine st_gtup ht rfl ?_
      walk_at "ss"
      refine ⟨x, dx3, _, rfl, x1, rfl, ?_⟩
      walk_at "ss"
      refine ⟨x, p.1, p.2, ls, ps, rfl, oa3, ok3, (lp.mem p hmem).1, (lp.mem p hmem).2, lp.ne p hmem, nr, nt3, tb3, ?_⟩
      intro H4 t4 rs4 qs4 tg ht4 hp4 hq4 hm4
      obtain ⟨dy3, tl4, tp4, rs0, y1, y2, y3', y4'⟩ := OrdAt.tg oa3 tg tb3
      walk_at "ss"
      refine ⟨x, C, dy3, _, rfl, y1, oc.cls, oc.np, (by show 2 < 1000; decide), ?_⟩
      walk_at "ss"
      have kt : ∀ c o, H4 c = some o → (∀ C dx fs, o ≠ .ins C dx fs) → upd H4 x (.ins C dy3 (putF "own_pairs" (.ref t4) [("own_locks", .ref tl4), ("own_pairs", .ref tp4)])) c = some o := by
        intro c o e n
        refine oth_upd (fun z => ?_) e
        rw [z, y1] at e
        exact n _ _ _ (Option.some.inj e).symm
      refine ⟨_, _, qs4, rfl, ?_, (tg.nt nt3).upd trivial, TabS.mutI tg.tab y1, ⟨dy3, tl4, t4, rs4, upd_same, y2.keep (fun ob u e => kt _ _ e (fun _ _ _ z => nomatch z)), kt _ _ ht4 (fun _ _ _ z => nomatch z), hp4.keep (fun c xs e => kt _ _ e (fun _ _ _ z => nomatch z))⟩, hq4, fun z => ?_⟩
      · intro b o e m
        have n1 : b ≠ x := fun z => m (List.mem_cons.mpr (Or.inl z))
        have n2 : b ≠ T0 := fun z => m (List.mem_cons.mpr (Or.inr (List.mem_singleton.mpr z)))
        exact oth_upd n1 (tg.kp b o (k3 b o e m) (fun z => n2 (List.mem_singleton.mp z)))
      · rw [hm4, mm, take_next hp, List.mem_append, List.mem_singleton]
    · rintro σ H3 ⟨y3, y4, ps, rfl, k3, nt3, tb3, oa3, ok3, mm⟩
      have hl := hr3.len
      rw [List.length_map] at hl
      rw [hl, List.take_length] at mm
      exact q H3 ps k3 nt3 tb3 oa3 ok3 mm
end
end K37
namespace K37
open PySem PySem.Spec PyProof.Rows L2 TB LamX NdefX L3
open C8 (Cal pe_c Mak pe_mk Met pe_mt pe_mt0 pss_cut tCut pe_gc)
abbrev s_stands_free : Stmt := top 5
theorem sc_stands_free : FnScope ["order", "lock", "line", "one", "other"] ["order", "lock", "line"] (defScope s_stands_free) := ⟨rfl, rfl, rfl, by decide +kernel, rfl, by decide +kernel, by decide +kernel⟩
section
variable {P : Program} {w : World} {K : PySem.W.Frag} {mg : Str → Option Value} {base : Heap} {f C : Addr} {fd : FuncData} {tb : List (Addr × Str)}
theorem ok_stands_free (F : FnP K "stands_free" s_stands_free f fd) (T : BltA mg) (m_Order_pairs : Met P w K mg base 1 C "pairs" (lsp ⟨K, tb⟩ none (pPairs C)) []) : FnOk P w K mg base CX0 2 f fd ["order", "lock", "line"] (lsp ⟨K, tb⟩ none (pFree C)) := by
  refine F.ok sc_stands_free (lsp_len (by rintro ds Q3 ⟨ls, ps, z, xs, rfl, _⟩; rfl)) (fun cdv A outer s H vs Q E hr h => ⟨_, PSs.nox
(pss_one (ps_ret (pe_callB (cr_allK K) (by rfl) T.b_all (by decide +kernel) (pa_cons (pe_lc (own := [("one", 3), ("other", 4)]) rfl sc_stands_free.nd (kPI K (pi_list (pe_mt0 m_Order_pairs hr (by decide) (pv 0)))) (blkOk_by (N := ["order", "lock", "line", "one", "other"]) (sc := defScope s_stands_free) (by decide +kernel)) (fun _ _ _ _ _ => kTup K 2 (pg_tup rfl (pgs_cons (pg_name (i := 3) sc_stands_free.nd rfl (Or.inl rfl)) (pgs_cons (pg_name (i := 4) sc_stands_free.nd rfl (Or.inl rfl)) pgs_nil)))) (fun _ _ _ _ _ => pts_one (pt_cmpR op_eq (pv 4) (pv 1) (nomark _))) (fun _ _ _ _ _ => (pe_cmpR (op_inK K) (pv 3) (pv 2) rfl))) pa_nil))))
, run3' ?go h⟩)
  case go =>
    refine ⟨_, (by walk_at "li"), ?_⟩
    rintro ds Q3 ⟨ls, ps, z, xs, rfl, ok, q⟩
    walk_at "pp"
    refine ⟨ls, ps, rfl, ?_⟩
    walk_at "pp"
    refine LcP_filter (xs := ps) (enc := L3.prD) (fun p => decide (p.2 = z)) (fun p => .bl (decide (p.1 ∈ xs))) (by have := ok.plen; rw [sizeLine_eq]; omega) ?_ ?_
    · intro p hp Y N hY hN
      walk_at "pp"
      by_cases c : p.2 = z
      · rw [decide_eq_true c]
        refine iteT ?_
        walk_at "pp"
        exact hY _ (decide_eq_true c) rfl
      · rw [decide_eq_false c]
        refine iteF ?_
        exact hN _ (decide_eq_false c) rfl
    · rw [show ((ps.filter fun p => decide (p.2 = z)).map fun p => D.bl (decide (p.1 ∈ xs))) = ((ps.filter fun p => decide (p.2 = z)).map fun p => decide (p.1 ∈ xs)).map D.bl by rw [List.map_map]; rfl]
      walk_at "pp"
      exact q
end
end K37
namespace K37
open PySem PySem.Spec PyProof.Rows L2 TB LamX NdefX L3 OwnE
open C8 (Cal pe_c Mak pe_mk Met pe_mt pe_mt0 pss_cut tCut pe_gc)
abbrev s__law_grown : Stmt := top 17
theorem sc__law_grown : FnScope ["_law_latches_here", "_law_pairs_here", "_law_found", "_law_free", "_law_latch", "_law_low", "_law_high"] ["_law_latches_here", "_law_pairs_here"] (defScope s__law_grown) := ⟨rfl, rfl, rfl, by decide +kernel, rfl, by decide +kernel, by decide +kernel⟩
section
variable {P : Program} {w : World} {K : PySem.W.Frag} {mg : Str → Option Value} {base : Heap} {f C : Addr} {fd : FuncData} {tb : List (Addr × Str)}
theorem ok__law_grown (F : FnP K "_law_grown" s__law_grown f fd) (T : BltA mg) : FnOk P w K mg base CX0 1 f fd ["_law_latches_here", "_law_pairs_here"] (lsp ⟨K, tb⟩ none pGrown) := by
  refine F.ok sc__law_grown (lsp_len (by rintro ds Q3 ⟨ls, qs, rfl, _⟩; rfl)) (fun cdv A outer s H vs Q E hr h => ⟨_, PSs.nox
(pss_cons (toN (ps_set (i := 2) sc__law_grown.nd rfl (.inr rfl) (pe_lst pa_nil)))
  (pss_cons (ps_while PassesOwn.never (pt_cmpR op_lt (pe_callB (call_lenK K) (by rfl) T.b_len PySem.boot_len (pa_cons (pv 2) pa_nil)) (pe_callB (call_lenK K) (by rfl) T.b_len PySem.boot_len (pa_cons (pv 0) pa_nil)) (nomark _))
    (pss_cons (ps_setLc (i := 3) (own := [("_law_latch", 4)]) rfl sc__law_grown.nd rfl rfl (sw_true rfl rfl rfl (by decide +kernel)) (kPI K (pi_list (pv 0))) (blkOk_by (N := ["_law_latches_here", "_law_pairs_here", "_law_found", "_law_free", "_law_latch", "_law_low", "_law_high"]) (sc := defScope s__law_grown) (by decide +kernel)) (fun _ _ _ _ _ => pg_name (i := 4) sc__law_grown.nd rfl (Or.inl rfl)) (fun _ _ _ _ _ => pts_one (pt_cmpR (op_ninK K) (pv 4) (pv 2) rfl)) (fun _ _ _ _ _ => (pv 4)))
      (pss_cons (ps_setLc (i := 3) (own := [("_law_latch", 4)]) rfl sc__law_grown.nd rfl rfl (sw_true rfl rfl rfl (by decide +kernel)) (kPI K (pi_list (pv 3))) (blkOk_by (N := ["_law_latches_here", "_law_pairs_here", "_law_found", "_law_free", "_law_latch", "_law_low", "_law_high"]) (sc := defScope s__law_grown) (by decide +kernel)) (fun _ _ _ _ _ => pg_name (i := 4) sc__law_grown.nd rfl (Or.inr rfl)) (fun _ _ _ _ _ => pts_one (pt_val (pe_callB (cr_allK K) (by rfl) T.b_all (by decide +kernel) (pa_cons (pe_lc (own := [("_law_low", 5), ("_law_high", 6)]) rfl sc__law_grown.nd (kPI K (pi_list (pv 1))) (blkOk_by (by kernel_rfl)) (fun _ _ _ _ _ => kTup K 2 (pg_tup rfl (pgs_cons (pg_name (i := 5) sc__law_grown.nd rfl (Or.inl rfl)) (pgs_cons (pg_name (i := 6) sc__law_grown.nd rfl (Or.inl rfl)) pgs_nil)))) (fun _ _ _ _ _ => pts_one (pt_cmpR op_eq (pv 6) (pv 4) (nomark _))) (fun _ _ _ _ _ => (pe_cmpR (op_inK K) (pv 5) (pv 2) rfl))) pa_nil)))) (fun _ _ _ _ _ => (pv 4)))
      (pss_one (ps_expr (kBM K (pe_bm PySem.F.plainAttrs_list PySem.F.slot_list_append PySem.F.type_list_append mt_append (pv 2) (pa_cons (pe_ix (ix_listK K) (pv 3) (pe_un un_neg pe_int) (fun _ _ => rfl)) pa_nil))))))))
  (pss_one (ps_ret (pv 2)))))
, run3' ?go h⟩)
  case go =>
    refine ⟨_, (by walk_at "li"), ?_⟩
    rintro ds Q3 ⟨ls, qs, rfl, nd, l7, lp, ql, q⟩
    have ac := LP.ac rfl lp
    walk_at "pp"
    refine ⟨Nat.zero_le _, ?_⟩
    walk_at "pp"
    refine ⟨fun m ρ => ∃ fs p3, ρ = [.val (.lst (strsD ls)), .val (.lst (qs.map L3.prD)), .own true (strsD fs), p3, .un, .un, .un] ∧ GA ls qs fs ∧ m = ls.length - fs.length, ⟨_, [], _, rfl, GA.nil, rfl⟩, ?_⟩
    rintro m ρ ⟨fs, p3, rfl, ga, rfl⟩
    have hfl : fs.length ≤ ls.length := nodup_le ga.nd ga.mem
    walk_at "pp"
    rw [List.length_map, List.length_map]
    by_cases c : (fs.length : Int) < (ls.length : Int)
    · rw [decide_eq_true c]
      refine iteT ?_
      obtain ⟨z0, r0, hzr⟩ := next_some2 nd (fun p hp => (lp.mem p hp).1) ac ga.nd ga.mem (by omega)
      walk_at "pp"
      refine LcP_filter (xs := ls) (enc := D.str) (fun y => !decide (y ∈ fs)) D.str (small1000 (by omega)) ?_ ?_
      · intro y hy Y N hY hN
        walk_at "pp"
        by_cases c1 : y ∈ fs
        · rw [decide_eq_true c1]
          refine iteF ?_
          exact hN _ (by rw [decide_eq_true c1]; rfl) rfl
        · rw [decide_eq_false c1]
          refine iteT ?_
          walk_at "pp"
          exact hY _ (by rw [decide_eq_false c1]; rfl) rfl
      walk_at "pp"
      refine LcP_filter (xs := ls.filter fun y => !decide (y ∈ fs)) (enc := D.str) (fun y => freeB qs y fs) D.str (small1000 (Nat.le_trans (List.length_filter_le _ _) (by omega))) ?_ ?_
      · intro y hy Y N hY hN
        walk_at "pp"
        refine LcP_filter (xs := qs) (enc := L3.prD) (fun p => decide (p.2 = y)) (fun p => D.bl (decide (p.1 ∈ fs))) (small1000 (by omega)) ?_ ?_
        · rintro ⟨low, high⟩ hp Y2 N2 hY2 hN2
          walk_at "pp"
          by_cases c2 : high = y
          · rw [decide_eq_true c2]
            refine iteT ?_
            walk_at "pp"
            exact hY2 _ (decide_eq_true c2) rfl
          · rw [decide_eq_false c2]
            refine iteF ?_
            exact hN2 _ (decide_eq_false c2) rfl
        rw [show ((qs.filter fun p => decide (p.2 = y)).map fun p => D.bl (decide (p.1 ∈ fs))) = ((qs.filter fun p => decide (p.2 = y)).map fun p => decide (p.1 ∈ fs)).map D.bl by rw [List.map_map]; rfl]
        walk_at "pp"
        rw [show ((qs.filter fun p => decide (p.2 = y)).map fun p => decide (p.1 ∈ fs)).all id = freeB qs y fs from rfl]
        cases c2 : freeB qs y fs with
        | true =>
          refine iteT ?_
          walk_at "pp"
          exact hY _ c2 rfl
        | false =>
          refine iteF ?_
          exact hN _ c2 rfl
      have en : ((ls.filter fun y => !decide (y ∈ fs)).filter fun y => freeB qs y fs) = nextL ls qs fs := by
        unfold nextL
        rw [List.filter_filter]
        refine List.filter_congr fun y _ => ?_
        rw [Bool.and_comm]
      rw [en]
      have hne : nextL ls qs fs ≠ [] := by rw [hzr]; exact List.cons_ne_nil _ _
      obtain ⟨pre, z, ez⟩ : ∃ l x, nextL ls qs fs = l ++ [x] := ⟨_, _, (List.dropLast_concat_getLast hne).symm⟩
      have hz : z ∈ nextL ls qs fs := by rw [ez]; simp
      have ga2 := ga.snoc hz
      have hfl2 : (fs ++ [z]).length ≤ ls.length := nodup_le ga2.nd ga2.mem
      walk_at "pp"
      refine ⟨1, rfl, ?_⟩
      walk_at "pp"
      refine w_ixL (d := .str z) (by rw [ez, List.map_append]; exact L2.atI_last _ _) ?_
      walk_at "pp"
      refine ⟨by rw [List.length_map]; exact small1000 (by omega), ?_⟩
      refine ⟨_, ?_, fs ++ [z], _, by rw [show strsD (fs ++ [z]) = strsD fs ++ [D.str z] from List.map_append]; rfl, ga2, rfl⟩
      rw [List.length_append, List.length_singleton] at hfl2 ⊢
      omega
    · rw [decide_eq_false c]
      refine iteF ?_
      walk_at "pp"
      exact q fs (ga.line nd (by omega))
end
end K37
namespace K37
open PySem PySem.Spec PyProof.Rows L2 TB LamX NdefX L3 OwnE
open C8 (Cal pe_c Mak pe_mk Met pe_mt pe_mt0 pss_cut tCut pe_gc)
abbrev s__law_due : Stmt := top 19
theorem sc__law_due : FnScope ["_law_latches_here", "_law_pairs_here", "_law_thing", "_law_latch", "_law_low", "_law_high"] ["_law_latches_here", "_law_pairs_here", "_law_thing"] (defScope s__law_due) := ⟨rfl, rfl, rfl, by decide +kernel, rfl, by decide +kernel, by decide +kernel⟩
section
variable {P : Program} {w : World} {K : PySem.W.Frag} {mg : Str → Option Value} {base : Heap} {f C : Addr} {fd : FuncData} {tb : List (Addr × Str)}
theorem ok__law_due (F : FnP K "_law_due" s__law_due f fd) (T : BltA mg) : FnOk P w K mg base CX0 1 f fd ["_law_latches_here", "_law_pairs_here", "_law_thing"] (lsp ⟨K, tb⟩ none pDue37) := by
  refine F.ok sc__law_due (lsp_len (by rintro ds Q3 ⟨ls, qs, t, rfl, _⟩; rfl)) (fun cdv A outer s H vs Q E hr h => ⟨_, PSs.nox
(pss_cons (ps_if (PW.pt (pw_or (pt_not (pt_val (pe_callB (call_isiX K) (by rfl) T.b_isinstance (by decide +kernel) (pa_cons (pv 2) (pa_cons (pe_bltn (v := .ty "list") (u := .type "list") (by rfl) T.b_list (by decide +kernel) rfl) pa_nil))))) (pw_or1 (pt_cmpR op_ne (pe_callB (call_lenK K) (by rfl) T.b_len PySem.boot_len (pa_cons (pv 2) pa_nil)) (pe_callB (call_lenK K) (by rfl) T.b_len PySem.boot_len (pa_cons (pv 0) pa_nil)) (nomark _)))))
    (pss_one (ps_ret pe_bl))
    pss_nil)
  (pss_cons (ps_if (pt_not (pt_val (pe_callB (cr_allK K) (by rfl) T.b_all (by decide +kernel) (pa_cons (pe_lc (own := [("_law_latch", 3)]) (tt := tYes) rfl sc__law_due.nd (kPI K (pi_list (pv 0))) (blkOk_by (N := ["_law_latches_here", "_law_pairs_here", "_law_thing", "_law_latch", "_law_low", "_law_high"]) (sc := defScope s__law_due) (by decide +kernel)) (fun _ _ _ _ _ => pg_name (i := 3) sc__law_due.nd rfl (Or.inl rfl)) (fun _ _ _ _ _ => pts_nil) (fun _ _ _ _ _ => (pe_cmpR (kInX K (hu65 hr)) (pv 3) (pv 2) rfl))) pa_nil))))
    (pss_one (ps_ret pe_bl))
    pss_nil)
  (pss_one (ps_ret (pe_callB (cr_allK K) (by rfl) T.b_all (by decide +kernel) (pa_cons (pe_lc (own := [("_law_low", 4), ("_law_high", 5)]) (tt := tYes) rfl sc__law_due.nd (kPI K (pi_list (pv 1))) (blkOk_by (N := ["_law_latches_here", "_law_pairs_here", "_law_thing", "_law_latch", "_law_low", "_law_high"]) (sc := defScope s__law_due) (by decide +kernel)) (fun _ _ _ _ _ => kTup K 2 (pg_tup rfl (pgs_cons (pg_name (i := 4) sc__law_due.nd rfl (Or.inl rfl)) (pgs_cons (pg_name (i := 5) sc__law_due.nd rfl (Or.inl rfl)) pgs_nil)))) (fun _ _ _ _ _ => pts_nil) (fun _ _ _ _ _ => (pe_cmpR op_lt (kBM K (pe_bm PySem.F.plainAttrs_list PySem.F.slot_list_index PySem.F.type_list_index (mt_indexK K) (pv 2) (pa_cons (pv 4) pa_nil))) (kBM K (pe_bm PySem.F.plainAttrs_list PySem.F.slot_list_index PySem.F.type_list_index (mt_indexK K) (pv 2) (pa_cons (pv 5) pa_nil))) (nomark _)))) pa_nil))))))
, run3' ?go h⟩)
  case go =>
    refine ⟨_, (by walk_at "li"), ?_⟩
    rintro ds Q3 ⟨ls, qs, t, rfl, nd, nm, l7, mem, ql, th, q⟩
    have no : ∀ b : Bool, b = false → ¬ IsLn ls qs t → Q3 (.val (.bl b)) none := fun b e n => q b ⟨fun e2 => absurd (e.symm.trans e2) (by decide), fun l => absurd l n⟩
    rcases th.cases with ⟨ds, rfl, dl, its⟩ | ⟨ty, e1, e2, ne⟩
    · walk_at "pp"
      refine iteF ?_
      walk_at "pp"
      rw [List.length_map]
      by_cases c1 : ds.length = ls.length
      · rw [decide_eq_true (by rw [c1])]
        refine iteF ?_
        walk_at "pp"
        have inn : ∀ z ∈ ls, ∃ b, ∃ bs, Paired (eqXD (.str z)) ds bs ∧ bs.any id = b ∧ (b = true ↔ D.str z ∈ ds) := fun z hz => by
          obtain ⟨bs, h1, h2⟩ := its_in (Nm.sg (nm z hz)) its
          exact ⟨_, bs, h1, rfl, h2⟩
        classical
        refine LcP_map (xs := ls) (enc := D.str) (fun z => D.bl (decide (D.str z ∈ ds))) (small1000 (by omega)) ?_ ?_
        · intro z hz Y N hY
          obtain ⟨b, bs, h1, h2, h3⟩ := inn z hz
          have eb : b = decide (D.str z ∈ ds) := by
            by_cases c : D.str z ∈ ds
            · rw [decide_eq_true c]; exact h3.mpr c
            · rw [decide_eq_false c]
              cases b with
              | false => rfl
              | true => exact absurd (h3.mp rfl) c
          walk_at "pp"
          refine iteT ?_
          walk_at "pp"
          refine ⟨ds, bs, Or.inl rfl, h1, ?_⟩
          rw [h2, eb]
          walk_at "pp"
          exact hY _ rfl
        rw [show (ls.map fun z => D.bl (decide (D.str z ∈ ds))) = (ls.map fun z => decide (D.str z ∈ ds)).map D.bl by rw [List.map_map]; rfl]
        walk_at "pp"
        by_cases c2 : ∀ z ∈ ls, D.str z ∈ ds
        · rw [show ((ls.map fun z => decide (D.str z ∈ ds)).all id) = true by
            rw [List.all_map, List.all_eq_true]
            exact fun z hz => decide_eq_true (c2 z hz)]
          refine iteF ?_
          obtain ⟨line, rfl, pm⟩ := its_line nd c1 c2
          have hix := line_ix nd pm mem
          walk_at "pp"
          refine LcP_map (xs := qs) (enc := L3.prD) (fun p => D.bl (decide ((ixS line p.1 : Int) < (ixS line p.2 : Int)))) (small1000 (by omega)) ?_ ?_
          · rintro ⟨a, b⟩ hp Y N hY
            obtain ⟨m1, m2⟩ := mem _ hp
            walk_at "pp"
            refine iteT ?_
            walk_at "pp"
            refine ⟨line, a, rfl, rfl, pm.mem_iff.mpr m1, ?_⟩
            walk_at "pp"
            refine ⟨line, b, rfl, rfl, pm.mem_iff.mpr m2, ?_⟩
            walk_at "pp"
            exact hY _ rfl
          rw [show (qs.map fun p => D.bl (decide ((ixS line p.1 : Int) < (ixS line p.2 : Int)))) = (qs.map fun p => decide ((ixS line p.1 : Int) < (ixS line p.2 : Int))).map D.bl by rw [List.map_map]; rfl]
          walk_at "pp"
          refine q _ ?_
          rw [List.all_map, List.all_eq_true]
          constructor
          · intro h
            refine ⟨line, rfl, hix.mpr fun p hp => ?_⟩
            have := of_decide_eq_true (h p hp)
            omega
          · rintro ⟨l2, e, lp⟩ p hp
            obtain rfl := strsD_inj (by injection e : strsD line = strsD l2)
            have := hix.mp lp p hp
            exact decide_eq_true (by omega)
        · rw [show ((ls.map fun z => decide (D.str z ∈ ds)).all id) = false by
            cases e : (ls.map fun z => decide (D.str z ∈ ds)).all id with
            | false => rfl
            | true =>
              rw [List.all_map, List.all_eq_true] at e
              exact absurd (fun z hz => of_decide_eq_true (e z hz)) c2]
          refine iteT ?_
          walk_at "pp"
          refine no false rfl ?_
          rintro ⟨line, e, lp⟩
          obtain rfl : ds = strsD line := by injection e
          exact c2 fun z hz => List.mem_map.mpr ⟨z, lp.pm.mem_iff.mpr hz, rfl⟩
      · rw [decide_eq_false (fun e => c1 (by omega))]
        refine iteT ?_
        walk_at "pp"
        refine no false rfl ?_
        rintro ⟨line, e, lp⟩
        obtain rfl : ds = strsD line := by injection e
        exact c1 (by rw [List.length_map]; exact lp.pm.length_eq)
    · walk_at "pp"
      refine w_isi e1 e2 ?_
      walk_at "pp"
      refine iteT ?_
      refine iteT ?_
      walk_at "pp"
      exact no false rfl (fun ⟨line, e, _⟩ => ne _ e)
end
end K37
namespace K37
open PySem PySem.Spec PyProof.Rows L2 TB LamX NdefX L3
open C8 (Cal pe_c Mak pe_mk Met pe_mt pe_mt0 pss_cut tCut pe_gc)
abbrev s_is_line : Stmt := top 6
theorem sc_is_line : FnScope ["order", "locks", "lock", "at"] ["order", "locks"] (defScope s_is_line) := ⟨rfl, rfl, rfl, by decide +kernel, rfl, by decide +kernel, by decide +kernel⟩
section
variable {P : Program} {w : World} {K : PySem.W.Frag} {mg : Str → Option Value} {base : Heap} {f C : Addr} {fd : FuncData} {tb : List (Addr × Str)}
theorem ok_is_line (F : FnP K "is_line" s_is_line f fd) (T : BltA mg) (c_stands_free : Cal P w K mg base 2 "stands_free" (lsp ⟨K, tb⟩ none (pFree C)) []) (m_Order_locks : Met P w K mg base 1 C "locks" (lsp ⟨K, tb⟩ none (pLocks C)) []) :
    FnOk P w K mg base CX0 3 f fd ["order", "locks"] (lsp ⟨K, tb⟩ none (pIsLX C)) := by
  refine F.ok sc_is_line (lsp_len (by rintro ds Q3 ⟨ls, ps, t, rfl, _⟩; rfl)) (fun cdv A outer s H vs Q E hr h => ⟨_, PSs.nox
(pss_cons (ps_if (PW.pt (pw_or (pt_not (pt_val (pe_callB (call_isiX K) (by rfl) T.b_isinstance (by decide +kernel) (pa_cons (pv 1) (pa_cons (pe_bltn (v := .ty "list") (u := .type "list") (by rfl) T.b_list (by decide +kernel) rfl) pa_nil))))) (pw_or1 (pt_not (pt_val (pe_callB (cr_allK K) (by rfl) T.b_all (by decide +kernel) (pa_cons (pe_lc (own := [("lock", 2)]) (tt := tYes) rfl sc_is_line.nd (kPI K (pi_list (pv 1))) (blkOk_by (N := ["order", "locks", "lock", "at"]) (sc := defScope s_is_line) (by decide +kernel)) (fun _ _ _ _ _ => pg_name (i := 2) sc_is_line.nd rfl (Or.inl rfl)) (fun _ _ _ _ _ => pts_nil) (fun _ _ _ _ _ => (pe_callB (call_isiX K) (by rfl) T.b_isinstance (by decide +kernel) (pa_cons (pv 2) (pa_cons (pe_bltn (v := .ty "str") (u := .type "str") (by rfl) T.b_str (by decide +kernel) rfl) pa_nil))))) pa_nil)))))))
    (pss_one (ps_ret pe_bl))
    pss_nil)
  (pss_cons (ps_if (pt_cmpR (op_neDK K hr.units) (pe_callB (cr_sortedSK K) (by rfl) T.b_sorted (by decide +kernel) (pa_cons (pv 1) pa_nil)) (pe_callB (cr_sortedSK K) (by rfl) T.b_sorted (by decide +kernel) (pa_cons (pe_mt0 m_Order_locks hr (by decide) (pv 0)) pa_nil)) (nomark _))
    (pss_one (ps_ret pe_bl))
    pss_nil)
  (pss_one (ps_ret (pe_callB (cr_allK K) (by rfl) T.b_all (by decide +kernel) (pa_cons (pe_lc (own := [("at", 3), ("lock", 2)]) (tt := tYes) rfl sc_is_line.nd (kPEn K (pi_enum (by rfl) T.b_enumerate (pa_cons (pv 1) pa_nil))) (blkOk_by (N := ["order", "locks", "lock", "at"]) (sc := defScope s_is_line) (by decide +kernel)) (fun _ _ _ _ _ => kTup K 2 (pg_tup rfl (pgs_cons (pg_name (i := 3) sc_is_line.nd rfl (Or.inl rfl)) (pgs_cons (pg_name (i := 2) sc_is_line.nd rfl (Or.inl rfl)) pgs_nil)))) (fun _ _ _ _ _ => pts_nil) (fun _ _ _ _ _ => (pe_c c_stands_free hr (by decide) (by rfl) (pa_cons (pv 0) (pa_cons (pv 2) (pa_cons (pe_slice (sl_listK K) (pv 1) po_none (po_some (pv 3))) pa_nil)))))) pa_nil))))))
, run3' ?go h⟩)
  case go =>
    refine ⟨_, (by walk_at "li"), ?_⟩
    rintro ds Q3 ⟨ls, ps, t, rfl, ok, l7, th, q⟩
    have no : ∀ b : Bool, b = false → ¬ IsLn ls ps t → Q3 (.val (.bl b)) none := fun b e n => q b ⟨fun e2 => absurd (e.symm.trans e2) (by decide), fun l => absurd l n⟩
    rcases th.cases with ⟨ds, rfl, dl, its⟩ | ⟨ty, e1, e2, ne⟩
    · walk_at "pp"
      refine iteF ?_
      walk_at "pp"
      classical
      refine LcP_mapI (fun d => D.bl (decide (∃ z, d = D.str z))) (small1000 (by omega)) ?_ ?_
      · intro d hd Y N hY
        obtain ⟨ty, b, t1, t2, t3⟩ := (its d hd).ty
        have eb : b = decide (∃ z, d = D.str z) := by
          by_cases c : ∃ z, d = D.str z
          · rw [decide_eq_true c]; exact t3.mpr c
          · rw [decide_eq_false c]
            cases b with
            | false => rfl
            | true => exact absurd (t3.mp rfl) c
        walk_at "pp"
        refine iteT ?_
        walk_at "pp"
        refine w_isi t1 t2 ?_
        rw [eb]
        walk_at "pp"
        exact hY _ rfl
      rw [show (ds.map fun d => D.bl (decide (∃ z, d = D.str z))) = (ds.map fun d => decide (∃ z, d = D.str z)).map D.bl by rw [List.map_map]; rfl]
      walk_at "pp"
      by_cases c : ∀ d ∈ ds, ∃ z, d = D.str z
      · rw [show ((ds.map fun d => decide (∃ z, d = D.str z)).all id) = true by
          rw [List.all_map, List.all_eq_true]
          exact fun z hz => decide_eq_true (c z hz)]
        refine iteF ?_
        obtain ⟨ws, rfl⟩ := all_strs c
        have sg : ∀ z ∈ ws, Sg z := fun z hz => by
          have := its (D.str z) (List.mem_map.mpr ⟨z, hz, rfl⟩)
          cases this with
          | str h => exact h
        rw [List.length_map] at dl
        walk_at "pp"
        refine ⟨ws, rfl, by omega, fun ys pm1 so1 => ?_⟩
        walk_at "pp"
        refine ⟨ls, ps, rfl, ?_⟩
        walk_at "pp"
        refine ⟨ls, rfl, by omega, fun ys2 pm2 so2 => ?_⟩
        walk_at "pp"
        have sg1 : ∀ z ∈ ys, Sg z := fun z hz => sg z (pm1.mem_iff.mp hz)
        have sg2 : ∀ z ∈ ys2, Sg z := fun z hz => Nm.sg (ok.nm z (pm2.mem_iff.mp hz))
        refine w_neStrsG sg1 sg2 ?_
        walk_at "pp"
        by_cases c2 : ys = ys2
        · rw [decide_eq_true c2]
          refine iteF ?_
          subst c2
          have pm : ws.Perm ls := pm1.symm.trans pm2
          walk_at "pp"
          rw [enum_map]
          refine LcP_map (xs := ws.zipIdx) (enc := fun p => D.tup [.int (p.2 : Nat), .str p.1]) (fun p => .bl (freeB ps p.1 (ws.take p.2))) (by rw [List.length_zipIdx]; exact small1000 (by omega)) ?_ ?_
          · intro p hp Y N hY
            obtain ⟨z, i⟩ := p
            have hzi : ws[i]? = some z := by
              have := List.mem_zipIdx_iff_getElem?.mp hp
              simpa using this
            have hil : i < ws.length := (List.getElem?_eq_some_iff.mp hzi).1
            walk_at "pp"
            refine iteT ?_
            walk_at "pp"
            rw [cut_toD D.str ws i (Nat.le_of_lt hil)]
            refine ⟨ls, ps, z, ws.take i, rfl, ok, ?_⟩
            walk_at "pp"
            exact hY _ rfl
          rw [show (ws.zipIdx.map fun p => D.bl (freeB ps p.1 (ws.take p.2))) = (ws.zipIdx.map fun p => freeB ps p.1 (ws.take p.2)).map D.bl by rw [List.map_map]; rfl]
          walk_at "pp"
          refine q _ ?_
          rw [List.all_map, List.all_eq_true]
          constructor
          · intro h
            refine ⟨ws, rfl, pm, fun i z e => h (z, i) ?_⟩
            exact List.mem_zipIdx_iff_getElem?.mpr (by simpa using e)
          · rintro ⟨l2, e, lp⟩ ⟨z, i⟩ hp
            obtain rfl := strsD_inj (by injection e : strsD ws = strsD l2)
            have hzi : ws[i]? = some z := by
              have := List.mem_zipIdx_iff_getElem?.mp hp
              simpa using this
            exact lp.free i z hzi
        · rw [decide_eq_false c2]
          refine iteT ?_
          walk_at "pp"
          refine no false rfl ?_
          rintro ⟨line, e, lp⟩
          obtain rfl := strsD_inj (by injection e : strsD ws = strsD line)
          exact c2 (sorted_one ((pm1.trans lp.pm).trans pm2.symm) so1 so2)
      · rw [show ((ds.map fun d => decide (∃ z, d = D.str z)).all id) = false by
          cases e : (ds.map fun d => decide (∃ z, d = D.str z)).all id with
          | false => rfl
          | true =>
            rw [List.all_map, List.all_eq_true] at e
            exact absurd (fun z hz => of_decide_eq_true (e z hz)) c]
        refine iteT ?_
        walk_at "pp"
        refine no false rfl ?_
        rintro ⟨line, e, lp⟩
        obtain rfl : ds = strsD line := by injection e
        exact c fun d hd => by
          obtain ⟨z, _, rfl⟩ := List.mem_map.mp hd
          exact ⟨z, rfl⟩
    · walk_at "pp"
      refine w_isi e1 e2 ?_
      walk_at "pp"
      refine iteT ?_
      refine iteT ?_
      walk_at "pp"
      exact no false rfl (fun ⟨line, e, _⟩ => ne _ e)
end
end K37
namespace K37
open PySem PySem.Spec PyProof.Rows L2 TB LamX NdefX L3 OwnE
open C8 (Cal pe_c Mak pe_mk Met pe_mt pe_mt0 pss_cut tCut pe_gc)
abbrev s__law_spoilt : Stmt := top 18
theorem sc__law_spoilt : FnScope ["_law_pot_here", "_law_latches_here", "_law_line", "_law_way", "_law_at", "_law_beside", "_law_found", "_law_k"] ["_law_pot_here", "_law_latches_here", "_law_line"] (defScope s__law_spoilt) := ⟨rfl, rfl, rfl, by decide +kernel, rfl, by decide +kernel, by decide +kernel⟩
section
variable {P : Program} {w : World} {K : PySem.W.Frag} {mg : Str → Option Value} {base : Heap} {f C : Addr} {fd : FuncData} {tb : List (Addr × Str)}
theorem ok__law_spoilt (F : FnP K "_law_spoilt" s__law_spoilt f fd) (T : BltA mg) (c__law_draw : Cal P w K mg base 1 "_law_draw" (lsp ⟨K, tb⟩ none pDraw) []) : FnOk P w K mg base CX0 2 f fd ["_law_pot_here", "_law_latches_here", "_law_line"] (lsp ⟨K, tb⟩ none pSpoilt) := by
  refine F.ok sc__law_spoilt (lsp_len (by rintro ds Q3 ⟨ls, line, rfl, _⟩; rfl)) (fun cdv A outer s H vs Q E hr h => ⟨_, PSs.nox
(pss_cons (ps_par3 (i := 3) (j := 4) (l := 5) rfl sc__law_spoilt.nd rfl rfl rfl (by decide) (by decide) (by decide) rfl rfl rfl (pa_cons (pe_c c__law_draw hr (by decide) (by rfl) (pa_cons (pv 0) (pa_cons pe_int pa_nil))) (pa_cons (pe_c c__law_draw hr (by decide) (by rfl) (pa_cons (pv 0) (pa_cons (pe_callB (call_lenK K) (by rfl) T.b_len PySem.boot_len (pa_cons (pv 2) pa_nil)) pa_nil))) (pa_cons (pe_c c__law_draw hr (by decide) (by rfl) (pa_cons (pv 0) (pa_cons (pe_callB (call_lenK K) (by rfl) T.b_len PySem.boot_len (pa_cons (pv 2) pa_nil)) pa_nil))) pa_nil))) rfl)
  (pss_cons (toN (ps_set (i := 6) sc__law_spoilt.nd rfl (.inr rfl) (pe_callTy (call_listK K) (by rfl) T.b_list (by decide +kernel) (pa_cons (pv 2) pa_nil))))
  (pss_cut (ps_if (pt_cmpR op_eq (pv 3) pe_int (nomark _))
    (pss_one (ps_asg (pe_tup (pa_cons (pe_ix (ix_listK K) (pv 6) (pv 5) (fun _ _ => rfl)) (pa_cons (pe_ix (ix_listK K) (pv 6) (pv 4) (fun _ _ => rfl)) pa_nil))) (kTup K 2 (pg_tup rfl (pgs_cons (pg_sub (pv 6) (pv 4) set_list) (pgs_cons (pg_sub (pv 6) (pv 5) set_list) pgs_nil))))))
    pss_nil)
  (pss_cut (ps_if (pt_cmpR op_eq (pv 3) pe_int (nomark _))
    (pss_one (toN (ps_set (i := 6) sc__law_spoilt.nd rfl (.inr rfl) (pe_op op_cat (pe_slice (sl_listK K) (pv 6) (po_some (pv 4)) po_none) (pe_slice (sl_listK K) (pv 6) po_none (po_some (pv 4)))))))
    pss_nil)
  (pss_cut (ps_if (pt_cmpR op_eq (pv 3) pe_int (nomark _))
    (pss_one (ps_expr (kBM K (pe_bm PySem.F.plainAttrs_list PySem.F.slot_list_pop PySem.F.type_list_pop mt_popAt (pv 6) (pa_cons (pv 4) pa_nil)))))
    pss_nil)
  (pss_cut (ps_if (pt_cmpR op_eq (pv 3) pe_int (nomark _))
    (pss_one (ps_expr (kBM K (pe_bm PySem.F.plainAttrs_list PySem.F.slot_list_insert PySem.F.type_list_insert mt_insK (pv 6) (pa_cons (pv 5) (pa_cons (pe_ix (ix_listK K) (pv 6) (pv 4) (fun _ _ => rfl)) pa_nil))))))
    pss_nil)
  (pss_cut (ps_if (pt_cmpR op_eq (pv 3) pe_int (nomark _))
    (pss_one (ps_asg (pe_ix (ix_listK K) (pe_lst (pa_cons pe_non (pa_cons pe_int (pa_cons pe_str (pa_cons (pe_lst (pa_cons (pe_ix (ix_listK K) (pv 6) (pv 4) (fun _ _ => rfl)) pa_nil)) (pa_cons (pe_tup (pa_cons (pe_ix (ix_listK K) (pv 6) (pv 4) (fun _ _ => rfl)) pa_nil)) (pa_cons (pe_op op_catS (pe_ix (ix_listK K) (pv 6) (pv 4) (fun _ _ => rfl)) pe_str) (pa_cons (pe_ix (ix_listK K) (pv 6) (pv 5) (fun _ _ => rfl)) (pa_cons pe_dnewK pa_nil))))))))) (pe_c c__law_draw hr (by decide) (by rfl) (pa_cons (pv 0) (pa_cons pe_int pa_nil))) (fun _ _ => rfl)) (pg_sub (pv 6) (pv 4) set_list)))
    pss_nil)
  (pss_cut (ps_if (pt_cmpR op_eq (pv 3) pe_int (nomark _))
    (pss_one (toN (ps_set (i := 6) sc__law_spoilt.nd rfl (.inr rfl) (pe_lc (own := [("_law_k", 7)]) (tt := tYes) rfl sc__law_spoilt.nd (pi_range1 (by rfl) T.b_range (pa_cons (pe_callB (call_lenK K) (by rfl) T.b_len PySem.boot_len (pa_cons (pv 6) pa_nil)) pa_nil)) (blkOk_by (N := ["_law_pot_here", "_law_latches_here", "_law_line", "_law_way", "_law_at", "_law_beside", "_law_found", "_law_k"]) (sc := defScope s__law_spoilt) (by decide +kernel)) (fun _ _ _ _ _ => pg_name (i := 7) sc__law_spoilt.nd rfl (Or.inl rfl)) (fun _ _ _ _ _ => pts_nil) (fun _ _ _ _ _ => (kBM K (pe_bm PySem.F.plainAttrs_list PySem.F.slot_list_pop PySem.F.type_list_pop mt_popAt (pv 6) (pa_cons (pe_c c__law_draw hr (by decide) (by rfl) (pa_cons (pv 0) (pa_cons (pe_callB (call_lenK K) (by rfl) T.b_len PySem.boot_len (pa_cons (pv 6) pa_nil)) pa_nil))) pa_nil))))))))
    pss_nil)
  (pss_cons (ps_if (pt_cmpR op_eq (pv 3) pe_int (nomark _))
    (pss_one (ps_ret (pe_ix (ix_listK K) (pe_lst (pa_cons pe_non (pa_cons (pe_callTy (call_tupK K) (by rfl) T.b_tuple (by decide +kernel) (pa_cons (pv 2) pa_nil)) (pa_cons pe_str (pa_cons (pe_joinK K pe_str (pv 2)) (pa_cons pe_dnewK (pa_cons pe_int (pa_cons pe_bl (pa_cons (pe_lst pa_nil) (pa_cons (pe_lst (pa_cons (pv 2) pa_nil)) pa_nil)))))))))) (pe_c c__law_draw hr (by decide) (by rfl) (pa_cons (pv 0) (pa_cons pe_int pa_nil))) (fun _ _ => rfl))))
    pss_nil)
  (pss_one (ps_ret (pv 6))))))))))))
, run3' ?go h⟩)
  case go =>
    refine ⟨_, (by walk_at "li"), ?_⟩
    rintro ds Q3 ⟨ls, line, rfl, nm, l1, l7, q1, q2⟩
    have it0 := its_strs nm
    have okT : ∀ ds : List D, ds.length ≤ 8 → (∀ d ∈ ds, It d) → Th (.lst ds) := fun ds h1 h2 => .lst (by omega) h2
    have at0 : ∀ k : Int, 0 ≤ k → k < (line.length : Int) → ∃ (j : Nat) (hj : j < line.length), k = (j : Int) ∧ atI (strsD line) k = some (.str line[j]) ∧ Nm line[j] := fun k k0 k1 => by
      obtain ⟨j, hj, e, _⟩ := at_some' (xs := line) k0 k1
      refine ⟨j, hj, e, ?_, nm _ (List.getElem_mem hj)⟩
      rw [e]
      exact atI_nat (by rw [List.getElem?_map, List.getElem?_eq_getElem hj]; rfl)
    walk_at "pp"
    refine ⟨8, rfl, by decide, by decide, fun w w0 w1 => ?_⟩
    walk_at "pp"
    rw [List.length_map]
    refine ⟨_, rfl, by omega, by omega, fun a a0 a1 => ?_⟩
    walk_at "pp"
    rw [List.length_map]
    refine ⟨_, rfl, by omega, by omega, fun b b0 b1 => ?_⟩
    walk_at "pp"
    obtain ⟨ja, hja, rfl, ea, na⟩ := at0 a a0 a1
    obtain ⟨jb, hjb, rfl, eb, nb⟩ := at0 b b0 b1
    let st : List D → PSt := fun ds => [.val potD, .val (.lst (strsD ls)), .val (.lst (strsD line)), .val (.int w), .val (.int (ja : Int)), .val (.int (jb : Int)), .own true ds, .un]
    let M : Int → PSt → Prop := fun k ρ => ∃ ds, ρ = st ds ∧ (ds = strsD line ∨ (1 ≤ w ∧ w ≤ k)) ∧ ds.length ≤ 8 ∧ ∀ d ∈ ds, It d
    refine ⟨M 1, ?_, ?_⟩
    · walk_at "pp"
      by_cases c : w = 1
      · rw [decide_eq_true c]
        refine iteT ?_
        walk_at "pp"
        refine w_ixL eb ?_
        walk_at "pp"
        refine w_ixL ea ?_
        walk_at "pp"
        refine ⟨(by show 2 ≤ sizeLine; decide), ?_⟩
        walk_at "pp"
        refine ⟨_, ja, rfl, by rw [List.length_map]; exact ixN_nat hja, ?_⟩
        walk_at "pp"
        refine ⟨_, jb, rfl, by rw [List.length_set, List.length_map]; exact ixN_nat hjb, ?_⟩
        walk_at "pp"
        exact ⟨_, rfl, Or.inr ⟨by omega, by omega⟩, by rw [List.length_set, List.length_set, List.length_map]; omega, its_set _ (its_set _ it0 (.str (Nm.sg nb))) (.str (Nm.sg na))⟩
      · rw [decide_eq_false c]
        refine iteF ?_
        walk_at "pp"
        exact ⟨_, rfl, Or.inl rfl, by rw [List.length_map]; omega, it0⟩
    rintro ρ ⟨ds, rfl, hw, dl, its⟩
    refine ⟨M 2, ?_, ?_⟩
    · walk_at "pp"
      by_cases c : w = 2
      · rw [decide_eq_true c]
        refine iteT ?_
        obtain rfl := hw.resolve_right (by omega)
        walk_at "pp"
        have e1 : L3.cutD (strsD line) (some (ja : Int)) none = (strsD line).drop ja := by rw [cut_fromD D.str line ja (by omega), List.map_drop]
        have e2 : L3.cutD (strsD line) none (some (ja : Int)) = (strsD line).take ja := by rw [cut_toD D.str line ja (by omega), List.map_take]
        rw [e1, e2]
        have el : ((strsD line).drop ja ++ (strsD line).take ja).length = line.length := by
          rw [List.length_append, List.length_drop, List.length_take, List.length_map]
          omega
        refine w_catL (by rw [← List.length_append, el, sizeLine_eq]; omega) ?_
        walk_at "pp"
        refine ⟨_, rfl, Or.inr ⟨by omega, by omega⟩, by rw [el]; omega, it_sub it0 fun d hd => ?_⟩
        rcases List.mem_append.mp hd with m | m
        · exact List.mem_of_mem_drop m
        · exact List.mem_of_mem_take m
      · rw [decide_eq_false c]
        refine iteF ?_
        walk_at "pp"
        exact ⟨ds, rfl, hw.imp id (fun h => by omega), dl, its⟩
    clear hw dl its ds
    rintro ρ ⟨ds, rfl, hw, dl, its⟩
    refine ⟨M 3, ?_, ?_⟩
    · walk_at "pp"
      by_cases c : w = 3
      · rw [decide_eq_true c]
        refine iteT ?_
        obtain rfl := hw.resolve_right (by omega)
        walk_at "pp"
        refine ⟨_, ja, .str line[ja], rfl, by omega, by omega, seq_at (by rw [List.length_map]; omega), by rw [List.getElem?_map, List.getElem?_eq_getElem hja]; rfl, ?_⟩
        walk_at "pp"
        exact ⟨_, rfl, Or.inr ⟨by omega, by omega⟩, Nat.le_trans (List.length_eraseIdx_le _ _) (by rw [List.length_map]; omega), it_sub it0 fun d hd => List.mem_of_mem_eraseIdx hd⟩
      · rw [decide_eq_false c]
        refine iteF ?_
        walk_at "pp"
        exact ⟨ds, rfl, hw.imp id (fun h => by omega), dl, its⟩
    clear hw dl its ds
    rintro ρ ⟨ds, rfl, hw, dl, its⟩
    refine ⟨M 4, ?_, ?_⟩
    · walk_at "pp"
      by_cases c : w = 4
      · rw [decide_eq_true c]
        refine iteT ?_
        obtain rfl := hw.resolve_right (by omega)
        walk_at "pp"
        refine w_ixL ea ?_
        walk_at "pp"
        refine ⟨by rw [List.length_map]; exact small1000 (by omega), b0, by omega, ?_⟩
        walk_at "pp"
        refine ⟨_, rfl, Or.inr ⟨by omega, by omega⟩, ?_, fun d hd => ?_⟩
        · rw [List.length_append, List.length_append, List.length_take, List.length_drop, List.length_map, List.length_singleton]
          omega
        · rcases List.mem_append.mp hd with m | m
          · rcases List.mem_append.mp m with m | m
            · exact it0 d (List.mem_of_mem_take m)
            · rw [List.mem_singleton.mp m]
              exact .str (Nm.sg na)
          · exact it0 d (List.mem_of_mem_drop m)
      · rw [decide_eq_false c]
        refine iteF ?_
        walk_at "pp"
        exact ⟨ds, rfl, hw.imp id (fun h => by omega), dl, its⟩
    clear hw dl its ds
    rintro ρ ⟨ds, rfl, hw, dl, its⟩
    refine ⟨M 5, ?_, ?_⟩
    · walk_at "pp"
      by_cases c : w = 5
      · rw [decide_eq_true c]
        refine iteT ?_
        obtain rfl := hw.resolve_right (by omega)
        walk_at "pp"
        refine w_ixL ea ?_
        walk_at "pp"
        refine ⟨(by show 1 ≤ sizeLine; decide), ?_⟩
        walk_at "pp"
        refine w_ixL ea ?_
        walk_at "pp"
        refine ⟨(by show 1 ≤ sizeLine; decide), ?_⟩
        walk_at "pp"
        refine w_ixL ea ?_
        walk_at "pp"
        have l8 : line[ja].length ≤ 8 := by
          have := na.2.1
          rw [show tl line[ja] = line[ja].cps.toList from rfl, Array.length_toList] at this
          exact this
        refine w_catS (by rw [show (Str.ofString "Q").length = 1 from rfl, sizeLine_eq]; omega) ?_
        walk_at "pp"
        refine w_ixL eb ?_
        walk_at "pp"
        refine ⟨(by show 8 ≤ sizeLine; decide), ?_⟩
        walk_at "pp"
        refine ⟨8, rfl, by decide, by decide, fun k k0 k1 => ?_⟩
        walk_at "pp"
        have itL : ∀ d ∈ [D.non, D.int 0, D.str (Str.ofString ""), D.lst [D.str line[ja]], D.tup [D.str line[ja]], D.str (line[ja] ++ Str.ofString "Q"), D.str line[jb], D.dic [] []], It d := by
          intro d hd
          have s1 : ∀ z ∈ [line[ja]], Sg z := fun z hz => by rw [List.mem_singleton.mp hz]; exact Nm.sg na
          simp only [List.mem_cons, List.not_mem_nil, or_false] at hd
          rcases hd with rfl | rfl | rfl | rfl | rfl | rfl | rfl | rfl
          · exact .non
          · exact .int (by decide)
          · exact .str ⟨Nat.zero_le _, fun c hc => nomatch hc⟩
          · exact It.lst (ws := [line[ja]]) (by show 1 ≤ 8; decide) s1
          · exact It.tup (ws := [line[ja]]) (by show 1 ≤ 8; decide) s1
          · exact .str (sgQ na)
          · exact .str (Nm.sg nb)
          · exact .dic
        obtain ⟨j, hj, rfl, ej⟩ := at_some' (xs := [D.non, D.int 0, D.str (Str.ofString ""), D.lst [D.str line[ja]], D.tup [D.str line[ja]], D.str (line[ja] ++ Str.ofString "Q"), D.str line[jb], D.dic [] []]) k0 k1
        have itj := itL _ (List.getElem_mem hj)
        refine w_ixL ej ?_
        walk_at "pp"
        refine ⟨_, ja, rfl, by rw [List.length_map]; exact ixN_nat hja, ?_⟩
        exact ⟨_, rfl, Or.inr ⟨by omega, by omega⟩, by rw [List.length_set, List.length_map]; omega, its_set _ it0 itj⟩
      · rw [decide_eq_false c]
        refine iteF ?_
        walk_at "pp"
        exact ⟨ds, rfl, hw.imp id (fun h => by omega), dl, its⟩
    clear hw dl its ds
    rintro ρ ⟨ds, rfl, hw, dl, its⟩
    refine ⟨M 6, ?_, ?_⟩
    · walk_at "pp"
      by_cases c : w = 6
      · rw [decide_eq_true c]
        refine iteT ?_
        obtain rfl := hw.resolve_right (by omega)
        walk_at "pp"
        rw [List.length_map]
        refine ⟨(line.length : Int), rfl, by omega, by omega, ?_⟩
        rw [Int.toNat_natCast]
        refine ⟨fun i acc ρ => ∃ rest : List D, ρ = st rest ∧ acc.length = i ∧ acc.length + rest.length = line.length ∧ (∀ d ∈ acc, It d) ∧ ∀ d ∈ rest, It d, ⟨strsD line, rfl, rfl, by rw [List.length_map]; exact Nat.zero_add _, (fun _ z => nomatch z), it0⟩, ?_⟩
        rintro i acc ρ ⟨rest, rfl, el, et, ita, itr⟩
        refine ⟨fun e => ?_, fun d e => ?_⟩
        · exact ⟨acc, rfl, Or.inr ⟨by omega, by omega⟩, by omega, ita⟩
        · have hi : i < line.length := by
            have := (List.getElem?_eq_some_iff.mp e).1
            simpa using this
          walk_at "pp"
          refine iteT ?_
          walk_at "pp"
          refine ⟨_, rfl, by omega, by omega, fun k k0 k1 => ?_⟩
          obtain ⟨j, hj, rfl, _⟩ := at_some' (xs := rest) k0 k1
          walk_at "pp"
          refine ⟨_, j, rest[j], rfl, by omega, by omega, seq_at hj, List.getElem?_eq_getElem hj, ?_⟩
          walk_at "pp"
          refine ⟨small1000 (by omega), rest.eraseIdx j, rfl, by rw [List.length_append, el]; rfl, ?_, ?_, fun d hd => itr d (List.mem_of_mem_eraseIdx hd)⟩
          · rw [List.length_append, List.length_singleton, List.length_eraseIdx_of_lt hj]
            omega
          · intro d hd
            rcases List.mem_append.mp hd with m | m
            · exact ita d m
            · rw [List.mem_singleton.mp m]
              exact itr _ (List.getElem_mem hj)
      · rw [decide_eq_false c]
        refine iteF ?_
        walk_at "pp"
        exact ⟨ds, rfl, hw.imp id (fun h => by omega), dl, its⟩
    clear hw dl its ds
    rintro ρ ⟨ds, rfl, hw, dl, its⟩
    walk_at "pp"
    by_cases c : w = 7
    · rw [decide_eq_true c]
      refine iteT ?_
      obtain rfl := hw.resolve_right (by omega)
      walk_at "pp"
      refine ⟨_, rfl, ?_⟩
      walk_at "pp"
      refine ⟨line, rfl, join_fit nm l7, ?_⟩
      walk_at "pp"
      refine ⟨Nat.zero_le _, ?_⟩
      walk_at "pp"
      refine ⟨(by show 1 ≤ sizeLine; decide), ?_⟩
      walk_at "pp"
      refine ⟨(by show 9 ≤ sizeLine; decide), ?_⟩
      walk_at "pp"
      refine ⟨9, rfl, by decide, by decide, fun k k0 k1 => ?_⟩
      walk_at "pp"
      have thL : ∀ d ∈ [D.non, D.tup (strsD line), D.str (Str.ofString ""), D.str (Txt.join (Str.ofString "") line), D.dic [] [], D.int 0, D.bl true, D.lst [], D.lst [D.lst (strsD line)]], Th d := by
        intro d hd
        have sgl : ∀ z ∈ line, Sg z := fun z hz => Nm.sg (nm z hz)
        simp only [List.mem_cons, List.not_mem_nil, or_false] at hd
        rcases hd with rfl | rfl | rfl | rfl | rfl | rfl | rfl | rfl | rfl
        · exact .oth .non rfl (by decide +kernel)
        · exact .oth (.tup (by omega) sgl) rfl (by decide +kernel)
        · exact .oth (.str ⟨Nat.zero_le _, fun c hc => nomatch hc⟩) rfl (by decide +kernel)
        · exact .oth (.str (join_sg nm l7)) rfl (by decide +kernel)
        · exact .oth .dic rfl (by decide +kernel)
        · exact .oth (.int (by decide)) rfl (by decide +kernel)
        · exact .oth .bl rfl (by decide +kernel)
        · exact .lst (Nat.zero_le _) (fun _ z => nomatch z)
        · exact .nest (by omega) sgl
      obtain ⟨j, hj, rfl, ej⟩ := at_some' (xs := [D.non, D.tup (strsD line), D.str (Str.ofString ""), D.str (Txt.join (Str.ofString "") line), D.dic [] [], D.int 0, D.bl true, D.lst [], D.lst [D.lst (strsD line)]]) k0 k1
      have thj := thL _ (List.getElem_mem hj)
      refine w_ixL ej ?_
      walk_at "pp"
      exact q2 _ thj
    · rw [decide_eq_false c]
      refine iteF ?_
      walk_at "pp"
      exact q1 ds (okT ds dl its)
end
end K37
namespace K37
open PySem PySem.Spec PyProof.Rows L2 TB LamX NdefX L3 OwnE
open C8 (Cal pe_c Mak pe_mk Met pe_mt pe_mt0 pss_cut tCut pe_gc)
abbrev s_law : Stmt := top 20
theorem sc_law : FnScope ["_law_script", "_law_k", "_law_pot_here", "_law_latches_here", "_law_pairs_here", "_law_learned", "_law_line", "_law_turn", "_law_thing", "_law_kept", "_law_due_here"] ["_law_script"] (defScope s_law) := ⟨rfl, rfl, rfl, by decide +kernel, rfl, by decide +kernel, by decide +kernel⟩
section
variable {P : Program} {w : World} {K : PySem.W.Frag} {mg : Str → Option Value} {base : Heap} {f C T0 : Addr} {fd : FuncData}
theorem ok_law {gV : List V → List V → List V} (hg : InSel 0 2 [0, 1] gV) (sysB : He.dictB K sysModules = true) (F : FnP K "law" s_law f fd) (T : BltA mg) (c__law_pot : Cal P w K mg base 1 "_law_pot" (lsp ⟨K, [(T0, lamQ)]⟩ none (pPot K)) []) (c__law_latches : Cal P w K mg base 3 "_law_latches" (lsp ⟨K, [(T0, lamQ)]⟩ none pLatches) [])
    (c__law_pairs : Cal P w K mg base 3 "_law_pairs" (lsp ⟨K, [(T0, lamQ)]⟩ none pPairsL) []) (m_Order : Mak P w K mg base 5 "Order" C (spInitP K C T0 lamQ) []) (c__law_grown : Cal P w K mg base 1 "_law_grown" (lsp ⟨K, [(T0, lamQ)]⟩ none pGrown) [])
    (c__law_spoilt : Cal P w K mg base 2 "_law_spoilt" (lsp ⟨K, [(T0, lamQ)]⟩ none pSpoilt) []) (c__law_due : Cal P w K mg base 1 "_law_due" (lsp ⟨K, [(T0, lamQ)]⟩ none pDue37) []) (c_is_line : Cal P w K mg base 3 "is_line" (lsp ⟨K, [(T0, lamQ)]⟩ none (pIsLX C)) [])
    (c_is_line_ol : CalN P w K mg base 3 "is_line" (lsp ⟨K, [(T0, lamQ)]⟩ none (pIsLX C)) 0 2 ["order", "locks"] gV) :
    FnG P w K mg base CX0 7 f fd ["_law_script"] (lsp ⟨K, [(T0, lamQ)]⟩ none (pLaw K)) := by
  refine fng_of F sc_law (lsp_len (by rintro ds Q3 ⟨ns, rfl, _⟩; rfl)) (fun cdv A outer s H vs Q E g hr h => ⟨_, PSs.nox
(pss_cons (ps_for PassesOwn.never rfl (pi_range1 (by rfl) T.b_range (pa_cons (pe_callB (call_max2 rfl) (by rfl) T.b_max (by decide +kernel) (pa_cons pe_int (pa_cons (pe_callB (call_min2 rfl) (by rfl) T.b_min (by decide +kernel) (pa_cons (toScr (pe_callB (call_lenK K) (by rfl) T.b_len PySem.boot_len (pa_cons (pv 0) pa_nil))) (pa_cons pe_int pa_nil))) pa_nil))) pa_nil)) (pg_name (i := 1) sc_law.nd rfl (.inl rfl))
    (pss_cons (ps_set (i := 2) sc_law.nd rfl (.inl rfl) (pe_c c__law_pot hr (by decide) (by rfl) (pa_cons (pv 0) (pa_cons (pv 1) pa_nil))))
      (pss_cons (ps_set (i := 3) sc_law.nd rfl (.inl rfl) (pe_c c__law_latches hr (by decide) (by rfl) (pa_cons (pv 2) pa_nil)))
      (pss_cons (ps_set (i := 4) sc_law.nd rfl (.inl rfl) (pe_c c__law_pairs hr (by decide) (by rfl) (pa_cons (pv 2) (pa_cons (pv 3) (pa_cons pe_int pa_nil)))))
      (pss_cons (ps_par (i := 5) (j := 6) rfl sc_law.nd rfl rfl (by decide) rfl rfl (pa_cons (pe_mk m_Order hr (by decide) (by rfl) (pa_cons (pe_callTy (call_listK K) (by rfl) T.b_list (by decide +kernel) (pa_cons (pv 3) pa_nil)) (pa_cons (pe_callTy (call_listK K) (by rfl) T.b_list (by decide +kernel) (pa_cons (pv 4) pa_nil)) pa_nil))) (pa_cons (pe_c c__law_grown hr (by decide) (by rfl) (pa_cons (pv 3) (pa_cons (pv 4) pa_nil))) pa_nil)) rfl)
      (pss_cons (ps_for PassesOwn.never rfl (pi_range1 (by rfl) T.b_range (pa_cons pe_int pa_nil)) (pg_name (i := 7) sc_law.nd rfl (.inl rfl))
        (pss_cons (ps_set (i := 8) sc_law.nd rfl (.inl rfl) (pe_c c__law_spoilt hr (by decide) (by rfl) (pa_cons (pv 2) (pa_cons (pv 3) (pa_cons (pv 6) pa_nil)))))
          (pss_cons (ps_set (i := 9) sc_law.nd rfl (.inl rfl) (pe_callB (call_reprX K sysB hr.units g) (by rfl) T.b_repr (by decide +kernel) (pa_cons (pv 8) pa_nil)))
          (pss_cons (ps_set (i := 10) sc_law.nd rfl (.inl rfl) (pe_c c__law_due hr (by decide) (by rfl) (pa_cons (pv 3) (pa_cons (pv 4) (pa_cons (pv 8) pa_nil)))))
          (pss_one (ps_if (PW.pt (pw_or (pt_cmpR op_ne (pe_callB (call_reprD K hr.units g) (by rfl) T.b_repr (by decide +kernel) (pa_cons (pe_c c_is_line hr (by decide) (by rfl) (pa_cons (pv 5) (pa_cons (pv 8) pa_nil))) pa_nil)) (pe_callB (call_reprD K hr.units g) (by rfl) T.b_repr (by decide +kernel) (pa_cons (pv 10) pa_nil)) (nomark _)) (pw_or1 (pt_cmpR op_ne (pe_callB (call_reprX K sysB hr.units g) (by rfl) T.b_repr (by decide +kernel) (pa_cons (pv 8) pa_nil)) (pv 9) (nomark _)))))
            (pss_one (ps_ret pe_bl))
            pss_nil))))))
      (pss_one (ps_if (pt_cmpR op_notBl (pe_cN0 c_is_line_ol hr (by decide) (by rfl) (pk_cons (pv 5) (pk_cons (pv 6) pk_nil))) pe_bl (nomark _))
        (pss_one (ps_ret pe_bl))
        pss_nil))))))))
  (pss_one (ps_ret pe_bl)))
, run3' ?go h⟩)
  case go =>
    refine ⟨_, (by walk_at "li"), ?_⟩
    rintro ds Q3 ⟨ns, rfl, hn, q⟩
    walk_at "pp"
    obtain ⟨m, em, hm⟩ := cells_at (n := ns.length) (m := 4) (by decide) (by decide)
    rw [em]
    refine ⟨(m : Int), rfl, by omega, by omega, ?_⟩
    rw [Int.toNat_natCast]
    refine ⟨fun i ρ => ∃ p1 p2 p3 p4 p5 p6 p7 p8 p9 p10, ρ = [.val (scrD K ns), p1, p2, p3, p4, p5, p6, p7, p8, p9, p10], ⟨_, _, _, _, _, _, _, _, _, _, rfl⟩, ?_⟩
    rintro i ρ ⟨p1, p2, p3, p4, p5, p6, p7, p8, p9, p10, rfl⟩
    refine ⟨fun e => ?_, fun d e => ?_⟩
    · walk_at "pp"
      exact q
    · obtain ⟨hi, rfl⟩ := range_at e
      walk_at "pp"
      refine ⟨ns, _, rfl, by omega, by omega, ?_⟩
      walk_at "pp"
      refine ⟨rfl, fun ls nd nm l1 l7 => ?_⟩
      walk_at "pp"
      refine ⟨ls, 10, rfl, l1, by omega, nm, by decide, by decide, fun qs lp ql => ?_⟩
      walk_at "pp"
      refine ⟨ls, qs, rfl, OrdOk.nil nd nm (by omega), lp, by omega, fun ps ok sm => ?_⟩
      walk_at "pp"
      refine ⟨ls, qs, rfl, nd, l7, lp, by omega, fun line ln => ?_⟩
      have nml : ∀ z ∈ line, Nm z := fun z hz => nm z (ln.pm.mem_iff.mp hz)
      have ll : line.length = ls.length := ln.pm.length_eq
      walk_at "pp"
      refine ⟨10, rfl, by decide, by decide, ?_⟩
      refine ⟨fun j ρ => ∃ p7 p8 p9 p10, ρ = [.val (scrD K ns), .val (.int (i : Int)), .val potD, .val (.lst (strsD ls)), .val (.lst (qs.map L3.prD)), .val (ordD C ls ps), .val (.lst (strsD line)), p7, p8, p9, p10], ⟨_, _, _, _, rfl⟩, ?_⟩
      rintro j ρ ⟨p7, p8, p9, p10, rfl⟩
      refine ⟨fun e => ?_, fun d e => ?_⟩
      · walk_at "pp"
        refine ⟨ls, ps, _, rfl, ok, l7, .lst (by rw [List.length_map]; omega) (its_strs nml), fun b hb => ?_⟩
        obtain rfl : b = true := hb.mpr ⟨line, rfl, ln.same fun z => (sm z).symm⟩
        walk_at "pp"
        refine iteF ?_
        walk_at "pp"
        exact ⟨_, _, _, _, _, _, _, _, _, _, rfl⟩
      · walk_at "pp"
        refine ⟨ls, line, rfl, nml, by omega, by omega, fun ds th => ?_, fun t th => ?_⟩
        all_goals
          walk_at "pp"
          obtain ⟨x, e1, e2, e3, e4⟩ := th.pd
          refine w_reprX e1 e2 e3 e4 ?_
          walk_at "pp"
          refine ⟨ls, qs, _, rfl, nd, nm, l7, lp.mem, by omega, th, fun b hb => ?_⟩
          walk_at "pp"
          refine ⟨ls, ps, _, rfl, ok, l7, th, fun b2 hb2 => ?_⟩
          obtain rfl : b = b2 := by
            have h3 : b = true ↔ b2 = true := hb.trans ((IsLn.same sm).symm.trans hb2.symm)
            cases b <;> cases b2 <;> simp_all
          walk_at "pp"
          refine w_reprBl ?_
          walk_at "pp"
          refine w_reprBl ?_
          walk_at "pp"
          rw [decide_eq_true rfl]
          refine iteF ?_
          walk_at "pp"
          refine w_reprX e1 e2 e3 e4 ?_
          walk_at "pp"
          rw [decide_eq_true rfl]
          refine iteF ?_
          walk_at "pp"
          exact ⟨_, _, _, _, rfl⟩
end
end K37
namespace K37
open PySem PySem.Spec PyProof.Rows L2 TB LamX NdefX
open C8 (Cal pe_c Mak pe_mk Met pe_mt pe_mt0 pss_cut tCut pe_gc)
def d_Order___init__ : He.DefD := ⟨("Order", some "__init__"), "__init__", "Order.__init__", defArgs s_Order___init__, defBody s_Order___init__, defScope s_Order___init__, [.adr (He.dflAt ("Order", some "__init__") 0)], []⟩
def d_Order_want : He.DefD := ⟨("Order", some "want"), "want", "Order.want", defArgs s_Order_want, defBody s_Order_want, defScope s_Order_want, [], []⟩
def d_Order_locks : He.DefD := ⟨("Order", some "locks"), "locks", "Order.locks", defArgs s_Order_locks, defBody s_Order_locks, defScope s_Order_locks, [], []⟩
def d_Order_pairs : He.DefD := ⟨("Order", some "pairs"), "pairs", "Order.pairs", defArgs s_Order_pairs, defBody s_Order_pairs, defScope s_Order_pairs, [], []⟩
def d_Order_has : He.DefD := ⟨("Order", some "has"), "has", "Order.has", defArgs s_Order_has, defBody s_Order_has, defScope s_Order_has, [], []⟩
def d_Order_after : He.DefD := ⟨("Order", some "after"), "after", "Order.after", defArgs s_Order_after, defBody s_Order_after, defScope s_Order_after, [], []⟩
def d_Order_behind : He.DefD := ⟨("Order", some "behind"), "behind", "Order.behind", defArgs s_Order_behind, defBody s_Order_behind, defScope s_Order_behind, [], []⟩
def d_Order_leads : He.DefD := ⟨("Order", some "leads"), "leads", "Order.leads", defArgs s_Order_leads, defBody s_Order_leads, defScope s_Order_leads, [], []⟩
def d_Order_with_pair : He.DefD := ⟨("Order", some "with_pair"), "with_pair", "Order.with_pair", defArgs s_Order_with_pair, defBody s_Order_with_pair, defScope s_Order_with_pair, [], []⟩
def d_stands_free : He.DefD := ⟨("stands_free", none), "stands_free", "stands_free", defArgs s_stands_free, defBody s_stands_free, defScope s_stands_free, [], []⟩
def d_is_line : He.DefD := ⟨("is_line", none), "is_line", "is_line", defArgs s_is_line, defBody s_is_line, defScope s_is_line, [], []⟩
def d__law_pot : He.DefD := ⟨("_law_pot", none), "_law_pot", "_law_pot", defArgs s__law_pot, defBody s__law_pot, defScope s__law_pot, [], []⟩
def d__law_draw : He.DefD := ⟨("_law_draw", none), "_law_draw", "_law_draw", defArgs s__law_draw, defBody s__law_draw, defScope s__law_draw, [], []⟩
def d__law_name : He.DefD := ⟨("_law_name", none), "_law_name", "_law_name", defArgs s__law_name, defBody s__law_name, defScope s__law_name, [], []⟩
def d__law_latches : He.DefD := ⟨("_law_latches", none), "_law_latches", "_law_latches", defArgs s__law_latches, defBody s__law_latches, defScope s__law_latches, [], []⟩
def d__law_reached : He.DefD := ⟨("_law_reached", none), "_law_reached", "_law_reached", defArgs s__law_reached, defBody s__law_reached, defScope s__law_reached, [], []⟩
def d__law_two : He.DefD := ⟨("_law_two", none), "_law_two", "_law_two", defArgs s__law_two, defBody s__law_two, defScope s__law_two, [], []⟩
def d__law_pairs : He.DefD := ⟨("_law_pairs", none), "_law_pairs", "_law_pairs", defArgs s__law_pairs, defBody s__law_pairs, defScope s__law_pairs, [], []⟩
def d__law_grown : He.DefD := ⟨("_law_grown", none), "_law_grown", "_law_grown", defArgs s__law_grown, defBody s__law_grown, defScope s__law_grown, [], []⟩
def d__law_spoilt : He.DefD := ⟨("_law_spoilt", none), "_law_spoilt", "_law_spoilt", defArgs s__law_spoilt, defBody s__law_spoilt, defScope s__law_spoilt, [], []⟩
def d__law_due : He.DefD := ⟨("_law_due", none), "_law_due", "_law_due", defArgs s__law_due, defBody s__law_due, defScope s__law_due, [], []⟩
def d_law : He.DefD := ⟨("law", none), "law", "law", defArgs s_law, defBody s_law, defScope s_law, [], []⟩
def fn : List He.DefD := [d_Order___init__, d_Order_want, d_Order_locks, d_Order_pairs, d_Order_has, d_Order_after, d_Order_behind, d_Order_leads, d_Order_with_pair, d_stands_free, d_is_line, d__law_pot, d__law_draw, d__law_name, d__law_latches, d__law_reached, d__law_two, d__law_pairs, d__law_grown, d__law_spoilt, d__law_due, d_law]
def fa : List He.Fa := [.glo "stands_free", .glo "is_line", .glo "_law_pot", .glo "_law_draw", .glo "_law_name", .glo "_law_latches", .glo "_law_reached", .glo "_law_two", .glo "_law_pairs", .glo "_law_grown", .glo "_law_spoilt", .glo "_law_due", .glo "law", .free "len", .free "max", .free "min", .free "abs", .free "divmod", .free "range", .free "enumerate", .free "int", .free "list", .free "repr", .free "isinstance", .free "str", .free "tuple", .free "sorted", .free "all", .free "any", .free "zip", .free "dict", .free "sum", .free "bool", .glo "Order", .cls "Order", .noat "Order" "own_locks", .noat "Order" "own_pairs", .mkr "Order", .meth "Order" "want", .meth "Order" "locks", .meth "Order" "pairs", .meth "Order" "has", .meth "Order" "after", .meth "Order" "behind", .meth "Order" "leads", .meth "Order" "with_pair"]
def tf : List He.Defn := [("Order", some "with_pair")]
def exB (K : PySem.W.Frag) : Bool := He.dictB K PySem.sysModules
abbrev R : PySem.W.OpenRow := PySem.W.OpenLaw.row PySem.Challenge.rw_turnedback_k37_lines_judged
abbrev hk : PySem.W.Hook := He.hookS 6 fa fn tf exB
def ob (s : PySem.W.SharedT) : He.AlX := He.obsS 6 fa fn tf exB (HandSHeadRun.getT s)
theorem ob_eq (s : PySem.W.SharedT) : ob s = hk.obs s.abs := He.obsS_eq (HandSHeadRun.getT_eq s)
def loose : List Str := ["_wall", "NoSuch", "Ring", "stands_free", "is_line", "Order", "_law_pot", "_law_draw", "_law_name", "_law_latches", "_law_reached", "_law_two", "_law_pairs", "_law_grown", "_law_spoilt", "_law_due"]
theorem run (w : World) : HandSHeadRun.RunEq R (PySem.W.view R.prog [20]) hk ob 6000 loose w := by
  intro os
  kernel_rfl
/-- the code object and its table -/
abbrev cT0 (K : PySem.W.Frag) : Addr × Addr := He.cT K ("Order", some "with_pair")
theorem facts {P : Program} {w : World} {K : PySem.W.Frag} {h : Heap} {mg : Str → Option Value} {f : Addr} (X : K.In h) (G : h.Ns mainGlobals mg) (hfa : mg ("law" : Str) = some (.ref f)) (c : He.SaysX fa fn [] tf exB w h K) :
    ∃ fd : FuncData, (∀ (s : Shared) (v : Value), BindsTo s fd ⟨[v], []⟩ [("_law_script", v)]) ∧ ∀ base : Heap, K.In base → base.Ns mainGlobals mg → TabB base mg (cT0 K).1 (cT0 K).2 → FnG P w K mg base CX0 7 f fd ["_law_script"] (L3.spLawT K (cT0 K).2 lamQ) := by
  obtain ⟨fd_Order___init__, F_Order___init__⟩ := c.t.d.def_ 0 (d := d_Order___init__) rfl
  obtain ⟨fd_Order_want, F_Order_want⟩ := c.t.d.def_ 1 (d := d_Order_want) rfl
  obtain ⟨fd_Order_locks, F_Order_locks⟩ := c.t.d.def_ 2 (d := d_Order_locks) rfl
  obtain ⟨fd_Order_pairs, F_Order_pairs⟩ := c.t.d.def_ 3 (d := d_Order_pairs) rfl
  obtain ⟨fd_Order_has, F_Order_has⟩ := c.t.d.def_ 4 (d := d_Order_has) rfl
  obtain ⟨fd_Order_after, F_Order_after⟩ := c.t.d.def_ 5 (d := d_Order_after) rfl
  obtain ⟨fd_Order_behind, F_Order_behind⟩ := c.t.d.def_ 6 (d := d_Order_behind) rfl
  obtain ⟨fd_Order_leads, F_Order_leads⟩ := c.t.d.def_ 7 (d := d_Order_leads) rfl
  obtain ⟨fd_Order_with_pair, F_Order_with_pair⟩ := c.t.d.def_ 8 (d := d_Order_with_pair) rfl
  obtain ⟨fd_stands_free, F_stands_free⟩ := c.t.d.def_ 9 (d := d_stands_free) rfl
  obtain ⟨fd_is_line, F_is_line⟩ := c.t.d.def_ 10 (d := d_is_line) rfl
  obtain ⟨fd__law_pot, F__law_pot⟩ := c.t.d.def_ 11 (d := d__law_pot) rfl
  obtain ⟨fd__law_draw, F__law_draw⟩ := c.t.d.def_ 12 (d := d__law_draw) rfl
  obtain ⟨fd__law_name, F__law_name⟩ := c.t.d.def_ 13 (d := d__law_name) rfl
  obtain ⟨fd__law_latches, F__law_latches⟩ := c.t.d.def_ 14 (d := d__law_latches) rfl
  obtain ⟨fd__law_reached, F__law_reached⟩ := c.t.d.def_ 15 (d := d__law_reached) rfl
  obtain ⟨fd__law_two, F__law_two⟩ := c.t.d.def_ 16 (d := d__law_two) rfl
  obtain ⟨fd__law_pairs, F__law_pairs⟩ := c.t.d.def_ 17 (d := d__law_pairs) rfl
  obtain ⟨fd__law_grown, F__law_grown⟩ := c.t.d.def_ 18 (d := d__law_grown) rfl
  obtain ⟨fd__law_spoilt, F__law_spoilt⟩ := c.t.d.def_ 19 (d := d__law_spoilt) rfl
  obtain ⟨fd__law_due, F__law_due⟩ := c.t.d.def_ 20 (d := d__law_due) rfl
  obtain ⟨fd_law, F_law⟩ := c.t.d.def_ 21 (d := d_law) rfl
  have e := hfa.symm.trans (He.glo_ok X G (c.t.d.fact 12 (f := .glo "law") rfl))
  cases e
  have T : BltA mg := { b_len := He.free_ok X G (c.t.d.fact 13 (f := .free "len") rfl), b_max := He.free_ok X G (c.t.d.fact 14 (f := .free "max") rfl), b_min := He.free_ok X G (c.t.d.fact 15 (f := .free "min") rfl), b_abs := He.free_ok X G (c.t.d.fact 16 (f := .free "abs") rfl), b_divmod := He.free_ok X G (c.t.d.fact 17 (f := .free "divmod") rfl), b_range := He.free_ok X G (c.t.d.fact 18 (f := .free "range") rfl), b_enumerate := He.free_ok X G (c.t.d.fact 19 (f := .free "enumerate") rfl), b_int := He.free_ok X G (c.t.d.fact 20 (f := .free "int") rfl), b_list := He.free_ok X G (c.t.d.fact 21 (f := .free "list") rfl), b_repr := He.free_ok X G (c.t.d.fact 22 (f := .free "repr") rfl), b_isinstance := He.free_ok X G (c.t.d.fact 23 (f := .free "isinstance") rfl), b_str := He.free_ok X G (c.t.d.fact 24 (f := .free "str") rfl), b_tuple := He.free_ok X G (c.t.d.fact 25 (f := .free "tuple") rfl), b_sorted := He.free_ok X G (c.t.d.fact 26 (f := .free "sorted") rfl), b_all := He.free_ok X G (c.t.d.fact 27 (f := .free "all") rfl), b_any := He.free_ok X G (c.t.d.fact 28 (f := .free "any") rfl), b_zip := He.free_ok X G (c.t.d.fact 29 (f := .free "zip") rfl), b_dict := He.free_ok X G (c.t.d.fact 30 (f := .free "dict") rfl), b_sum := He.free_ok X G (c.t.d.fact 31 (f := .free "sum") rfl), b_bool := He.free_ok X G (c.t.d.fact 32 (f := .free "bool") rfl) }
  have b_Order_want : Binds K fd_Order_want ["self", "lock"] [] := F_Order_want.bindsN fun _ _ _ _ _ _ us hl => match us, hl with | [_, _], _ => rfl
  have b_Order_locks : Binds K fd_Order_locks ["self"] [] := F_Order_locks.bindsN fun _ _ _ _ _ _ us hl => match us, hl with | [_], _ => rfl
  have b_Order_pairs : Binds K fd_Order_pairs ["self"] [] := F_Order_pairs.bindsN fun _ _ _ _ _ _ us hl => match us, hl with | [_], _ => rfl
  have b_Order_has : Binds K fd_Order_has ["self", "one", "other"] [] := F_Order_has.bindsN fun _ _ _ _ _ _ us hl => match us, hl with | [_, _, _], _ => rfl
  have b_Order_after : Binds K fd_Order_after ["self", "lock"] [] := F_Order_after.bindsN fun _ _ _ _ _ _ us hl => match us, hl with | [_, _], _ => rfl
  have b_Order_behind : Binds K fd_Order_behind ["self", "one"] [] := F_Order_behind.bindsN fun _ _ _ _ _ _ us hl => match us, hl with | [_, _], _ => rfl
  have b_Order_leads : Binds K fd_Order_leads ["self", "one", "other"] [] := F_Order_leads.bindsN fun _ _ _ _ _ _ us hl => match us, hl with | [_, _, _], _ => rfl
  have b_Order_with_pair : Binds K fd_Order_with_pair ["self", "one", "other"] [] := F_Order_with_pair.bindsN fun _ _ _ _ _ _ us hl => match us, hl with | [_, _, _], _ => rfl
  have b_stands_free : Binds K fd_stands_free ["order", "lock", "line"] [] := F_stands_free.bindsN fun _ _ _ _ _ _ us hl => match us, hl with | [_, _, _], _ => rfl
  have b_is_line : Binds K fd_is_line ["order", "locks"] [] := F_is_line.bindsN fun _ _ _ _ _ _ us hl => match us, hl with | [_, _], _ => rfl
  have b__law_pot : Binds K fd__law_pot ["_law_script", "_law_k"] [] := F__law_pot.bindsN fun _ _ _ _ _ _ us hl => match us, hl with | [_, _], _ => rfl
  have b__law_draw : Binds K fd__law_draw ["_law_pot_here", "_law_many"] [] := F__law_draw.bindsN fun _ _ _ _ _ _ us hl => match us, hl with | [_, _], _ => rfl
  have b__law_name : Binds K fd__law_name ["_law_pot_here", "_law_taken"] [] := F__law_name.bindsN fun _ _ _ _ _ _ us hl => match us, hl with | [_, _], _ => rfl
  have b__law_latches : Binds K fd__law_latches ["_law_pot_here"] [] := F__law_latches.bindsN fun _ _ _ _ _ _ us hl => match us, hl with | [_], _ => rfl
  have b__law_reached : Binds K fd__law_reached ["_law_pairs_here", "_law_start"] [] := F__law_reached.bindsN fun _ _ _ _ _ _ us hl => match us, hl with | [_, _], _ => rfl
  have b__law_two : Binds K fd__law_two ["_law_pot_here", "_law_latches_here"] [] := F__law_two.bindsN fun _ _ _ _ _ _ us hl => match us, hl with | [_, _], _ => rfl
  have b__law_pairs : Binds K fd__law_pairs ["_law_pot_here", "_law_latches_here", "_law_most"] [] := F__law_pairs.bindsN fun _ _ _ _ _ _ us hl => match us, hl with | [_, _, _], _ => rfl
  have b__law_grown : Binds K fd__law_grown ["_law_latches_here", "_law_pairs_here"] [] := F__law_grown.bindsN fun _ _ _ _ _ _ us hl => match us, hl with | [_, _], _ => rfl
  have b__law_spoilt : Binds K fd__law_spoilt ["_law_pot_here", "_law_latches_here", "_law_line"] [] := F__law_spoilt.bindsN fun _ _ _ _ _ _ us hl => match us, hl with | [_, _, _], _ => rfl
  have b__law_due : Binds K fd__law_due ["_law_latches_here", "_law_pairs_here", "_law_thing"] [] := F__law_due.bindsN fun _ _ _ _ _ _ us hl => match us, hl with | [_, _, _], _ => rfl
  have b_law := FunD.bindsA (ps := ["_law_script"]) F_law fun _ _ _ _ _ _ us hl => match us, hl with | [_], _ => rfl
  obtain ⟨ds_o, vs_o, b_o⟩ := F_Order___init__.binds1 (ps := ["self", "locks", "pairs"]) 3 1 (List.cons_ne_nil _ _) rfl (fun _ _ _ _ _ _ _ us its h1 h2 => match us, its, h1, h2 with | [_, _, _], [_], _, _ => ⟨_, rfl, rfl⟩)
  have b_il : KBn K fd_is_line ["order", "locks"] 0 ["order", "locks"] (fun us ws => L3.gS [(true, 0), (true, 1)] us [] ws) (fun vs zs => L3.gS [(true, 0), (true, 1)] vs [] zs) := F_is_line.kbindsN (fun _ _ _ _ _ _ us ws h1 h2 => match us, ws, h1, h2 with | [], [_, _], _, _ => rfl) (fun r1 r2 => L3.gS_rel r1 .nil r2)
  refine ⟨fd_law, fun s v => b_law s [v] rfl, fun base _ _ tb0 => ?_⟩
  have c__law_draw : Cal P w K mg base 1 "_law_draw" spDraw [] := ⟨_, _, _, _, ok_draw F__law_draw T, (He.glo_ok X G (c.t.d.fact 3 (f := .glo "_law_draw") rfl)), F__law_draw.kp, b__law_draw, .nil⟩
  have c__law_pot : Cal P w K mg base 1 "_law_pot" (spPot K) [] := ⟨_, _, _, _, ok_pot F__law_pot T, (He.glo_ok X G (c.t.d.fact 2 (f := .glo "_law_pot") rfl)), F__law_pot.kp, b__law_pot, .nil⟩
  have c__law_name : Cal P w K mg base 2 "_law_name" spName [] := ⟨_, _, _, _, ok_name F__law_name T c__law_draw, (He.glo_ok X G (c.t.d.fact 4 (f := .glo "_law_name") rfl)), F__law_name.kp, b__law_name, .nil⟩
  have oc : OrdC K (He.ga K "Order") := ⟨He.cls_ok (c.t.d.fact 34 (f := .cls "Order") rfl), He.noat_ok (c.t.d.fact 35 (f := .noat "Order" "own_locks") rfl), He.noat_ok (c.t.d.fact 36 (f := .noat "Order" "own_pairs") rfl)⟩
  have m_Order_want : Met P w K mg base 1 (He.ga K "Order") "want" (spWant (He.ga K "Order")) [] := ⟨_, _, _, _, He.cls_ok (c.t.d.fact 34 (f := .cls "Order") rfl), He.meth_ok (c.t.d.fact 38 (f := .meth "Order" "want") rfl), ok_Order_want F_Order_want T oc, b_Order_want, .nil⟩
  have m_Order_has : Met P w K mg base 2 (He.ga K "Order") "has" (spHas (He.ga K "Order")) [] := ⟨_, _, _, _, He.cls_ok (c.t.d.fact 34 (f := .cls "Order") rfl), He.meth_ok (c.t.d.fact 41 (f := .meth "Order" "has") rfl), ok_Order_has F_Order_has T oc m_Order_want, b_Order_has, .nil⟩
  have m_Order_after : Met P w K mg base 1 (He.ga K "Order") "after" (spAfter (He.ga K "Order")) [] := ⟨_, _, _, _, He.cls_ok (c.t.d.fact 34 (f := .cls "Order") rfl), He.meth_ok (c.t.d.fact 42 (f := .meth "Order" "after") rfl), ok_Order_after F_Order_after T oc, b_Order_after, .nil⟩
  have m_Order_behind : Met P w K mg base 2 (He.ga K "Order") "behind" (spBehind (He.ga K "Order")) [] := ⟨_, _, _, _, He.cls_ok (c.t.d.fact 34 (f := .cls "Order") rfl), He.meth_ok (c.t.d.fact 43 (f := .meth "Order" "behind") rfl), ok_Order_behind F_Order_behind T oc m_Order_want m_Order_after, b_Order_behind, .nil⟩
  have m_Order_leads : Met P w K mg base 3 (He.ga K "Order") "leads" (spLeads (He.ga K "Order")) [] := ⟨_, _, _, _, He.cls_ok (c.t.d.fact 34 (f := .cls "Order") rfl), He.meth_ok (c.t.d.fact 44 (f := .meth "Order" "leads") rfl), ok_Order_leads F_Order_leads T oc m_Order_want m_Order_behind, b_Order_leads, .nil⟩
  have m_Order_with_pair : Met P w K mg base 4 (He.ga K "Order") "with_pair" (spWith (He.ga K "Order") (cT0 K).2 lamQ) [] := ⟨_, _, _, _, He.cls_ok (c.t.d.fact 34 (f := .cls "Order") rfl), He.meth_ok (c.t.d.fact 45 (f := .meth "Order" "with_pair") rfl), ok_Order_with_pair F_Order_with_pair (code_of F_Order_with_pair) tb0 T oc m_Order_has m_Order_leads, b_Order_with_pair, .nil⟩
  have m_Order_locks : Met P w K mg base 1 (He.ga K "Order") "locks" (spLocks (He.ga K "Order")) [] := ⟨_, _, _, _, He.cls_ok (c.t.d.fact 34 (f := .cls "Order") rfl), He.meth_ok (c.t.d.fact 39 (f := .meth "Order" "locks") rfl), ok_Order_locks F_Order_locks T oc, b_Order_locks, .nil⟩
  have m_Order_pairs : Met P w K mg base 1 (He.ga K "Order") "pairs" (spPairs (He.ga K "Order")) [] := ⟨_, _, _, _, He.cls_ok (c.t.d.fact 34 (f := .cls "Order") rfl), He.meth_ok (c.t.d.fact 40 (f := .meth "Order" "pairs") rfl), ok_Order_pairs F_Order_pairs T oc, b_Order_pairs, .nil⟩
  have m_Order : Mak P w K mg base 5 "Order" (He.ga K "Order") (L3.spInitP K (He.ga K "Order") (cT0 K).2 lamQ) [] := ⟨_, _, _, _, He.mkr_ok (c.t.d.fact 37 (f := .mkr "Order") rfl), ok_Order___init__P F_Order___init__ T oc m_Order_with_pair, (He.glo_ok X G (c.t.d.fact 33 (f := .glo "Order") rfl)), b_o, vs_o⟩
  have x_draw := L3.cal_imp (sp' := L3.lsp ⟨K, [((cT0 K).2, lamQ)]⟩ none L3.pDraw) c__law_draw (L3.i_draw (fun p m H Q E h1 h2 h3 h4 h5 => ⟨p, m, rfl, h1, h2, h3, h4, h5⟩))
  have x_name := L3.cal_imp (sp' := L3.lsp ⟨K, [((cT0 K).2, lamQ)]⟩ (some 1) L3.pName) c__law_name (L3.i_name (fun p l ws H Q E h1 h2 h3 h4 h5 => ⟨p, l, ws, rfl, h1, h2, h3, h4, h5⟩))
  have x_pot := L3.cal_imp (sp' := L3.lsp ⟨K, [((cT0 K).2, lamQ)]⟩ none (L3.pPot K)) c__law_pot (L3.i_pot (X := ⟨K, [((cT0 K).2, lamQ)]⟩) (fun l ns k H Q E h1 h2 h3 h4 h5 => ⟨l, ns, k, rfl, h1, h2, h3, h4, h5⟩))
  have x_locks := L3.met_imp (sp' := L3.lsp ⟨K, [((cT0 K).2, lamQ)]⟩ none (L3.pLocks _)) m_Order_locks L3.i_locks
  have x_pairs := L3.met_imp (sp' := L3.lsp ⟨K, [((cT0 K).2, lamQ)]⟩ none (L3.pPairs _)) m_Order_pairs L3.i_pairs
  have c__law_latches : Cal P w K mg base 3 "_law_latches" (L3.lsp ⟨K, [((cT0 K).2, lamQ)]⟩ none L3.pLatches) [] := ⟨_, _, _, _, ok__law_latches F__law_latches T x_draw x_name, (He.glo_ok X G (c.t.d.fact 5 (f := .glo "_law_latches") rfl)), F__law_latches.kp, b__law_latches, .nil⟩
  have c__law_reached : Cal P w K mg base 1 "_law_reached" (L3.lsp ⟨K, [((cT0 K).2, lamQ)]⟩ none L3.pReached) [] := ⟨_, _, _, _, ok__law_reached F__law_reached T, (He.glo_ok X G (c.t.d.fact 6 (f := .glo "_law_reached") rfl)), F__law_reached.kp, b__law_reached, .nil⟩
  have c__law_two : Cal P w K mg base 2 "_law_two" (L3.lsp ⟨K, [((cT0 K).2, lamQ)]⟩ none L3.pTwo) [] := ⟨_, _, _, _, ok__law_two F__law_two T x_draw, (He.glo_ok X G (c.t.d.fact 7 (f := .glo "_law_two") rfl)), F__law_two.kp, b__law_two, .nil⟩
  have c__law_pairs : Cal P w K mg base 3 "_law_pairs" (L3.lsp ⟨K, [((cT0 K).2, lamQ)]⟩ none L3.pPairsL) [] := ⟨_, _, _, _, ok__law_pairs F__law_pairs T x_draw c__law_two c__law_reached, (He.glo_ok X G (c.t.d.fact 8 (f := .glo "_law_pairs") rfl)), F__law_pairs.kp, b__law_pairs, .nil⟩
  have c_stands_free : Cal P w K mg base 2 "stands_free" (L3.lsp ⟨K, [((cT0 K).2, lamQ)]⟩ none (L3.pFree (He.ga K "Order"))) [] := ⟨_, _, _, _, ok_stands_free F_stands_free T x_pairs, (He.glo_ok X G (c.t.d.fact 0 (f := .glo "stands_free") rfl)), F_stands_free.kp, b_stands_free, .nil⟩
  have c_is_line : Cal P w K mg base 3 "is_line" (L3.lsp ⟨K, [((cT0 K).2, lamQ)]⟩ none (L3.pIsLX (He.ga K "Order"))) [] := ⟨_, _, _, _, ok_is_line F_is_line T c_stands_free x_locks, (He.glo_ok X G (c.t.d.fact 1 (f := .glo "is_line") rfl)), F_is_line.kp, b_is_line, .nil⟩
  have c_is_line_ol : L3.CalN P w K mg base 3 "is_line" (L3.lsp ⟨K, [((cT0 K).2, lamQ)]⟩ none (L3.pIsLX (He.ga K "Order"))) 0 2 ["order", "locks"] (fun vs zs => L3.gS [(true, 0), (true, 1)] vs [] zs) := ⟨rfl, _, _, _, _, ok_is_line F_is_line T c_stands_free x_locks, (He.glo_ok X G (c.t.d.fact 1 (f := .glo "is_line") rfl)), F_is_line.kp, b_il⟩
  have c__law_grown : Cal P w K mg base 1 "_law_grown" (L3.lsp ⟨K, [((cT0 K).2, lamQ)]⟩ none L3.pGrown) [] := ⟨_, _, _, _, ok__law_grown F__law_grown T, (He.glo_ok X G (c.t.d.fact 9 (f := .glo "_law_grown") rfl)), F__law_grown.kp, b__law_grown, .nil⟩
  have c__law_spoilt : Cal P w K mg base 2 "_law_spoilt" (L3.lsp ⟨K, [((cT0 K).2, lamQ)]⟩ none L3.pSpoilt) [] := ⟨_, _, _, _, ok__law_spoilt F__law_spoilt T x_draw, (He.glo_ok X G (c.t.d.fact 10 (f := .glo "_law_spoilt") rfl)), F__law_spoilt.kp, b__law_spoilt, .nil⟩
  have c__law_due : Cal P w K mg base 1 "_law_due" (L3.lsp ⟨K, [((cT0 K).2, lamQ)]⟩ none L3.pDue37) [] := ⟨_, _, _, _, ok__law_due F__law_due T, (He.glo_ok X G (c.t.d.fact 11 (f := .glo "_law_due") rfl)), F__law_due.kp, b__law_due, .nil⟩
  have sel2 : L3.InSel 0 2 [0, 1] (fun vs zs => L3.gS [(true, 0), (true, 1)] vs [] zs) := ⟨fun vs zs h1 h2 => by
    match vs, zs, h1, h2 with
    | [], [_, _], _, _ => rfl⟩
  exact L3.fng_imp (ok_law sel2 c.more F_law T x_pot c__law_latches c__law_pairs m_Order c__law_grown c__law_spoilt c__law_due c_is_line c_is_line_ol) L3.law_impT
end K37
open PySem PySem.W PySem.Calls PyProof.Rows
set_option maxRecDepth 100000 in
set_option maxHeartbeats 0 in
theorem PySem.Challenge.cw_turnedback_k37_lines_judged_holds : PySem.Challenge.rw_turnedback_k37_lines_judged.Holds := by
  w_on; o_law
  refine HandSHeadRun.head_any (r := OpenLaw.row PySem.Challenge.rw_turnedback_k37_lines_judged) (q := view (OpenLaw.row PySem.Challenge.rw_turnedback_k37_lines_judged).prog [20]) (H := K37.hk) (ob := K37.ob) (M := 6000) (loose := K37.loose) (d := HandSHeadRun.topDef (OpenLaw.row PySem.Challenge.rw_turnedback_k37_lines_judged).prog 20) (kwd := []) K37.ob_eq
    (by kernel_rfl) (fun s => by kernel_rfl) K37.run (by kernel_rfl) (by kernel_rfl) (by kernel_rfl) (by rfl) (by first | assumption | decide +kernel) (by decide +kernel) ⟨rfl, rfl, rfl, rfl, rfl, by decide +kernel⟩ ?hw ?hc
  case hw => w_witness2
  case hc =>
    refine TB.walk_ofTG (l := PySem.Challenge.rw_turnedback_k37_lines_judged) (n := 63) (k := 7) (x := "_law_script") (CX := L2.CX0) rfl (by decide) (by kernel_rfl) ⟨rfl, by decide, by decide⟩ ?F (fun _ _ _ _ z => z)
    intro w mg fa h Y G hmg0
    obtain ⟨K, KX, c⟩ := Y
    have hmg : mg ("law" : PySem.Str) = some (.ref fa) := by
      have e : (HandSHeadRun.topDef (OpenLaw.row PySem.Challenge.rw_turnedback_k37_lines_judged).prog 20).name = ("law" : PySem.Str) := by kernel_rfl
      rw [← e]
      exact hmg0
    obtain ⟨fd, hb, hF⟩ := K37.facts (P := (PySem.Challenge.rw_turnedback_k37_lines_judged).prog) (w := w) KX G hmg c
    have hin : (("Order", some "with_pair") : He.Defn) ∈ K37.tf := List.mem_cons_self
    refine ⟨K, fd, L3.spLawT K (K37.cT0 K).2 K37.lamQ, (K37.cT0 K).1, (K37.cT0 K).2, KX, c.empty _ hin, c.out _ hin, PySem.W.codeHd_of_K KX (c.hd _ hin), hb, fun H a ns hl hO hT hS => ⟨a, ns, rfl, hS, ?_, hl, hO.noT, TB.TabS_nil hT, fun _ => rfl⟩, hF⟩
    exact TB.ne_tab hS hT (c.out _ hin)
