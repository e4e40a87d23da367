import PyProof.Rows.All
import Wide.All
import OpenK.AllK
import Wide.FinOn
import KE.KStateDown
import HandS.ForMost
import HandS.Exc
import HandS.TryOnly
import HandS.ExcOwn
import HandS.WordsExc
import HandS.Codes
import HandS.Defaults
import HandS.MakeKwOnly
import HandS.Deep
import HandS.Flow
import HandS.Style
import HandS.IsInst
import HandS.FStr
import HandS.TupAny
import HandS.Wide
import HandS.WideBits
import HandS.Conv
import HandS.Head0
import HandS.Head1
import HandS.Head2
import HandS.HeadEnd
import HandS.HeadHook1
import HandS.HeadHook2
import HandS.Evl
import PyProof.Rows.StrRev
import PySem.Challenge.RW_turnedback_k44_heights
set_option Elab.async false
set_option linter.all false
set_option maxRecDepth 100000
set_option maxHeartbeats 4000000
/-! A layer of my own over the hand layer: what a call may forget, the pot of draws as a hidden thing. -/
namespace TB
open PySem PySem.Spec PyProof.Rows L2

/-! ### leaving things behind at a call's end -/
/-- no dict with tuple keys in u -/
def noT : HO → Prop
  | .dT _ => False
  | .frz _ u => noT u
  | _ => True
def NoT (H : Hp) : Prop := ∀ a o, H a = some o → noT o
theorem NoT.upd {H : Hp} {p : Addr} {o : HO} (h : NoT H) (ho : noT o) : NoT (upd H p o) := fun a u e => by
  by_cases q : a = p
  · subst q
    rw [upd_same] at e
    cases e
    exact ho
  · rw [upd_ne q] at e
    exact h a u e
/-- what u at a leans on stands in H -/
def leans (H : Hp) (a : Addr) : HO → Prop
  | .ins _ dx _ => H dx = some (.own a)
  | .frz _ u => leans H a u
  | _ => True
theorem leans_of {P : Program} {w : World} {H : Hp} {h : Heap} {a : Addr} : ∀ (o : HO), ObjOk P w H h a o → leans H a o
  | .lst _, _ => trivial
  | .tup _, _ => trivial
  | .dK _, _ => trivial
  | .dT _, _ => trivial
  | .set _ _, _ => trivial
  | .ins _ _ _, x => x.1
  | .own _, _ => trivial
  | .xd _, _ => trivial
  | .rng _ _, _ => trivial
  | .frz _ u, x => leans_of u x.2
  | .tbl _, _ => trivial
  | .met _ _, _ => trivial
  | .ext _, _ => trivial
theorem ok_leans {P : Program} {w : World} {H H' : Hp} {h : Heap} {a : Addr} : ∀ (o : HO), ObjOk P w H h a o → noT o → leans H' a o → ObjOk P w H' h a o
  | .lst _, x, _, _ => x
  | .tup _, x, _, _ => x
  | .dK _, x, _, _ => x
  | .dT _, _, n, _ => n.elim
  | .set _ _, x, _, _ => x
  | .ins _ _ _, x, _, l => ⟨l, x.2⟩
  | .own _, x, _, _ => x
  | .xd _, x, _, _ => x
  | .rng _ _, x, _, _ => x
  | .frz _ u, x, n, l => ⟨x.1, ok_leans u x.2 n l⟩
  | .tbl _, x, _, _ => x
  | .met _ _, x, _, _ => x
  | .ext _, x, _, _ => x
/-- H'' is what is still told of H' behind a call that began with H: no more than H' tells, all that H told of, and what those lean on -/
structure Fg (H H' H'' : Hp) : Prop where
  sub : ∀ b o, H'' b = some o → H' b = some o
  old : ∀ b o o', H b = some o → H' b = some o' → H'' b = some o'
  lean : ∀ a o, H'' a = some o → H a = none → leans H'' a o
  same : ∀ a o, H a = some o → leans H a o → ∀ o', H'' a = some o' → leans H'' a o'
  nt : NoT H''
theorem hok_fg {P : Program} {w : World} {H H' H'' : Hp} {h h' : Heap} (k0 : HOk P w H h) (k : HOk P w H' h') (f : Fg H H' H'') : HOk P w H'' h' := by
  intro a o e
  refine ok_leans o (k a o (f.sub a o e)) (f.nt a o e) ?_
  cases q : H a with
  | none => exact f.lean a o e q
  | some u => exact f.same a u q (leans_of u (k0 a u q)) o e
theorem un_fg {fs ex : List Addr} {H H' H'' : Hp} {h h' : Heap} (u : Un fs ex H H' h h') (f : Fg H H' H'') : Un fs ex H H'' h h' where
  keep := u.keep
  slot := u.slot
  free := fun b o e n hx => by
    have z := u.free b o e n hx
    cases q : H'' b with
    | none => rfl
    | some v =>
      rw [f.sub b v q] at z
      cases z
  there := u.there
  tups := fun b xs e => f.old b _ _ e (u.tups b xs e)
  frzs := fun b o v e => f.old b _ _ e (u.frzs b o v e)
  tbls := fun b ps e => by
    obtain ⟨m, e2⟩ := u.tbls b ps e
    exact ⟨m, f.old b _ _ e e2⟩
/-- nothing new is told -/
theorem Fg.back {H H' : Hp} (s : Same H H') (n : NoT H) : Fg H H' H := by
  refine ⟨s, fun b o o' e e' => ?_, fun a o e z => ?_, fun a o e l o' e' => ?_, n⟩
  · rw [s b o e] at e'
    cases e'
    exact e
  · rw [e] at z
    cases z
  · rw [e] at e'
    cases e'
    exact l
/-- one new thing that leans on nothing -/
theorem Fg.one {H H' : Hp} {p : Addr} {o : HO} (s : Same H H') (n : NoT H) (hp : H p = none) (e : H' p = some o) (no : noT o) (lo : ∀ H, leans H p o) : Fg H H' (upd H p o) := by
  have lk : ∀ (a : Addr) (u : HO), leans H a u → leans (upd H p o) a u := by
    intro a u
    induction u with
    | ins C dx fs =>
      intro l
      have l2 : H dx = some (.own a) := l
      show upd H p o dx = some (.own a)
      rw [upd_ne (ne_of_none l2 hp)]
      exact l2
    | frz ob v ih => exact fun l => ih l
    | _ => exact fun _ => trivial
  refine ⟨fun b u q => ?_, fun b u u' q q' => ?_, fun a u q z => ?_, fun a u q l u' q' => ?_, n.upd no⟩
  · by_cases hb : b = p
    · subst hb
      rw [upd_same] at q
      cases q
      exact e
    · rw [upd_ne hb] at q
      exact s b u q
  · have hb : b ≠ p := ne_of_none q hp
    rw [upd_ne hb, ← q', s b u q]
    exact q
  · by_cases hb : a = p
    · subst hb
      rw [upd_same] at q
      cases q
      exact lo _
    · rw [upd_ne hb, z] at q
      cases q
  · have hb : a ≠ p := ne_of_none q hp
    rw [upd_ne hb, q] at q'
    cases q'
    exact lk a u l
section
variable {P : Program} {w : World} {K : PySem.W.Frag} {mg : Str → Option Value} {base : Heap} {CX : CXT} {k : Nat} {f : Addr} {fd : FuncData} {ps : List Str} {sp sp' : Sp}
/-- a promise whose end forgets -/
theorem fn_fg (F : FnOk P w K mg base CX k f fd ps sp) (h : ∀ vs H Q E, sp' vs H Q E → sp vs H (fun v H' => ∃ H'', Fg H H' H'' ∧ Q v H'') E) : FnOk P w K mg base CX k f fd ps sp' := by
  refine ⟨fun vs H Q E q => F.len _ _ _ _ (h vs H Q E q), fun A outer s H args us vs Q E hr he hb hv hs => ?_⟩
  refine codeAny_mono (F.run A outer s H args us vs _ E hr he hb hv (h vs H Q E hs)) fun r s' c => ?_
  match r, c with
  | .ok (.ret u), ⟨v, H', os, bare, un, hok, rv, H'', fg, q⟩ => exact ⟨v, H'', os, bare, un_fg un fg, hok_fg he.hok hok fg, rv, q⟩
  | .error e, c => exact c
end

/-! ### the pot: two numbers that nobody tells -/
def potP (p : Addr) (h : Heap) : Prop := ∃ (a b : Int) (t u : Tok) (n : Nat), h.get? p = some { cls := .type "list", data := .seq #[.int a t, .int b u] n } ∧ 0 ≤ a ∧ 0 ≤ b ∧ b < 2147483647
/-- a pot stands at p -/
def PotO (p : Addr) : HO := .ext (potP p)
theorem pot_stay (p : Addr) : ∀ h1 h2 : Heap, potP p h1 → (∀ o, h1.get? p = some o → h2.get? p = some o) → potP p h2 := by
  rintro h1 h2 ⟨a, b, t, u, n, e, r⟩ k
  exact ⟨a, b, t, u, n, k _ e, r⟩
theorem pot_ok {P : Program} {w : World} {H H' : Hp} {h : Heap} {p : Addr} {a b : Int} (x : ObjOk P w H h p (.lst [.int a, .int b])) (ha : 0 ≤ a) (hb : 0 ≤ b) (hb2 : b < 2147483647) : ObjOk P w H' h p (PotO p) := by
  obtain ⟨_, its, n, r, e⟩ := x
  cases r with
  | cons r1 r2 => cases r2 with
    | cons r2 r3 => cases r3 with
      | nil =>
        obtain ⟨t, rfl⟩ := r1
        obtain ⟨u, rfl⟩ := r2
        exact ⟨⟨a, b, t, u, n, e, ha, hb, hb2⟩, ⟨_, e⟩, pot_stay p⟩
theorem pot_open {P : Program} {w : World} {H : Hp} {h : Heap} {p : Addr} (x : ObjOk P w H h p (PotO p)) : ∃ a b : Int, 0 ≤ a ∧ 0 ≤ b ∧ b < 2147483647 ∧ ∀ H' : Hp, ObjOk P w H' h p (.lst [.int a, .int b]) := by
  obtain ⟨⟨a, b, t, u, n, e, ha, hb, hb2⟩, _, _⟩ := x
  exact ⟨a, b, ha, hb, hb2, fun _ => ⟨(by show 2 ≤ sizeLine; decide), _, n, .cons ⟨t, rfl⟩ (.cons ⟨u, rfl⟩ .nil), e⟩⟩
theorem pot_hok {P : Program} {w : World} {H : Hp} {h : Heap} {p : Addr} {o o' : HO} (k : HOk P w H h) (e : H p = some o) (m : Mut (some o)) (x : ObjOk P w (upd H p o') h p o') : HOk P w (upd H p o') h := by
  intro b u q
  by_cases hb : b = p
  · subst hb
    rw [upd_same] at q
    cases q
    exact x
  · rw [upd_ne hb] at q
    refine (k b u q).stay (fun _ _ _ z => z) (fun c z => ?_) (fun c xs z => ?_)
    · rw [upd_ne (ne_of z e (fun y => by rw [← y] at m; exact m))]
      exact z
    · rw [upd_ne (ne_of z e (fun y => by rw [← y] at m; exact m))]
      exact z
section
variable {P : Program} {w : World} {K : PySem.W.Frag} {mg : Str → Option Value} {base : Heap} {k : Nat} {f : Addr} {fd : FuncData} {ps : List Str} {sp sp' : Sp}
/-- a def that turns a pot, told of a pot that nobody looks into -/
theorem fn_pot (F : FnOk P w K mg base CX0 k f fd ps sp)
    (h : ∀ vs H Q E, sp' vs H Q E → ∃ p, H p = some (PotO p) ∧ ∀ a b : Int, 0 ≤ a → 0 ≤ b → b < 2147483647 →
      sp vs (upd H p (.lst [.int a, .int b])) (fun v H' => ∃ a' b' : Int, 0 ≤ a' ∧ 0 ≤ b' ∧ b' < 2147483647 ∧ H' p = some (.lst [.int a', .int b']) ∧ ∃ H'', Fg H (upd H' p (PotO p)) H'' ∧ Q v H'') E) : FnOk P w K mg base CX0 k f fd ps sp' := by
  refine ⟨fun vs H Q E q => ?_, fun A outer s H args us vs Q E hr he hb hv hs => ?_⟩
  · obtain ⟨p, _, z⟩ := h vs H Q E q
    exact F.len _ _ _ _ (z 0 0 (by decide) (by decide) (by decide))
  · obtain ⟨p, hp, z⟩ := h vs H Q E hs
    obtain ⟨a, b, ha, hb0, hb1, ok⟩ := pot_open (he.hok p _ hp)
    have ok1 : HOk P w (upd H p (.lst [.int a, .int b])) s.heap := pot_hok he.hok hp trivial (ok _)
    have ne : ∀ c, H c = none → c ≠ p := fun c q z => by
      rw [z, hp] at q
      cases q
    have e1 : Env0 P w K mg base A outer s (upd H p (.lst [.int a, .int b])) := ⟨he.frames, he.mod, fun c o q => ⟨(he.bs c o q).1, by rw [upd_ne (ne c (he.bs c o q).2)]; exact (he.bs c o q).2⟩, he.bsz, he.funs, fun c q => by rw [upd_ne (ne c (he.frf c q))]; exact he.frf c q, ok1, he.bare⟩
    refine codeAny_mono (F.run A outer s _ args us vs _ E hr e1 hb hv (z a b ha hb0 hb1)) fun r s' c => ?_
    match r, c with
    | .ok (.ret u), ⟨v, H', os, bare, un, hok, rv, a', b', ha', hb', hb2', ep, H'', fg, q⟩ =>
      have hok2 : HOk P w (upd H' p (PotO p)) s'.heap := pot_hok hok ep trivial (pot_ok (hok p _ ep) ha' hb' hb2')
      have np : ∀ c o, H c = some o → o ≠ PotO p → c ≠ p := fun c o q n z => by
        rw [z, hp] at q
        cases q
        exact n rfl
      have un2 : Un (frs outer) [] H (upd H' p (PotO p)) s.heap s'.heap := by
        refine ⟨fun c o q n h1 h2 => un.keep c o q (by rw [upd_ne (ne c n)]; exact n) h1 h2, fun c o q n h1 h2 => un.slot c o q (by rw [upd_ne (ne c n)]; exact n) h1 h2, fun c o q n h2 => ?_, un.there, fun c xs q => ?_, fun c o v q => ?_, fun c qs q => ?_⟩
        · rw [upd_ne (ne c n)]
          exact un.free c o q (by rw [upd_ne (ne c n)]; exact n) h2
        · have nc := np c _ q (by intro z; cases z)
          rw [upd_ne nc]
          exact un.tups c xs (by rw [upd_ne nc]; exact q)
        · have nc := np c _ q (by intro z; cases z)
          rw [upd_ne nc]
          exact un.frzs c o v (by rw [upd_ne nc]; exact q)
        · have nc := np c _ q (by intro z; cases z)
          rw [upd_ne nc]
          exact un.tbls c qs (by rw [upd_ne nc]; exact q)
      exact ⟨v, H'', os, bare, un_fg un2 fg, hok_fg he.hok hok2 fg, rv, q⟩
/-- a def that makes a pot -/
theorem fn_mkpot (F : FnOk P w K mg base CX0 k f fd ps sp)
    (h : ∀ vs H Q E, sp' vs H Q E → sp vs H (fun v H' => ∃ (p : Addr) (a b : Int), 0 ≤ a ∧ 0 ≤ b ∧ b < 2147483647 ∧ H p = none ∧ H' p = some (.lst [.int a, .int b]) ∧ ∃ H'', Fg H (upd H' p (PotO p)) H'' ∧ Q v H'') E) : FnOk P w K mg base CX0 k f fd ps sp' := by
  refine ⟨fun vs H Q E q => F.len _ _ _ _ (h vs H Q E q), fun A outer s H args us vs Q E hr he hb hv hs => ?_⟩
  refine codeAny_mono (F.run A outer s _ args us vs _ E hr he hb hv (h vs H Q E hs)) fun r s' c => ?_
  match r, c with
  | .ok (.ret u), ⟨v, H', os, bare, un, hok, rv, p, a', b', ha', hb', hb2', np, ep, H'', fg, q⟩ =>
    have hok2 : HOk P w (upd H' p (PotO p)) s'.heap := pot_hok hok ep trivial (pot_ok (hok p _ ep) ha' hb' hb2')
    have un2 : Un (frs outer) [] H (upd H' p (PotO p)) s.heap s'.heap := by
      refine ⟨un.keep, un.slot, fun c o q n h2 => ?_, un.there, fun c xs q => ?_, fun c o v q => ?_, fun c qs q => ?_⟩
      · have z := un.free c o q n h2
        have nc : c ≠ p := fun y => by
          rw [y, ep] at z
          cases z
        rw [upd_ne nc]
        exact z
      · rw [upd_ne (ne_of_none q np)]
        exact un.tups c xs q
      · rw [upd_ne (ne_of_none q np)]
        exact un.frzs c o v q
      · rw [upd_ne (ne_of_none q np)]
        exact un.tbls c qs q
    exact ⟨v, H'', os, bare, un_fg un2 fg, hok_fg he.hok hok2 fg, rv, q⟩
end
end TB
/-! Promises that hold where nothing on the stack is being shown (repr needs that). -/
namespace TB
open PySem PySem.Spec PyProof.Rows L2
/-- as FnOk, of calls where no guard lies below -/
structure FnG (P : Program) (w : World) (K : PySem.W.Frag) (mg : Str → Option Value) (base : Heap) (CX : CXT) (k : Nat) (f : Addr) (fd : FuncData) (ps : List Str) (sp : Sp) : Prop where
  lenG : ∀ vs H Q E, sp vs H Q E → vs.length = ps.length
  runG : ∀ (A : Around) (outer : List Env) (s : Shared) (H : Hp) (args : Args) (us : List Value) (vs : List V) (Q : VK) (E : XK), A.guards = some [] → Room k A → Env0 P w K mg base A outer s H → BindsTo s fd args (ps.zip us) → Vals vs us →
    sp vs H Q E → codeAny (model P w) A (.call (.ref f) args) (CR CX outer P w H s Q E) s
section
variable {P : Program} {w : World} {K : PySem.W.Frag} {mg : Str → Option Value} {base : Heap} {CX : CXT} {k : Nat} {f : Addr} {fd : FuncData} {ps : List Str} {sp sp' : Sp}
theorem FnG.of (F : FnOk P w K mg base CX k f fd ps sp) : FnG P w K mg base CX k f fd ps sp :=
  ⟨F.len, fun A outer s H args us vs Q E _ hr he hb hv hs => F.run A outer s H args us vs Q E hr he hb hv hs⟩
theorem fg_fg (F : FnG P w K mg base CX k f fd ps sp) (h : ∀ vs H Q E, sp' vs H Q E → sp vs H (fun v H' => ∃ H'', Fg H H' H'' ∧ Q v H'') E) : FnG P w K mg base CX k f fd ps sp' := by
  refine ⟨fun vs H Q E q => F.lenG _ _ _ _ (h vs H Q E q), fun A outer s H args us vs Q E g hr he hb hv hs => ?_⟩
  refine codeAny_mono (F.runG A outer s H args us vs _ E g hr he hb hv (h vs H Q E hs)) fun r s' c => ?_
  match r, c with
  | .ok (.ret u), ⟨v, H', os, bare, un, hok, rv, H'', fg, q⟩ => exact ⟨v, H'', os, bare, un_fg un fg, hok_fg he.hok hok fg, rv, q⟩
  | .error e, c => exact c
/-- a def of the text, by its body, where no guard lies below -/
theorem fng_of {x qual : Str} {params : Arguments} {body : List Stmt} {scope : Scope} {dvs : List V} {kws : List (Str × V)} {N : List Str}
    (F : FunD K x qual params body scope dvs kws f fd) (S : FnScope N ps scope) (len : ∀ vs H Q E, sp vs H Q E → vs.length = ps.length)
    (hbody : ∀ (cdv : Value) (A : Around) (outer : List Env) (s : Shared) (H : Hp) (vs : List V) (Q : VK) (E : XK), A.guards = some [] →
      Room k (A.deeper (envOfC qual scope s.heap.objs.size f cdv)) → sp vs H Q E →
      ∃ t, PSs (cxOf CX P w K mg base N qual scope f cdv A outer s H E) body t ∧ t { nx := fun _ H' => Q .non H', rt := Q } (start N vs) H) :
    FnG P w K mg base CX (k + 1) f fd ps sp := by
  obtain ⟨oc, od, dV, kV, doc, pm, an, cdv, ct, osl, rfl, lk, hcd, _, _⟩ := F.ex
  refine ⟨len, ?_⟩
  intro A outer s H args us vs Q E g hr e0 hb rv hsp
  have hl := len _ _ _ _ hsp
  have kx : K.In s.heap := e0.mod.kin.keeps (fun b o e => And.left (e0.bs b o e))
  have nl : s.heap.NoLimit := e0.mod.nolimit.keeps (fun b o e => And.left (e0.bs b o e))
  obtain ⟨t, ht, hq⟩ := hbody cdv A outer s H vs Q E g (hr.deeper _) hsp
  refine codeAny_call_function hr.depth (kx _ _ lk) rfl S.co S.gen rfl (PySem.W.codeRec_of kx hcd) (hb _ _ _ _ (wpAny_newFunctionEnv_cells S.kind ?_ ?_))
  · rintro ⟨n, v⟩ hy
    rcases S.par n (List.of_mem_zip hy).1 with z | z
    · exact Or.inl z
    · exact Or.inr ⟨z, PySem.W.cellsFrom_some _ _ _ (Or.inl z)⟩
  · rintro env rfl s1 x
    refine ⟨nl.keeps x.toInCall.keep, codeAny_func ?_⟩
    refine wpAny_mono (ht.run [] s1 (start N vs) H _ (inv_start S hr.hd e0 hl rv x) hq) ?_ (fun _ _ z => z)
    rintro (_ | _ | _ | u) s' hs
    · obtain ⟨σ', H', J, q⟩ := hs
      exact ⟨V.non, H', J.os, J.bare, J.base, J.hok, rfl, q⟩
    · exact (hs.elim fun _ z => z.elim fun _ z => z.2.elim)
    · exact (hs.elim fun _ z => z.elim fun _ z => z.2.elim)
    · obtain ⟨v, σ', H', J, r2, q⟩ := hs
      exact ⟨v, H', J.os, J.bare, J.base, J.hok, r2, q⟩
/-- a def by its name, with FnG's promise -/
structure CalG (P : Program) (w : World) (K : PySem.W.Frag) (mg : Str → Option Value) (base : Heap) (k : Nat) (x : Str) (sp : Sp) : Prop where
  gex : ∃ (f : Addr) (fd : FuncData) (ps : List Str), FnG P w K mg base CX0 k f fd ps sp ∧ mg x = some (.ref f) ∧ PySem.W.keepIn K (.ref f) = true ∧ Binds K fd ps []
theorem deeper_guards (A : Around) (env : Env) : (A.deeper env).guards = A.guards := rfl
end
section
variable {X : Cx} {k j : Nat} {x : Str} {sp : Sp} {p pos : Pos} {e : Expr} {es : List Expr} {t : TA}
theorem run_fng {f : Addr} {fd : FuncData} {ps : List Str} {CX : CXT} {E : XK} {pins : List (Addr × Obj)} {σ : L2.St} {H : Hp} {s : Shared} {Q : VK} {us : List Value} {vs : List V}
    (F : FnG X.prog X.w X.K X.mg X.base CX k f fd ps sp) (g : X.A.guards = some []) (hr : Room k X.A) (hb : Binds X.K fd ps []) (hx : Passes CX X E) (I : Inv X pins σ H s) (rv : Vals vs us) (h : sp vs H Q E) :
    wpAny (model X.prog X.w) X.A (call (.ref f) us) (EP X pins σ Q) X.xe s := by
  have hl : (us ++ []).length = ps.length := by
    rw [List.append_nil, ← rv.length]
    exact F.lenG _ _ _ _ h
  have hb2 := hb s us I.kIn hl
  rw [List.append_nil] at hb2
  refine wpAny_call (codeAny_mono (F.runG X.A X.stack s H ⟨us, []⟩ us vs Q E g hr I.env0 hb2 rv h) ?_)
  rintro (er | (_ | _ | _ | u)) s' hq
  · exact hx pins σ H s er s' I hq
  · exact hq.elim
  · exact hq.elim
  · exact hq.elim
  · exact I.after hq
theorem pe_cG (c : CalG X.prog X.w X.K X.mg X.base k x sp) (g : X.A.guards = some []) (hr : Room j X.A) (hk : k ≤ j) (hg : Gl X x) (ha : PA X (e :: es) t)
    (hdb : (x == ("__debug__" : Str)) = false := by decide) (he : starEach (e :: es) X.env = (false, eval e X.env) :: starEach es X.env := by rfl)
    (hpl : (backTo pos (starEach es X.env)).any (·.1) = false := by rfl) : PE X (.Call (.Name x p) (e :: es) [] pos) (tCall sp [] E0 t) := by
  obtain ⟨f, fd, ps, F, hm, kp, b⟩ := c.gex
  constructor
  intro pins s σ H Q I h
  refine wpAny_Call_Name_kw (ld_glob I hg hm ?_ hdb)
  refine PySem.W.callWith_K (h₀ := X.base) I.ok.mod.kin kp ?_ he hpl
  refine thn (ha.run pos pins s σ H _ I h) ?_
  rintro us s1 ⟨vs, H1, I1, r, q⟩
  refine ⟨I1.kIn, run_fng F g (hr.mono hk) b pass0 I1 r ?_⟩
  have q2 : sp (vs ++ []) H1 Q E0 := q
  rw [List.append_nil] at q2
  exact q2
end
/-! ### the end -/
theorem law_callG {P : Program} {w : World} {K : PySem.W.Frag} {mg mb : Str → Option Value} {CX : CXT} {k : Nat} {fa a : Addr} {fd : FuncData} {x : Str} {sp : Sp} {s₁ : Shared} {vs : List Value} {ns : List Int}
    (KX : K.In s₁.heap) (hns : s₁.heap.Ns mainGlobals mg) (hb : s₁.heap.Ns builtinsNs mb) (hbb : ∀ y : Str, y ≠ "__name__" → mb y = bootBuiltins y) (hlim : s₁.heap.NoLimit) (hg : s₁.gens = #[])
    (ha : s₁.heap.get? a = some { cls := .type "list", data := .seq vs.toArray }) (hi : IntsAre vs ns) (hl : ns.length ≤ sizeLine) (hr : Room k callerA)
    (F : ∀ base : Heap, K.In base → base.Ns mainGlobals mg → FnG P w K mg base CX k fa fd [x] sp) (hbind : ∀ (s : Shared) (u : Value), BindsTo s fd ⟨[u], []⟩ [(x, u)])
    (hsp : ∀ H : Hp, Only H → SqL K H a (ns.map V.int) → sp [.ref a] H (fun v _ => v = .bl true) (fun _ _ _ => False)) (hCX : ∀ H e s', CX [] H s₁ (fun _ _ _ => False) e s' → False) :
    codeAny (model P w) callerA (.call (.ref fa) ⟨[.ref a], []⟩) (fun r s' => r = .ok (.ret (.bool true)) ∧ OldK s₁.heap s'.heap ∧ s'.os = s₁.os ∧ AllBare s'.gens) s₁ := by
  have lenV := hi.length
  suffices core : ∀ H : Hp, Only H → SqL K H a (ns.map V.int) → HOk P w H s₁.heap → (∀ b, H b ≠ none → b = a) → (H a ≠ none → K.lookup a = none) →
      codeAny (model P w) callerA (.call (.ref fa) ⟨[.ref a], []⟩) (fun r s' => r = .ok (.ret (.bool true)) ∧ OldK s₁.heap s'.heap ∧ s'.os = s₁.os ∧ AllBare s'.gens) s₁ by
    cases hk : K.lookup a with
    | some o =>
      have e := (KX a o hk).symm.trans ha
      cases e
      refine core (fun _ => none) (fun _ => Or.inl rfl) (Or.inr ⟨_, vs.toArray, _, hk, rfl, rfl, rfl, ?_, ?_⟩) (fun b u z => ?_) (fun b z => absurd rfl z) (fun z => absurd rfl z)
      · rw [List.size_toArray, lenV]
        exact hl
      · rw [List.toList_toArray]
        exact vals_ints hi
      · exact nomatch (show (none : Option HO) = some u from z)
    | none =>
      let H0 : Hp := upd (fun _ => none) a (.frz { cls := .type "list", data := .seq vs.toArray } (.lst (ns.map V.int)))
      have at_ : ∀ b u, H0 b = some u → b = a ∧ u = .frz { cls := .type "list", data := .seq vs.toArray } (.lst (ns.map V.int)) := by
        intro b u z
        by_cases q : b = a
        · subst q
          have z2 : upd (fun _ => none) b (.frz { cls := .type "list", data := .seq vs.toArray } (.lst (ns.map V.int))) b = some u := z
          rw [upd_same] at z2
          exact ⟨rfl, (Option.some.inj z2).symm⟩
        · have z2 : upd (fun _ => none) a (.frz { cls := .type "list", data := .seq vs.toArray } (.lst (ns.map V.int))) b = some u := z
          rw [upd_ne q] at z2
          exact nomatch z2
      refine core H0 (fun b => ?_) (Or.inl (Or.inr ⟨_, upd_same⟩)) (fun b u z => ?_) (fun b z => ?_) (fun _ => hk)
      · cases q : H0 b with
        | none => exact Or.inl rfl
        | some u => exact Or.inr ⟨_, _, congrArg some (at_ b u q).2⟩
      · obtain ⟨rfl, rfl⟩ := at_ b u z
        refine ⟨ha, ?_, vs, _, vals_ints hi, ha⟩
        rw [List.length_map]
        exact hl
      · cases q : H0 b with
        | none => exact absurd q z
        | some u => exact (at_ b u q).1
  intro H hO hS hok hA hK
  have seqd : ∀ {b : Addr} {o : Obj} {es : Array DictEntry} {ep : Nat}, s₁.heap.get? b = some o → o.data = .dict es ep → H b = none := by
    intro b o es ep e d
    cases q : H b with
    | none => rfl
    | some u =>
      have z : b = a := hA b (by rw [q]; exact Option.some_ne_none u)
      rw [z, ha] at e
      cases e
      exact nomatch d
  have nsK : ∀ {b : Addr} {m : Str → Option Value}, s₁.heap.Ns b m → (hidT s₁.heap H).Ns b m := by
    rintro b m ⟨o, es, ep, e, d, r⟩
    exact ⟨o, es, ep, hidT_get e (seqd e d), d, r⟩
  have hKb : K.In (hidT s₁.heap H) := by
    intro b o e
    refine hidT_get (KX b o e) ?_
    cases q : H b with
    | none => rfl
    | some u =>
      have z : b = a := hA b (by rw [q]; exact Option.some_ne_none u)
      subst z
      rw [hK (by rw [q]; exact Option.some_ne_none u)] at e
      exact nomatch e
  obtain ⟨mc, h1, h2⟩ := hlim
  have hM : Mod K mg (hidT s₁.heap H) := ⟨hKb, nsK hns, ⟨mb, nsK hb, hbb⟩, ⟨mc, nsK h1, h2⟩⟩
  have e0 : Env0 P w K mg (hidT s₁.heap H) callerA [] s₁ H :=
    ⟨rfl, hM, fun b o e => of_hidT e, Nat.le_of_eq (hidT_size _ _), trivial, fun b z => (nomatch (show b ∈ ([] : List Addr) from z)), hok, .of_eq hg⟩
  refine codeAny_mono ((F _ hKb (nsK hns)).runG callerA [] s₁ H ⟨[.ref a], []⟩ [.ref a] [.ref a] _ _ rfl hr e0 (hbind s₁ (.ref a)) (.cons rfl .nil) (hsp H hO hS)) ?_
  rintro (er | (_ | _ | _ | u)) s' h
  · exact (hCX H er s' h).elim
  · exact h.elim
  · exact h.elim
  · exact h.elim
  · obtain ⟨v, H', os, bare, un, hok', r', q⟩ := h
    obtain rfl : v = .bl true := q
    obtain rfl : u = Value.bool true := r'
    refine ⟨rfl, OldK.of_keep ?_, os, bare⟩
    intro b o e
    cases q : H b with
    | none => exact un.keep b o e q (fun z => nomatch (show b ∈ ([] : List Addr) from z)) (fun z => nomatch z)
    | some y =>
      rcases hO b with z | ⟨ob, xs, z⟩
      · exact nomatch (q.symm.trans z)
      · have e1 := (hok b _ z).1
        have e2 := (hok' b _ (un.frzs b ob _ z)).1
        rw [e] at e1
        cases e1
        exact e2
theorem walk_ofG {l : PySem.W.OpenLaw} {n k : Nat} {q : Program} {loose : List Str} {XP : (Str → Option Value) → Heap → Prop} {YP : World → Heap → Prop} {d : DefRec} {CX : CXT} {x : Str}
    (hn : l.most = some n) (hn2 : n ≤ sizeLine) (hdf : d.params.defaults = []) (hr : Room k callerA)
    (F : ∀ (w : World) (mg : Str → Option Value) (fa : Addr) (h : Heap), YP w h → h.Ns mainGlobals mg → mg d.name = some (.ref fa) →
      ∃ (K : PySem.W.Frag) (fd : FuncData) (sp : Sp), K.In h ∧ (∀ (s : Shared) (u : Value), BindsTo s fd ⟨[u], []⟩ [(x, u)]) ∧
        (∀ (H : Hp) (a : Addr) (ns : List Int), ns.length ≤ n → Only H → SqL K H a (ns.map V.int) → sp [.ref a] H (fun v _ => v = .bl true) (fun _ _ _ => False)) ∧
        ∀ base : Heap, K.In base → base.Ns mainGlobals mg → FnG l.prog w K mg base CX k fa fd [x] sp)
    (hCX : ∀ (H : Hp) (s : Shared) (e : Value) (s' : Shared), CX [] H s (fun _ _ _ => False) e s' → False) :
    PySem.W.WalkO q loose XP YP l.row.toRowW d [] (fun f vs => PySem.call f vs) := by
  refine Att.attach_call hn hdf ?_
  intro w s₀ s₁ mg mb fa o pm cd doc a vs ns G Y ho hd hcd hmg hobj hints hlen hg
  obtain ⟨K, fd, sp, kx, hb, hsp, hF⟩ := F w mg fa _ Y G.T.g hmg
  exact law_callG kx G.T.g G.T.b G.T.builtins G.T.nolimit hg hobj hints (Nat.le_trans hlen hn2) hr hF hb (fun H hO hS => hsp H a ns hlen hO hS) (fun H e s' => hCX H s₁ e s')
end TB
/-! Steps of readings, rules of my own (divmod of great numbers, repr of data, a text from its end), loops. -/
namespace TB
open PySem PySem.Spec PyProof.Rows L2
/-! ### one step of a reading -/
section
variable {σ : L2.St} {H : Hp} {D : Ends} {Q : VK} {QT : Bool → Hp → Prop} {QA : List V → Hp → Prop} {t u : TS} {te ta tb : TE} {tc td : TT} {tl : TA} {g : TG} {i : Nat} {v x y : V}
theorem st_par {j : Nat} (h : tl σ H fun vs H1 => ∃ v w, vs = [v, w] ∧ D.nx ((σ.set i (some v)).set j (some w)) H1) : tPar i j tl D σ H := h
theorem st_seq (h : t { D with nx := u D } σ H) : tSeq t u D σ H := h
theorem st_next (h : D.nx σ H) : tNext D σ H := h
theorem st_drop (h : te σ H fun _ H1 => D.nx σ H1) : tDrop te D σ H := h
theorem st_ret (h : te σ H D.rt) : tRet te D σ H := h
theorem st_asg (h : te σ H fun x H1 => g x σ H1 D.nx) : tAsg te g D σ H := h
theorem st_name {R : L2.St → Hp → Prop} (h : R (σ.set i (some v)) H) : gName i v σ H R := h
theorem st_var (e : σ[i]? = some (some v)) (h : Q v H) : tVar i σ H Q := ⟨v, e, h⟩
theorem st_c (h : Q v H) : tC v σ H Q := h
theorem st_op {r : R2} (h : ta σ H fun x H1 => tb σ H1 fun y H2 => r x y H2 Q) : tOp r ta tb σ H Q := h
theorem st_un {r : V → Hp → VK → Prop} (h : ta σ H fun x H1 => r x H1 Q) : tUn r ta σ H Q := h
theorem st_cons (h : ta σ H fun x H1 => tl σ H1 fun xs H2 => QA (x :: xs) H2) : tCons ta tl σ H QA := h
theorem st_nil (h : QA [] H) : tNil σ H QA := h
theorem st_cb {r : List V → Hp → VK → Prop} (h : tl σ H fun vs H1 => r vs H1 Q) : tCB r tl σ H Q := h
theorem st_call {sp : Sp} {dvs : List V} {E : XK} (h : tl σ H fun vs H1 => sp (vs ++ dvs) H1 Q E) : tCall sp dvs E tl σ H Q := h
theorem st_ifs (h : tc σ H fun b H1 => if b = true then t D σ H1 else u D σ H1) : tIfS tc t u D σ H := h
theorem st_if (h : tc σ H fun b H1 => if b = true then ta σ H1 Q else tb σ H1 Q) : tIf tc ta tb σ H Q := h
theorem st_test (h : te σ H fun x H1 => ∃ k, x = .bl k ∧ QT k H1) : tTest te σ H QT := h
theorem st_tb (h : te σ H fun x H1 => ∃ k, x = .bl k ∧ QT k H1) : tB te σ H QT := h
theorem st_not (h : tc σ H fun c H1 => QT (!c) H1) : tNot tc σ H QT := h
theorem st_and (h : tc σ H fun c H1 => if c = true then td σ H1 QT else QT false H1) : tAnd tc td σ H QT := h
theorem st_or (h : tc σ H fun c H1 => if c = true then QT true H1 else td σ H1 QT) : tOr tc td σ H QT := h
theorem st_yes (h : QT true H) : tYes σ H QT := h
theorem st_lst (h : tl σ H fun xs H1 => xs.length ≤ sizeLine ∧ ∀ p, H1 p = none → Q (.ref p) (upd H1 p (.lst xs))) : tLst tl σ H Q := h
theorem st_tup (h : tl σ H fun xs H1 => xs.length ≤ sizeLine ∧ ∀ p, H1 p = none → Q (.ref p) (upd H1 p (.tup xs))) : tTup tl σ H Q := h
theorem st_bm {K : PySem.W.Frag} {T : String} {r : V → List V → Hp → VK → Prop} (h : te σ H fun x H1 => tyV K T x H1 ∧ tl σ H1 fun xs H2 => r x xs H2 Q) : tBM K T r te tl σ H Q := h
theorem st_m1 {r : V → List V → Hp → VK → Prop} (h : ta σ H fun x H1 => (∃ a, x = .str a) ∧ tb σ H1 fun y H2 => r x [y] H2 Q) : tM1 r ta tb σ H Q := h
theorem st_I0 {g : Int → Int → V} {i j : Int} (h : Q (g i j) H) : rI0 g (.int i) (.int j) H Q := ⟨i, j, rfl, rfl, h⟩
theorem st_I {C : Int → Int → Prop} {g : Int → Int → V} {i j : Int} (c : C i j) (h : Q (g i j) H) : rI C g (.int i) (.int j) H Q := ⟨i, j, rfl, rfl, c, h⟩
theorem st_eq (c : scal x y = true) (h : Q (.bl (decide (x = y))) H) : rEq x y H Q := ⟨c, h⟩
theorem st_ne (c : scal x y = true) (h : Q (.bl (!decide (x = y))) H) : rNe x y H Q := ⟨c, h⟩
theorem st_bl {P : Bool → Prop} {b : Bool} (h : P b) : ∃ k, V.bl b = V.bl k ∧ P k := ⟨b, rfl, h⟩
theorem st_gtup {K : PySem.W.Frag} {n : Nat} {tg : TGs} {a : Addr} {xs : List V} {R : L2.St → Hp → Prop} (hs : SqT K H a xs) (hn : xs.length = n) (h : tg xs σ H R) : gTup K n tg (.ref a) σ H R := ⟨a, xs, rfl, hs, hn, h⟩
theorem st_gcons {g : TG} {tg : TGs} {vs : List V} {R : L2.St → Hp → Prop} (h : g v σ H fun σ' H' => tg vs σ' H' R) : gCons g tg (v :: vs) σ H R := ⟨v, vs, rfl, h⟩
theorem st_gnil {R : L2.St → Hp → Prop} (h : R σ H) : gNil [] σ H R := ⟨rfl, h⟩
theorem st_gsub {R : L2.St → Hp → Prop} {ts : V → V → V → Hp → (Hp → Prop) → Prop} (h : ta σ H fun o H1 => tb σ H1 fun i H2 => ts o i v H2 fun H3 => R σ H3) : gSub ta tb ts v σ H R := h
theorem st_ixL {K : PySem.W.Frag} {p : Addr} {xs : List V} {i : Int} (hs : SqL K H p xs) (e : atI xs i = some v) (h : Q v H) : rIxL K (.ref p) (.int i) H Q := ⟨p, xs, i, v, rfl, rfl, hs, e, h⟩
theorem st_ixT {K : PySem.W.Frag} {p : Addr} {xs : List V} {i : Int} (hs : SqT K H p xs) (e : atI xs i = some v) (h : Q v H) : rIxT K (.ref p) (.int i) H Q := ⟨p, xs, i, v, rfl, rfl, hs, e, h⟩
theorem st_ixS {z : Str} {i : Int} {c : Nat} (hl : z.length ≤ sizeLine) (e : atI z.cps.toList i = some c) (h : Q (.str ⟨#[c]⟩) H) : rIxS (.str z) (.int i) H Q := ⟨z, i, c, rfl, rfl, hl, e, h⟩
theorem st_setL {p : Addr} {xs : List V} {k : Int} {j : Nat} {R : Hp → Prop} (e : H p = some (.lst xs)) (n : ixN xs.length k = some j) (h : R (upd H p (.lst (xs.set j v)))) : rSetL (.ref p) (.int k) v H R := ⟨p, xs, k, j, rfl, rfl, e, n, h⟩
theorem st_sl {r : V → Option Int → Option Int → Hp → VK → Prop} {lo hi : TO} (h : te σ H fun x H1 => lo σ H1 fun l H2 => hi σ H2 fun u H3 => r x l u H3 Q) : L2.tSl r te lo hi σ H Q := h
theorem st_nopart {QO : Option Int → Hp → Prop} (h : QO none H) : tNoPart σ H QO := h
theorem st_part {QO : Option Int → Hp → Prop} (h : te σ H fun x H1 => ∃ i, x = .int i ∧ QO (some i) H1) : tPart te σ H QO := h
theorem st_in {K : PySem.W.Frag} {p : Addr} {xs : List V} (hs : SqL K H p xs) (f : flatV x = true) (a : xs.all flatV = true) (h : Q (.bl (inV x xs)) H) : rIn K false x (.ref p) H Q := ⟨p, xs, rfl, Or.inl hs, f, a, h⟩
theorem st_nin {K : PySem.W.Frag} {p : Addr} {xs : List V} (hs : SqL K H p xs) (f : flatV x = true) (a : xs.all flatV = true) (h : Q (.bl (!inV x xs)) H) : rIn K true x (.ref p) H Q := ⟨p, xs, rfl, Or.inl hs, f, a, h⟩
theorem st_cat {l b : Addr} {xs zs : List V} (h1 : H l = some (.lst xs)) (h2 : H b = some (.lst zs)) (n : xs.length + zs.length ≤ sizeLine) (h : ∀ p, H p = none → Q (.ref p) (upd H p (.lst (xs ++ zs)))) : rCat (.ref l) (.ref b) H Q := ⟨l, b, xs, zs, rfl, rfl, h1, h2, n, h⟩
theorem st_append {l : Addr} {xs : List V} (h1 : H l = some (.lst xs)) (n : xs.length < sizeLine) (h : Q .non (upd H l (.lst (xs ++ [y])))) : rAppend (.ref l) [y] H Q := ⟨l, xs, y, rfl, rfl, h1, n, h⟩
end
/-! ### rules that name the written part by K (a comprehension's block has the same) -/
section
variable {X : Cx} {pos : Pos}
theorem ix_listK (K : PySem.W.Frag) (hK : X.K = K := by rfl) : IxR X (rIxL K) := by subst hK; exact ix_list
theorem ix_tupK (K : PySem.W.Frag) (hK : X.K = K := by rfl) : IxR X (rIxT K) := by subst hK; exact ix_tup
theorem sl_listK (K : PySem.W.Frag) (hK : X.K = K := by rfl) : SlR X (rSlL K) := by subst hK; exact sl_list
theorem sl_tupK (K : PySem.W.Frag) (hK : X.K = K := by rfl) : SlR X (rSlA K) := by subst hK; exact sl_tupA
theorem op_inK (K : PySem.W.Frag) (hK : X.K = K := by rfl) : OpR X (compareOp .In) (rIn K false) := by subst hK; exact op_in_seq
theorem op_ninK (K : PySem.W.Frag) (hK : X.K = K := by rfl) : OpR X (compareOp .NotIn) (rIn K true) := by subst hK; exact op_notIn_seq
theorem op_eqDK (K : PySem.W.Frag) (hu : X.A.units + 64 < cLine) (hK : X.K = K := by rfl) : OpR X (compareOp .Eq) (rEqD K) := by subst hK; exact op_eqD hu
theorem op_neDK (K : PySem.W.Frag) (hu : X.A.units + 64 < cLine) (hK : X.K = K := by rfl) : OpR X (compareOp .NotEq) (rNeD K) := by subst hK; exact op_neD hu
theorem op_catK (K : PySem.W.Frag) (hK : X.K = K := by rfl) : OpR X (binaryOp .Add) (rCatA K) := by subst hK; exact op_catA
theorem kBM (K : PySem.W.Frag) {e : Expr} {T : String} {r : V → List V → Hp → VK → Prop} {to : TE} {t : TA} (h : PE X e (tBM X.K T r to t)) (hK : X.K = K := by rfl) : PE X e (tBM K T r to t) := by subst hK; exact h
theorem kBM0 (K : PySem.W.Frag) {e : Expr} {T : String} {r : V → List V → Hp → VK → Prop} {to : TE} (h : PE X e (tBM0 X.K T r to)) (hK : X.K = K := by rfl) : PE X e (tBM0 K T r to) := by subst hK; exact h
theorem kFld (K : PySem.W.Frag) {e : Expr} {f : Str} {to : TE} (h : PE X e (tFld X.K to f)) (hK : X.K = K := by rfl) : PE X e (tFld K to f) := by subst hK; exact h
theorem kRevL (K : PySem.W.Frag) {e : Expr} {to : TE} (h : PE X e (tRevL X.K to)) (hK : X.K = K := by rfl) : PE X e (tRevL K to) := by subst hK; exact h
theorem kPI (K : PySem.W.Frag) {tg l : Expr} {to : TE} (h : PI X tg l (iList X.K to)) (hK : X.K = K := by rfl) : PI X tg l (iList K to) := by subst hK; exact h
theorem kPT (K : PySem.W.Frag) {tg l : Expr} {to : TE} (h : PI X tg l (iTup X.K to)) (hK : X.K = K := by rfl) : PI X tg l (iTup K to) := by subst hK; exact h
theorem kPEn (K : PySem.W.Frag) {tg l : Expr} {to : TA} (h : PI X tg l (iEnum X.K to)) (hK : X.K = K := by rfl) : PI X tg l (iEnum K to) := by subst hK; exact h
theorem kPZ (K : PySem.W.Frag) {tg l : Expr} {to : TA} (h : PI X tg l (iZip X.K to)) (hK : X.K = K := by rfl) : PI X tg l (iZip K to) := by subst hK; exact h
theorem kTup (K : PySem.W.Frag) (n : Nat) {tg : Expr} {t : TGs} (h : PG X tg (gTup X.K n t)) (hK : X.K = K := by rfl) : PG X tg (gTup K n t) := by subst hK; exact h
def rLenL (K : PySem.W.Frag) : List V → Hp → VK → Prop := fun xs H Q => ∃ p ys, xs = [.ref p] ∧ (SqL K H p ys ∨ SqT K H p ys) ∧ Q (.int ys.length) H
theorem call_lenK (K : PySem.W.Frag) (hK : X.K = K := by rfl) : CallR X (.builtin "len") (rLenL K) := by subst hK; exact call_len_seq
def rListL (K : PySem.W.Frag) : List V → Hp → VK → Prop := fun xs H Q => ∃ p ys, xs = [.ref p] ∧ (SqL K H p ys ∨ SqT K H p ys) ∧ ∀ l, H l = none → Q (.ref l) (upd H l (.lst ys))
theorem call_listK (K : PySem.W.Frag) (hK : X.K = K := by rfl) : CallR X (.type "list") (rListL K) := by subst hK; exact call_list_of
def rTupL (K : PySem.W.Frag) : List V → Hp → VK → Prop := fun xs H Q => ∃ p ys, xs = [.ref p] ∧ ((SqL K H p ys ∧ ∀ l, H l = none → Q (.ref l) (upd H l (.tup ys))) ∨ (SqT K H p ys ∧ Q (.ref p) H))
theorem call_tupK (K : PySem.W.Frag) (hK : X.K = K := by rfl) : CallR X (.type "tuple") (rTupL K) := by subst hK; exact call_tuple_of
def rJoin (K : PySem.W.Frag) : V → List V → Hp → VK → Prop := fun x xs H Q => ∃ a p, ∃ ys : List Str, x = .str a ∧ xs = [.ref p] ∧ (SqL K H p (ys.map V.str) ∨ SqT K H p (ys.map V.str)) ∧ (ys.map (·.length)).sum + ys.length * a.length ≤ 16777216 ∧ Q (.str (Txt.join a ys)) H
theorem pe_joinK (K : PySem.W.Frag) {o e : Expr} {to te : TE} {apos : Pos} (ho : PE X o to) (he : PE X e te) (hs : starEach [e] X.env = [(false, eval e X.env)] := by rfl)
    (hbase : attributeBase o "join" X.env (eval o X.env) = eval o X.env := by rfl) (hline : (apos.endLine == pos.line) = true := by rfl) (hK : X.K = K := by rfl) :
    PE X (.Call (.Attribute o "join" apos) [e] [] pos) (tM1 (rJoin K) to te) := by
  subst hK
  exact pe_join ho he hs hbase hline
def rInt1 : List V → Hp → VK → Prop := fun xs H Q => (∃ i, xs = [.int i] ∧ Q (.int i) H) ∨ ∃ k, xs = [.bl k] ∧ Q (.int (if k then 1 else 0)) H
theorem call_intB : CallR X (.type "int") rInt1 := call_int1
end
section
variable {H : Hp} {Q : VK}
theorem st_intB {b : Bool} (h : Q (.int (if b then 1 else 0)) H) : rInt1 [.bl b] H Q := Or.inr ⟨b, rfl, h⟩
theorem st_len {K : PySem.W.Frag} {p : Addr} {ys : List V} (hs : SqL K H p ys) (h : Q (.int ys.length) H) : rLenL K [.ref p] H Q := ⟨p, ys, rfl, Or.inl hs, h⟩
theorem st_list {K : PySem.W.Frag} {p : Addr} {ys : List V} (hs : SqL K H p ys) (h : ∀ l, H l = none → Q (.ref l) (upd H l (.lst ys))) : rListL K [.ref p] H Q := ⟨p, ys, rfl, Or.inl hs, h⟩
theorem st_join {K : PySem.W.Frag} {a : Str} {p : Addr} {ys : List Str} (hs : SqL K H p (ys.map V.str)) (n : (ys.map (·.length)).sum + ys.length * a.length ≤ 16777216) (h : Q (.str (Txt.join a ys)) H) : rJoin K (.str a) [.ref p] H Q := ⟨a, p, ys, rfl, rfl, Or.inl hs, n, h⟩
end
/-! ### heaps -/
theorem old_upd {H : Hp} {p a : Addr} {o u : HO} (n : H p = none) (h : H a = some u) : upd H p o a = some u := by
  rw [upd_ne (ne_of_none h n)]
  exact h
theorem oth_upd {H : Hp} {p a : Addr} {o u : HO} (n : a ≠ p) (h : H a = some u) : upd H p o a = some u := by
  rw [upd_ne n]
  exact h
theorem nil_upd {H : Hp} {p a : Addr} {o : HO} (h : upd H p o a = none) : a ≠ p ∧ H a = none := by
  by_cases q : a = p
  · subst q
    rw [upd_same] at h
    exact nomatch h
  · rw [upd_ne q] at h
    exact ⟨q, h⟩
theorem sqL_of {K : PySem.W.Frag} {H : Hp} {a : Addr} {xs : List V} (h : H a = some (.lst xs)) : SqL K H a xs := Or.inl (Or.inl h)
theorem sqT_of {K : PySem.W.Frag} {H : Hp} {a : Addr} {xs : List V} (h : H a = some (.tup xs)) : SqT K H a xs := Or.inl (Or.inl h)
theorem NoT.lst {H : Hp} {p : Addr} {xs : List V} (h : NoT H) : NoT (L2.upd H p (.lst xs)) := h.upd trivial
theorem NoT.tup {H : Hp} {p : Addr} {xs : List V} (h : NoT H) : NoT (L2.upd H p (.tup xs)) := h.upd trivial
theorem NoT.pot {H : Hp} {p q : Addr} (h : NoT H) : NoT (L2.upd H p (PotO q)) := h.upd trivial
/-- all that H tells but what stands at ls is told by H' too -/
def Kp (ls : List Addr) (H H' : Hp) : Prop := ∀ b o, H b = some o → b ∉ ls → H' b = some o
theorem Kp.refl {ls : List Addr} (H : Hp) : Kp ls H H := fun _ _ h _ => h
theorem Kp.trans {ls : List Addr} {H H1 H2 : Hp} (a : Kp ls H H1) (b : Kp ls H1 H2) : Kp ls H H2 := fun c o h n => b c o (a c o h n) n
theorem Kp.new {ls : List Addr} {H H' : Hp} {p : Addr} {o : HO} (k : Kp ls H H') (n : H' p = none) : Kp ls H (upd H' p o) := fun b u h m => old_upd n (k b u h m)
theorem Kp.mut {ls : List Addr} {H H' : Hp} {p : Addr} {o : HO} (k : Kp ls H H') (n : p ∈ ls) : Kp ls H (upd H' p o) := fun b u h m => oth_upd (fun e => m (by rw [e]; exact n)) (k b u h m)
theorem Kp.own {ls : List Addr} {H H' : Hp} {p : Addr} {o : HO} (k : Kp ls H H') (n : H p = none) : Kp ls H (upd H' p o) := fun b u h m => oth_upd (ne_of_none h n) (k b u h m)
theorem Kp.same {H H' : Hp} (k : Kp [] H H') : Same H H' := fun b o h => k b o h (by simp)
theorem Kp.sqL {K : PySem.W.Frag} {ls : List Addr} {H H' : Hp} {a : Addr} {xs : List V} (k : Kp ls H H') (n : a ∉ ls) (h : SqL K H a xs) : SqL K H' a xs := by
  rcases h with (h | ⟨o, h⟩) | h
  · exact Or.inl (Or.inl (k _ _ h n))
  · exact Or.inl (Or.inr ⟨o, k _ _ h n⟩)
  · exact Or.inr h
theorem sqL_new {K : PySem.W.Frag} {H : Hp} {p a : Addr} {o : HO} {xs : List V} (n : H p = none) (h : SqL K H a xs) : SqL K (upd H p o) a xs := (Kp.new (ls := []) (Kp.refl H) n).sqL (by simp) h
/-! ### divmod of any number by one that is not too great -/
theorem cdivP {i j : Int} (h0 : 0 < j) (h1 : j < 2 ^ 64) : CDivP i j := by
  refine ⟨h0, PyProof.noPylong_of_log2 ?_⟩
  have hn : j.natAbs < 2 ^ 64 := by omega
  exact Nat.lt_trans (PySem.Flt.log2_lt_of (by decide) hn) (by decide)
/-! ### repr of data -/
section
variable {X : Cx}
def rReprD (K : PySem.W.Frag) : List V → Hp → VK → Prop := fun xs H Q => ∃ v d, xs = [v] ∧ Dp K H v d ∧ d.showable = true ∧ d.depth ≤ 50 ∧ d.shown.length ≤ sizeLine ∧ Q (.str d.shown) H
theorem dp_noDict {K : PySem.W.Frag} {H : Hp} : ∀ {v : V} {d : PyData}, Dp K H v d → d.hasDict = false := by
  intro v d h
  induction h using Dp.rec (motive_2 := fun _ ds _ => PyData.hasDictAll ds = false) with
  | non => simp only [PyData.hasDict]
  | bl => simp only [PyData.hasDict]
  | int => simp only [PyData.hasDict]
  | str => simp only [PyData.hasDict]
  | lst _ _ ih => simp only [PyData.hasDict, ih]
  | tup _ _ ih => simp only [PyData.hasDict, ih]
  | nil => simp only [PyData.hasDictAll]
  | cons _ _ h1 h2 => simp only [PyData.hasDictAll, h1, h2, Bool.or_self]
theorem call_reprDX (hu : X.A.units + 64 < cLine) (g : X.A.guards = some []) : CallR X (.builtin "repr") (rReprD X.K) := by
  intro pins s σ H xs us Q I r h
  obtain ⟨v, d, rfl, hd, hs, hdp, hz, q⟩ := h
  obtain ⟨u, rfl, rv⟩ : ∃ u, us = [u] ∧ RelV v u := by
    cases r with
    | cons r1 r2 => cases r2 with
      | nil => exact ⟨_, rfl, r1⟩
  obtain ⟨as, rd⟩ := Dp.reads I d v u hd rv
  cases hd with
  | non =>
    cases rv
    simp only [PyData.shown] at q
    exact PySem.P.repr_of_none ⟨.str _, H, I.tok _, ⟨_, rfl⟩, q⟩
  | bl b =>
    cases rv
    simp only [PyData.shown] at q
    refine PySem.P.repr_of_bool ⟨.str _, H, I.tok _, ⟨_, rfl⟩, ?_⟩
    cases b <;> exact q
  | int i =>
    obtain ⟨t, rfl⟩ := rv
    simp only [PyData.shown] at q
    exact PySem.P.repr_of_int (by simpa [PyData.showable] using hs) ⟨.str _, H, I.tok _, ⟨_, rfl⟩, q⟩
  | str x =>
    obtain ⟨t, rfl⟩ := rv
    simp only [PyData.shown] at q hz
    exact PySem.P.repr_of_str ⟨.str _, H, I.tok _, ⟨_, rfl⟩, q⟩ hz
  | lst hl ha =>
    cases rv
    refine repr_of_reads' rd hs (fun z => ?_) g (by omega) (fun _ _ e => e) (fun h' t tk hk => ⟨.str _, H, I.kept hk, ⟨_, rfl⟩, q⟩) hz
    rw [dp_noDict (.lst hl ha)] at z
    exact nomatch z
  | tup hl ha =>
    cases rv
    refine repr_of_reads' rd hs (fun z => ?_) g (by omega) (fun _ _ e => e) (fun h' t tk hk => ⟨.str _, H, I.kept hk, ⟨_, rfl⟩, q⟩) hz
    rw [dp_noDict (.tup hl ha)] at z
    exact nomatch z
theorem call_reprD (K : PySem.W.Frag) (hu : X.A.units + 64 < cLine) (g : X.A.guards = some []) (hK : X.K = K := by rfl) : CallR X (.builtin "repr") (rReprD K) := by
  subst hK
  exact call_reprDX hu g
end
end TB
/-! Loops and comprehensions over what has known items; names. -/
namespace TB
open PySem PySem.Spec PyProof.Rows L2
/-- the walk J yields xs, one behind another, as long as ok -/
structure Wk (J : It) (xs : List V) (ok : Hp → Prop) : Prop where
  go : ∀ i H, ok H → i < xs.length → J.go i H
  stop : ∀ i H, ok H → xs.length ≤ i → J.stop i H
  yld : ∀ i H x H', ok H → i < xs.length → J.yld i H x H' → H' = H ∧ xs[i]? = some x
theorem wk_list {K : PySem.W.Frag} {a : Addr} {xs : List V} : Wk (Itl K a) xs (fun H => SqL K H a xs) :=
  ⟨fun i H h l => ⟨xs, xs[i], h, List.getElem?_eq_getElem l⟩, fun i H h l => ⟨xs, h, l⟩, fun i H x H' h _ y => ⟨y.1, y.2 xs h⟩⟩
theorem wk_tup {K : PySem.W.Frag} {a : Addr} {xs : List V} : Wk (Itt K a) xs (fun H => SqT K H a xs) :=
  ⟨fun i H h l => ⟨xs, xs[i], h, List.getElem?_eq_getElem l⟩, fun i H h l => ⟨xs, h, l⟩, fun i H x H' h _ y => ⟨y.1, y.2 xs h⟩⟩
theorem wk_range {n : Nat} : Wk (Itr 0 n) ((List.range n).map fun i : Nat => V.int (i : Int)) (fun _ => True) := by
  refine ⟨fun i H _ l => ?_, fun i H _ l => ?_, fun i H x H' _ l y => ?_⟩
  · rw [List.length_map, List.length_range] at l
    exact l
  · rw [List.length_map, List.length_range] at l
    exact l
  · obtain ⟨e, z⟩ := y
    refine ⟨e, ?_⟩
    rw [List.length_map, List.length_range] at l
    rw [List.getElem?_map, List.getElem?_range l, z]
    show some (V.int (i : Int)) = some (V.int (0 + (i : Int)))
    rw [Int.zero_add]
def signV (c : Nat) : V := .str ⟨#[c]⟩
theorem wk_str {z : Str} : Wk (Its z) (z.cps.toList.map signV) (fun _ => True) := by
  refine ⟨fun i H _ l => ?_, fun i H _ l => ?_, fun i H x H' _ l y => ?_⟩
  · rw [List.length_map] at l
    exact l
  · rw [List.length_map] at l
    exact l
  · obtain ⟨e, c, hc, rfl⟩ := y
    refine ⟨e, ?_⟩
    rw [List.getElem?_map, Array.getElem?_toList, hc]
    rfl
/-- what a for loop over J asks -/
def ForG (J : It) (g : TG) (tb : TS) (D : Ends) (σ : L2.St) (H : Hp) : Prop := ∃ W : Nat → Nat → L2.St → Hp → Prop, (∃ m, W 0 m σ H) ∧ ∀ i m σ H, W i m σ H →
  (J.stop i H ∧ D.nx σ H) ∨ (J.go i H ∧ ∃ N : L2.St → Hp → Prop, (∀ σ' H', N σ' H' → ∃ m', m' < m ∧ W (i + 1) m' σ' H') ∧ ∀ x H', J.yld i H x H' → g x σ H' fun σ2 H2 => tb { D with nx := N, ct := N, bk := D.nx } σ2 H2)
/-- what a list comprehension over J asks -/
def LcG (J : It) (g : TG) (tt : TT) (te : TE) (vs : List Nat) (σ : L2.St) (Q : VK) (H1 : Hp) : Prop := ∀ D, H1 D = none → ∃ W : Nat → Nat → Hp → Prop, (∃ m, W 0 m (upd H1 D (.lst []))) ∧ ∀ i m H, W i m H →
  (J.stop i H ∧ Q (.ref D) H) ∨ (J.go i H ∧ ∃ Nx : Hp → Prop, (∀ H', Nx H' → ∃ m', m' < m ∧ W (i + 1) m' H') ∧ ∀ x H', J.yld i H x H' → g x (wipe σ vs) H' fun σ2 H2 => wipe σ2 vs = wipe σ vs ∧ tt σ2 H2 fun b H3 =>
    if b = true then te σ2 H3 fun y H4 => ∃ acc, H4 D = some (.lst acc) ∧ acc.length < sizeLine ∧ Nx (upd H4 D (.lst (acc ++ [y]))) else Nx H3)
section
variable {σ : L2.St} {H : Hp} {Q : VK} {wi : TI} {g : TG} {tt : TT} {te tl : TE} {ta : TA} {vs : List Nat} {tb : TS} {D : Ends} {R : It → Hp → Prop} {K : PySem.W.Frag}
theorem st_for (h : wi σ H fun J H1 => ForG J g tb D σ H1) : tFor wi g tb D σ H := h
theorem st_lc (h : wi σ H fun J H1 => LcG J g tt te vs σ Q H1) : tLc wi g tt te vs σ H Q := h
theorem st_rng1 (h : ta σ H fun vs H1 => ∃ j : Int, vs = [.int j] ∧ -(2 ^ 62) ≤ j ∧ j < 2 ^ 62 ∧ R (Itr 0 j.toNat) H1) : iRng1 ta σ H R := h
theorem st_il (h : tl σ H fun x H1 => ∃ a, x = .ref a ∧ (∃ xs, SqL K H1 a xs) ∧ R (Itl K a) H1) : iList K tl σ H R := h
theorem st_is (h : tl σ H fun v H1 => ∃ x, v = .str x ∧ R (Its x) H1) : iStr tl σ H R := h
theorem st_ie (h : ta σ H fun vs H1 => ∃ a xs, vs = [.ref a] ∧ SqL K H1 a xs ∧ R (Ite K a) H1) : iEnum K ta σ H R := h
end
section
variable {J : It} {xs : List V} {ok : Hp → Prop} {g : TG} {tb : TS} {D : Ends} {σ : L2.St} {H : Hp}
/-- a for loop, by what holds ahead of each turn -/
theorem for_walk (w : Wk J xs ok) (Pv : Nat → L2.St → Hp → Prop) (h0 : Pv 0 σ H) (hk : ∀ i σ H, Pv i σ H → ok H)
    (hs : ∀ i x σ H, xs[i]? = some x → Pv i σ H → g x σ H fun σ2 H2 => tb { D with nx := Pv (i + 1), ct := Pv (i + 1), bk := D.nx } σ2 H2) (hd : ∀ σ H, Pv xs.length σ H → D.nx σ H) : ForG J g tb D σ H := by
  refine ⟨fun i m σ H => m = xs.length - i ∧ i ≤ xs.length ∧ Pv i σ H, ⟨xs.length, by simp, Nat.zero_le _, h0⟩, ?_⟩
  rintro i m σ H ⟨rfl, hi, p⟩
  by_cases lt : i < xs.length
  · refine Or.inr ⟨w.go i H (hk i σ H p) lt, Pv (i + 1), fun σ' H' p' => ⟨xs.length - (i + 1), by omega, rfl, lt, p'⟩, fun x H' y => ?_⟩
    obtain ⟨rfl, e⟩ := w.yld i H x H' (hk i σ H p) lt y
    exact hs i x σ _ e p
  · obtain rfl : i = xs.length := by omega
    exact Or.inl ⟨w.stop _ H (hk _ σ H p) (Nat.le_refl _), hd σ H p⟩
end
section
variable {J : It} {xs : List V} {ok : Hp → Prop} {g : TG} {tt : TT} {te : TE} {vs : List Nat} {σ : L2.St} {H1 : Hp} {Q : VK}
/-- a list comprehension: acc is what stands in the new list at D -/
theorem lc_walk (w : Wk J xs ok) (Pv : Addr → Nat → List V → Hp → Prop) (h0 : ∀ D, H1 D = none → Pv D 0 [] (upd H1 D (.lst []))) (hk : ∀ D i acc H, Pv D i acc H → ok H)
    (hs : ∀ D i x acc H, H1 D = none → xs[i]? = some x → Pv D i acc H → g x (wipe σ vs) H fun σ2 H2 => wipe σ2 vs = wipe σ vs ∧ tt σ2 H2 fun b H3 =>
      if b = true then te σ2 H3 fun y H4 => ∃ acc', H4 D = some (.lst acc') ∧ acc'.length < sizeLine ∧ ∃ a2, Pv D (i + 1) a2 (upd H4 D (.lst (acc' ++ [y]))) else ∃ a2, Pv D (i + 1) a2 H3)
    (hd : ∀ D acc H, H1 D = none → Pv D xs.length acc H → Q (.ref D) H) : LcG J g tt te vs σ Q H1 := by
  intro D nD
  refine ⟨fun i m H => m = xs.length - i ∧ i ≤ xs.length ∧ ∃ acc, Pv D i acc H, ⟨xs.length, by simp, Nat.zero_le _, [], h0 D nD⟩, ?_⟩
  rintro i m H ⟨rfl, hi, acc, p⟩
  by_cases lt : i < xs.length
  · refine Or.inr ⟨w.go i H (hk D i acc H p) lt, fun H' => ∃ acc, Pv D (i + 1) acc H', fun H' p' => ⟨xs.length - (i + 1), by omega, rfl, lt, p'⟩, fun x H' y => ?_⟩
    obtain ⟨rfl, e⟩ := w.yld i H x H' (hk D i acc H p) lt y
    exact hs D i x acc _ nD e p
  · obtain rfl : i = xs.length := by omega
    exact Or.inl ⟨w.stop _ H (hk D _ acc H p) (Nat.le_refl _), hd D acc H nD p⟩
end
section
variable {K : PySem.W.Frag} {a : Addr} {xs : List V} {i1 i2 : Nat} {tb : TS} {D : Ends} {σ : L2.St} {H : Hp}
/-- for i, x in enumerate(xs) -/
theorem for_enum (Pv : Nat → L2.St → Hp → Prop) (h0 : Pv 0 σ H) (hk : ∀ i σ H, Pv i σ H → SqL K H a xs)
    (hs : ∀ (i : Nat) x σ H T, xs[i]? = some x → Pv i σ H → H T = none → tb { D with nx := Pv (i + 1), ct := Pv (i + 1), bk := D.nx } ((σ.set i1 (some (.int (i : Int)))).set i2 (some x)) (upd H T (.tup [.int (i : Int), x])))
    (hd : ∀ σ H, Pv xs.length σ H → D.nx σ H) : ForG (Ite K a) (gTup K 2 (gCons (gName i1) (gCons (gName i2) gNil))) tb D σ H := by
  refine ⟨fun i m σ H => m = xs.length - i ∧ i ≤ xs.length ∧ Pv i σ H, ⟨xs.length, by simp, Nat.zero_le _, h0⟩, ?_⟩
  rintro i m σ H ⟨rfl, hi, p⟩
  have sq := hk i σ H p
  by_cases lt : i < xs.length
  · refine Or.inr ⟨⟨xs, xs[i], sq, List.getElem?_eq_getElem lt⟩, Pv (i + 1), fun σ' H' p' => ⟨xs.length - (i + 1), by omega, rfl, lt, p'⟩, fun v H' y => ?_⟩
    obtain ⟨T, x, rfl, nT, rfl, e⟩ := y
    exact ⟨T, _, rfl, sqT_of upd_same, rfl, _, _, rfl, _, _, rfl, rfl, hs i x σ H T (e xs sq) p nT⟩
  · obtain rfl : i = xs.length := by omega
    exact Or.inl ⟨⟨xs, sq, Nat.le_refl _⟩, hd σ H p⟩
end
/-- a tracked thing changed, nothing new told -/
theorem Fg.mut1 {H H' : Hp} {p : Addr} {o u : HO} (k : Kp [p] H H') (n : NoT H) (e : H p = some u) (e' : H' p = some o) (no : noT o) (lo : ∀ H, leans H p o) (nu : ∀ y, u ≠ .own y) : Fg H H' (upd H p o) := by
  have lk : ∀ (a : Addr) (v : HO), leans H a v → leans (upd H p o) a v := by
    intro a v
    induction v with
    | ins C dx fs =>
      intro l
      have l2 : H dx = some (.own a) := l
      exact oth_upd (fun z => nu a (by rw [z, e] at l2; exact Option.some.inj l2)) l2
    | frz ob v ih => exact fun l => ih l
    | _ => exact fun _ => trivial
  refine ⟨fun b v q => ?_, fun b v v' q q' => ?_, fun a v q z => ?_, fun a v q l v' q' => ?_, n.upd no⟩
  · by_cases hb : b = p
    · subst hb
      rw [upd_same] at q
      cases q
      exact e'
    · rw [upd_ne hb] at q
      exact k b v q (by simpa using hb)
  · by_cases hb : b = p
    · subst hb
      rw [upd_same, ← q']
      exact e'.symm
    · rw [upd_ne hb, ← q', k b v q (by simpa using hb)]
      exact q
  · by_cases hb : a = p
    · rw [hb, e] at z
      exact nomatch z
    · rw [upd_ne hb, z] at q
      exact nomatch q
  · by_cases hb : a = p
    · subst hb
      rw [upd_same] at q'
      cases q'
      exact lo _
    · rw [upd_ne hb, q] at q'
      cases q'
      exact lk a v l
/-! ### names -/
abbrev tl (z : Str) : List Nat := z.cps.toList
theorem str_ext {a b : Str} (h : tl a = tl b) : a = b := by
  obtain ⟨⟨x⟩⟩ := a
  obtain ⟨⟨y⟩⟩ := b
  have e : x = y := h
  rw [e]
theorem erase_perm {α : Type} : ∀ {l : List α} {j : Nat} (h : j < l.length), ([l[j]] ++ l.eraseIdx j).Perm l
  | a :: r, 0, _ => List.Perm.refl _
  | a :: r, j + 1, h => by
    have ih := erase_perm (l := r) (j := j) (Nat.lt_of_succ_lt_succ h)
    have hj : j < r.length := Nat.lt_of_succ_lt_succ h
    show (r[j]'hj :: (a :: r.eraseIdx j)).Perm (a :: r)
    exact (List.Perm.swap a (r[j]'hj) _).trans (List.Perm.cons a ih)
theorem erase_map {α β : Type} (f : α → β) : ∀ (l : List α) (j : Nat), (l.map f).eraseIdx j = (l.eraseIdx j).map f
  | [], _ => rfl
  | _ :: _, 0 => rfl
  | a :: r, j + 1 => by
    show f a :: (r.map f).eraseIdx j = f a :: (r.eraseIdx j).map f
    rw [erase_map f r j]
/-- one to eight small letters -/
def Nm (z : Str) : Prop := 1 ≤ (tl z).length ∧ (tl z).length ≤ 8 ∧ ∀ c ∈ tl z, 97 ≤ c ∧ c ≤ 122
def nmB (z : Str) : Bool := decide (1 ≤ (tl z).length) && (decide ((tl z).length ≤ 8) && (tl z).all fun c => decide (97 ≤ c) && decide (c ≤ 122))
theorem nm_of {z : Str} (h : nmB z = true) : Nm z := by
  unfold nmB at h
  simp only [Bool.and_eq_true, decide_eq_true_eq, List.all_eq_true] at h
  exact ⟨h.1, h.2.1, h.2.2⟩
theorem beq_str (a b : Str) : (a == b) = decide (a = b) := by
  cases h : (a == b) with
  | true => exact (decide_eq_true (eq_of_beq h)).symm
  | false => exact (decide_eq_false (fun e => by rw [e] at h; exact Bool.false_ne_true (h.symm.trans (beq_self_eq_true b)))).symm
theorem inV_strs (z : Str) (ws : List Str) : inV (.str z) (ws.map V.str) = decide (z ∈ ws) := by
  unfold inV
  induction ws with
  | nil => simp
  | cons a r ih =>
    rw [List.map_cons, List.any_cons, ih]
    show ((a == z) || decide (z ∈ r)) = decide (z ∈ a :: r)
    rw [beq_str]
    by_cases e : a = z
    · subst e
      simp
    · have e2 : ¬ z = a := fun q => e q.symm
      simp [e, e2]
theorem flat_strs (ws : List Str) : (ws.map V.str).all flatV = true := by
  rw [List.all_eq_true]
  intro v hv
  obtain ⟨z, _, rfl⟩ := List.mem_map.mp hv
  rfl
/-- an item of a short list at a drawn place -/
theorem at_some {xs : List V} {d : Int} (h0 : 0 ≤ d) (h1 : d < (xs.length : Int)) : ∃ v, v ∈ xs ∧ atI xs d = some v := by
  obtain ⟨j, rfl⟩ : ∃ j : Nat, d = (j : Int) := ⟨d.toNat, by omega⟩
  have hj : j < xs.length := by omega
  exact ⟨xs[j], List.getElem_mem hj, atI_nat (List.getElem?_eq_getElem hj)⟩
theorem at_some' {α : Type} {xs : List α} {d : Int} (h0 : 0 ≤ d) (h1 : d < (xs.length : Int)) : ∃ (j : Nat) (hj : j < xs.length), d = (j : Int) ∧ atI xs d = some xs[j] := by
  obtain ⟨j, rfl⟩ : ∃ j : Nat, d = (j : Int) := ⟨d.toNat, by omega⟩
  have hj : j < xs.length := by omega
  exact ⟨j, hj, rfl, atI_nat (List.getElem?_eq_getElem hj)⟩
theorem joinL_signs : ∀ cs : List Nat, TL.joinL [] (cs.map fun c => [c]) = cs
  | [] => rfl
  | [c] => rfl
  | c :: d :: r => by
    have ih := joinL_signs (d :: r)
    show [c] ++ [] ++ TL.joinL [] ((d :: r).map fun c => [c]) = c :: d :: r
    rw [ih]
    rfl
theorem join_signs (cs : List Nat) : Txt.join "" (cs.map fun c => (⟨#[c]⟩ : Str)) = ⟨cs.toArray⟩ := by
  have e := SX.join_S [] (cs.map fun c => [c])
  rw [joinL_signs, List.map_map] at e
  exact e
theorem signs_fit {cs : List Nat} (h : cs.length ≤ 1000) : ((cs.map fun c => (⟨#[c]⟩ : Str)).map (·.length)).sum + (cs.map fun c => (⟨#[c]⟩ : Str)).length * ("" : Str).length ≤ 16777216 := by
  have e : ∀ l : List Nat, ((l.map fun c => (⟨#[c]⟩ : Str)).map (·.length)).sum = l.length := by
    intro l
    induction l with
    | nil => rfl
    | cons a r ih =>
      rw [List.map_cons, List.map_cons, List.sum_cons, ih, List.length_cons]
      show 1 + r.length = r.length + 1
      omega
  have z : ("" : Str).length = 0 := rfl
  rw [e, z]
  omega
theorem nodup_le {α : Type} [DecidableEq α] : ∀ {l m : List α}, l.Nodup → (∀ x ∈ l, x ∈ m) → l.length ≤ m.length
  | [], _, _, _ => Nat.zero_le _
  | x :: l, m, h, s => by
    obtain ⟨h1, h2⟩ := List.nodup_cons.mp h
    have hx : x ∈ m := s x (List.mem_cons_self ..)
    have ih := nodup_le (l := l) (m := m.erase x) h2 fun y hy => (List.mem_erase_of_ne (fun e => h1 (by rw [← e]; exact hy))).mpr (s y (List.mem_cons_of_mem _ hy))
    rw [List.length_erase_of_mem hx] at ih
    have : 0 < m.length := List.length_pos_of_mem hx
    rw [List.length_cons]
    omega
def abc : List Nat := tl "abcdefghijklmnopqrstuvwxyz"
/-- fewer than twenty-six names leave a letter -/
theorem free_letter {ws : List Str} (h : ws.length < 26) : ∃ c r, abc.filter (fun c => !decide ((⟨#[c]⟩ : Str) ∈ ws)) = c :: r ∧ c ∈ abc ∧ (⟨#[c]⟩ : Str) ∉ ws := by
  cases e : abc.filter (fun c => !decide ((⟨#[c]⟩ : Str) ∈ ws)) with
  | cons c r =>
    have hc : c ∈ abc.filter (fun c => !decide ((⟨#[c]⟩ : Str) ∈ ws)) := by
      rw [e]
      exact List.mem_cons_self ..
    obtain ⟨h1, h2⟩ := List.mem_filter.mp hc
    refine ⟨c, r, rfl, h1, ?_⟩
    simpa using h2
  | nil =>
    have all : ∀ x ∈ abc.map (fun c => (⟨#[c]⟩ : Str)), x ∈ ws := by
      intro x hx
      obtain ⟨c, hc, rfl⟩ := List.mem_map.mp hx
      have := List.filter_eq_nil_iff.mp e c hc
      simpa using this
    have nd : (abc.map (fun c => (⟨#[c]⟩ : Str))).Nodup := by decide +kernel
    have := nodup_le nd all
    have l26 : (abc.map (fun c => (⟨#[c]⟩ : Str))).length = 26 := by decide +kernel
    omega
theorem abc_nm {c : Nat} (h : c ∈ abc) : Nm ⟨#[c]⟩ := by
  have all : ∀ c ∈ abc, 97 ≤ c ∧ c ≤ 122 := by decide +kernel
  refine ⟨by show 1 ≤ 1; decide, by show 1 ≤ 8; decide, fun d hd => ?_⟩
  have e : d = c := by simpa [tl] using hd
  subst e
  exact all d h
end TB
/-! A text from its end. -/
namespace TB
open PySem PySem.Spec PyProof.Rows L2
def revS (z : Str) : Str := ⟨z.cps.toList.reverse.toArray⟩
theorem revS_eq (z : Str) (u : Tok) : Txt.sliceBy z none none (-1, u) = revS z := by
  refine str_ext ?_
  show (Txt.sliceBy z none none (-1, u)).cps.toList = z.cps.toList.reverse.toArray.toList
  rw [step_rev_list, List.toList_toArray]
  apply List.ext_getElem?
  intro i
  rw [List.getElem?_map]
  by_cases h : i < z.length
  · have h2 : i < z.cps.toList.length := by
      rw [Array.length_toList]
      exact h
    rw [List.getElem?_range h, List.getElem?_reverse h2, Array.getElem?_toList]
    have h3 : z.length - 1 - i < z.cps.size := by
      have : z.length = z.cps.size := rfl
      omega
    rw [Array.length_toList, show z.cps.size - 1 - i = z.length - 1 - i from rfl, Array.getElem?_eq_getElem h3]
    show some (z.cps.getD (z.length - 1 - i) 0) = _
    rw [Array.getD, dif_pos h3]
    rfl
  · have l1 : (List.range z.length).length ≤ i := by
      rw [List.length_range]
      omega
    have l2 : z.cps.toList.reverse.length ≤ i := by
      rw [List.length_reverse, Array.length_toList]
      have : z.length = z.cps.size := rfl
      omega
    rw [List.getElem?_eq_none l1, List.getElem?_eq_none l2]
    rfl
theorem cut_to (xs : List V) (i : Nat) : cutV xs none (some (i : Int)) = xs.take i := by
  unfold cutV
  rw [HT.sIx_none, HT.sIx_nat, List.drop_zero, Nat.sub_zero]
  rcases Nat.le_total i xs.length with h | h
  · rw [Nat.min_eq_left h]
  · rw [Nat.min_eq_right h, List.take_length, List.take_of_length_le h]
theorem cut_from (xs : List V) (i : Nat) : cutV xs (some (i : Int)) none = xs.drop i := by
  unfold cutV
  rw [HT.sIx_none, HT.sIx_nat]
  rcases Nat.le_total i xs.length with h | h
  · rw [Nat.min_eq_left h, List.take_of_length_le (by rw [List.length_drop]; exact Nat.le_refl _)]
  · rw [Nat.min_eq_right h, Nat.sub_self, List.take_zero, List.drop_of_length_le h]
section
variable {X : Cx}
def tRevS (te : TE) : TE := fun σ H Q => te σ H fun x H1 => ∃ z, x = .str z ∧ z.length ≤ sizeLine ∧ Q (.str (revS z)) H1
theorem pe_revS {e : Expr} {te : TE} {k : Nat} {p1 p2 p3 pos : Pos} (he : PE X e te) : PE X (.Subscript e (.Slice none none (some (.UnaryOp .USub (.Constant (.int 1) k p1) p2)) p3) pos) (tRevS te) := by
  constructor
  intro pins s σ H Q I h
  refine Subscript_ (thn (he.run pins s σ H _ I h) ?_)
  rintro v s1 ⟨x, H1, I1, r1, z, rfl, hz, q⟩
  obtain ⟨t, rfl⟩ := r1
  have hst : PO X (some (.UnaryOp .USub (.Constant (.int 1) k p1) p2)) (tPart (tUn (rU fun i => .int (-i)) (tC (.int 1)))) := po_some (pe_un un_neg pe_int)
  refine wpAny_Slice (thn (po_none.run pins s1 σ H1 (fun o H2 => o = none ∧ H2 = H1) I1 ⟨rfl, rfl⟩) ?_)
  rintro vl s2 ⟨l, H2, I2, pl, rfl, rfl⟩
  refine thn (po_none.run pins s2 σ H2 (fun o H3 => o = none ∧ H3 = H2) I2 ⟨rfl, rfl⟩) ?_
  rintro vu s3 ⟨u, H3, I3, pu, rfl, rfl⟩
  refine thn (hst.run pins s3 σ H3 (fun o H4 => o = some (-1) ∧ H4 = H3) I3 ⟨1, rfl, -1, rfl, rfl, rfl⟩) ?_
  rintro vs s4 ⟨o, H4, I4, ps, rfl, rfl⟩
  cases pl
  cases pu
  cases ps with
  | int _ tk =>
    refine tail_any (ops := [.str z t, .ref s4.heap.objs.size]) (typeIs_str _ z t) F.slot_str_getitem.lookup ?_ (by with_unfolding_all rfl)
    refine wpAny_getItem_str_slice (l := none) (u := none) (st := some (-1, tk)) ⟨_, Heap.get?_push_size _ rfl, rfl, rfl⟩ rfl ?_
    have I5 := I4.kept (t' := s4.toks) (h' := s4.heap.push { cls := .type "slice", data := .fields #[Value.none, Value.none, .int (-1) tk] }) (fun b ob q => Heap.get?_push_of_some _ q)
    have hn : ¬ (((((some (((-1 : Int), tk))).map (·.1)).getD 1 == 1 && (slicePicked z none none (some (-1, tk))).length == z.length)) = true) := by
      intro c
      have : ((-1 : Int) == 1) = true := (Bool.and_eq_true_iff.mp c).1
      exact nomatch this
    have ev : revS z = ⟨((slicePicked z none none (some (-1, tk))).filterMap (z.cps[·]?)).toArray⟩ := by
      rw [← revS_eq z tk]
      unfold Txt.sliceBy
      rw [if_neg hn]
    unfold sliceMade
    rw [if_neg hn]
    rw [ev] at q
    refine ⟨?_, .str _, H4, I5.tok _, ⟨_, rfl⟩, q⟩
    rw [← ev]
    show (z.cps.toList.reverse.toArray).size ≤ sizeLine
    rw [List.size_toArray, List.length_reverse, Array.length_toList]
    exact hz
end
theorem st_revS {σ : L2.St} {H : Hp} {Q : VK} {te : TE} (h : te σ H fun x H1 => ∃ z, x = .str z ∧ z.length ≤ sizeLine ∧ Q (.str (revS z)) H1) : tRevS te σ H Q := h
theorem st_revL {K : PySem.W.Frag} {σ : L2.St} {H : Hp} {Q : VK} {te : TE} (h : te σ H fun x H1 => ∃ a xs, x = .ref a ∧ SqL K H1 a xs ∧ ∀ p, H1 p = none → Q (.ref p) (upd H1 p (.lst xs.reverse))) : tRevL K te σ H Q := h
end TB
/-! Data that repr shows: lists of texts, of numbers, of such lists; how long their texts are. -/
namespace TB
open PySem PySem.Spec PyProof.Rows L2
def dStrs (ws : List Str) : PyData := .list (ws.map .str)
def dInts (ns : List Int) : PyData := .list (ns.map .int)
def dStrss (wss : List (List Str)) : PyData := .list (wss.map dStrs)
section
variable {K : PySem.W.Frag} {H H' : Hp}
theorem dpAll_strs : ∀ ws : List Str, DpAll K H (ws.map V.str) (ws.map .str)
  | [] => .nil
  | w :: r => .cons (.str w) (dpAll_strs r)
theorem dp_strs {a : Addr} {ws : List Str} (h : SqL K H a (ws.map V.str)) : Dp K H (.ref a) (dStrs ws) := .lst h (dpAll_strs ws)
theorem dpAll_ints : ∀ ns : List Int, DpAll K H (ns.map V.int) (ns.map .int)
  | [] => .nil
  | n :: r => .cons (.int n) (dpAll_ints r)
theorem dp_ints {a : Addr} {ns : List Int} (h : SqL K H a (ns.map V.int)) : Dp K H (.ref a) (dInts ns) := .lst h (dpAll_ints ns)
/-- a list of texts stands at v, to be changed -/
def LL (H : Hp) (v : V) (ws : List Str) : Prop := ∃ a, v = .ref a ∧ H a = some (.lst (ws.map V.str))
theorem LL.kp {v : V} {ws : List Str} (h : LL H v ws) (k : Kp [] H H') : LL H' v ws := by
  obtain ⟨a, e, h⟩ := h
  exact ⟨a, e, k.same _ _ h⟩
theorem LL.all (k : Kp [] H H') : ∀ {vs : List V} {wss : List (List Str)}, Paired (LL H) vs wss → Paired (LL H') vs wss
  | _, _, .nil => .nil
  | _, _, .cons h t => .cons (h.kp k) (LL.all k t)
/-- .. where another thing is changed -/
theorem LL.over {D : Addr} {o : HO} (k : Kp [] H H') : ∀ {vs : List V} {wss : List (List Str)}, Paired (LL H) vs wss → (∀ u ∈ vs, u ≠ .ref D) → Paired (LL (upd H' D o)) vs wss
  | _, _, .nil, _ => .nil
  | _, _, .cons h t, n => .cons (by
      obtain ⟨a, rfl, h⟩ := h
      exact ⟨a, rfl, oth_upd (fun e => n _ (List.mem_cons_self ..) (by rw [e])) (k.same _ _ h)⟩) (LL.over k t fun u hu => n u (List.mem_cons_of_mem _ hu))
theorem LL.ne {D : Addr} (nD : H D = none) : ∀ {vs : List V} {wss : List (List Str)}, Paired (LL H) vs wss → ∀ u ∈ vs, u ≠ .ref D
  | _, _, .nil, _, hu, _ => by simp at hu
  | _, _, .cons h t, u, hu, e => by
    rcases List.mem_cons.mp hu with q | q
    · obtain ⟨a, rfl, h⟩ := h
      rw [q] at e
      cases e
      rw [nD] at h
      exact nomatch h
    · exact LL.ne nD t u q e
theorem dpAll_strss : ∀ {vs : List V} {wss : List (List Str)}, Paired (LL H) vs wss → DpAll K H vs (wss.map dStrs)
  | _, _, .nil => .nil
  | _, _, .cons h t => .cons (by obtain ⟨a, rfl, h⟩ := h; exact dp_strs (sqL_of h)) (dpAll_strss t)
theorem dp_strss {a : Addr} {vs : List V} {wss : List (List Str)} (h : SqL K H a vs) (p : Paired (LL H) vs wss) : Dp K H (.ref a) (dStrss wss) := .lst h (dpAll_strss p)
end
theorem paired_len {α β : Type} {R : α → β → Prop} : ∀ {xs : List α} {ys : List β}, Paired R xs ys → xs.length = ys.length
  | _, _, .nil => rfl
  | _, _, .cons _ t => congrArg (· + 1) (paired_len t)
theorem paired_app {α β : Type} {R : α → β → Prop} : ∀ {xs xs' : List α} {ys ys' : List β}, Paired R xs ys → Paired R xs' ys' → Paired R (xs ++ xs') (ys ++ ys')
  | _, _, _, _, .nil, s => s
  | _, _, _, _, .cons r t, s => .cons r (paired_app t s)
/-! ### what repr asks -/
theorem showAll_map {α : Type} {f : α → PyData} : ∀ {l : List α}, (∀ x ∈ l, (f x).showable = true) → PyData.showableAll (l.map f) = true
  | [], _ => by simp only [List.map_nil, PyData.showableAll]
  | a :: r, h => by
    simp only [List.map_cons, PyData.showableAll]
    rw [h a (List.mem_cons_self ..), showAll_map fun x hx => h x (List.mem_cons_of_mem _ hx)]
    rfl
theorem depthAll_map {α : Type} {f : α → PyData} {n : Nat} : ∀ {l : List α}, (∀ x ∈ l, (f x).depth ≤ n) → PyData.depthAll (l.map f) ≤ n
  | [], _ => by simp only [List.map_nil, PyData.depthAll]; exact Nat.zero_le _
  | a :: r, h => by
    simp only [List.map_cons, PyData.depthAll]
    exact Nat.max_le.mpr ⟨h a (List.mem_cons_self ..), depthAll_map fun x hx => h x (List.mem_cons_of_mem _ hx)⟩
theorem shownAll_map {α : Type} {f : α → PyData} : ∀ l : List α, PyData.shownAll (l.map f) = l.map fun x => (f x).shown
  | [] => by simp only [List.map_nil, PyData.shownAll]
  | a :: r => by simp only [List.map_cons, PyData.shownAll, shownAll_map r]
theorem sum_le {α : Type} {g : α → Nat} {B : Nat} : ∀ {l : List α}, (∀ x ∈ l, g x ≤ B) → (l.map g).sum ≤ l.length * B
  | [], _ => by simp
  | a :: r, h => by
    rw [List.map_cons, List.sum_cons, List.length_cons, Nat.succ_mul]
    have h1 := h a (List.mem_cons_self ..)
    have h2 := sum_le (l := r) fun x hx => h x (List.mem_cons_of_mem _ hx)
    omega
theorem shown_list_le {α : Type} {f : α → PyData} {B : Nat} {l : List α} (h : ∀ x ∈ l, (f x).shown.length ≤ B) : (PyData.list (l.map f)).shown.length ≤ l.length * B + 2 * l.length + 3 := by
  have e : (PyData.list (l.map f)).shown = listText (l.map fun x => (f x).shown) := by
    simp only [PyData.shown]
    rw [shownAll_map]
  rw [e]
  have h1 := listText_len_le (l.map fun x => (f x).shown)
  rw [List.map_map, List.length_map] at h1
  have h2 : (l.map ((fun x : Str => x.length) ∘ fun x => (f x).shown)).sum ≤ l.length * B := sum_le fun x hx => h x hx
  omega
theorem shown_nm {z : Str} (h : Nm z) : (PyData.str z).shown.length ≤ 82 := by
  simp only [PyData.shown]
  have e := StrLaws.reprText_len z fun c hc => by
    have := (h.2.2 c hc).2
    exact Nat.lt_of_le_of_lt this (by decide)
  have h8 : z.length ≤ 8 := by
    have := h.2.1
    rw [Array.length_toList] at this
    exact this
  omega
theorem shown_int_le {i : Int} (h : i.natAbs < 10 ^ 12) : (PyData.int i).shown.length ≤ 13 := PyData.shown_int_le h
/-! lists of names -/
theorem strs_show (ws : List Str) : (dStrs ws).showable = true := by
  simp only [dStrs, PyData.showable]
  exact showAll_map fun x _ => by simp only [PyData.showable]
theorem strs_depth (ws : List Str) : (dStrs ws).depth ≤ 1 := by
  simp only [dStrs, PyData.depth]
  have := depthAll_map (f := PyData.str) (n := 0) (l := ws) fun x _ => by simp only [PyData.depth]; exact Nat.le_refl _
  omega
theorem strs_len {ws : List Str} (h : ∀ z ∈ ws, Nm z) : (dStrs ws).shown.length ≤ ws.length * 84 + 3 := by
  have := shown_list_le (f := PyData.str) (B := 82) (l := ws) fun x hx => shown_nm (h x hx)
  unfold dStrs
  omega
theorem strss_show (wss : List (List Str)) : (dStrss wss).showable = true := by
  simp only [dStrss, PyData.showable]
  exact showAll_map fun x _ => strs_show x
theorem strss_depth (wss : List (List Str)) : (dStrss wss).depth ≤ 2 := by
  simp only [dStrss, PyData.depth]
  have := depthAll_map (f := dStrs) (n := 1) (l := wss) fun x _ => strs_depth x
  omega
theorem strss_len {wss : List (List Str)} {n : Nat} (h : ∀ ws ∈ wss, ws.length ≤ n ∧ ∀ z ∈ ws, Nm z) : (dStrss wss).shown.length ≤ wss.length * (n * 84 + 5) + 3 := by
  have := shown_list_le (f := dStrs) (B := n * 84 + 3) (l := wss) fun x hx => by
    have h1 := strs_len (h x hx).2
    have h2 : x.length * 84 ≤ n * 84 := Nat.mul_le_mul_right _ (h x hx).1
    omega
  unfold dStrss
  have e : wss.length * (n * 84 + 5) = wss.length * (n * 84 + 3) + 2 * wss.length := by
    rw [show n * 84 + 5 = (n * 84 + 3) + 2 from rfl, Nat.mul_add]
    omega
  omega
theorem ints_show {ns : List Int} (h : ∀ n ∈ ns, n.natAbs < 10 ^ 12) : (dInts ns).showable = true := by
  simp only [dInts, PyData.showable]
  refine showAll_map fun x hx => ?_
  simp only [PyData.showable, decide_eq_true_eq]
  exact Nat.lt_trans (PySem.Flt.log2_lt_of (k := 40) (by decide) (Nat.lt_trans (h x hx) (by decide))) (by decide)
theorem ints_depth (ns : List Int) : (dInts ns).depth ≤ 1 := by
  simp only [dInts, PyData.depth]
  have := depthAll_map (f := PyData.int) (n := 0) (l := ns) fun x _ => by simp only [PyData.depth]; exact Nat.le_refl _
  omega
theorem ints_len {ns : List Int} (h : ∀ n ∈ ns, n.natAbs < 10 ^ 12) : (dInts ns).shown.length ≤ ns.length * 15 + 3 := by
  have := shown_list_le (f := PyData.int) (B := 13) (l := ns) fun x hx => shown_int_le (h x hx)
  unfold dInts
  omega
theorem st_repr {K : PySem.W.Frag} {H : Hp} {Q : VK} {v : V} {d : PyData} (hd : Dp K H v d) (hs : d.showable = true) (hp : d.depth ≤ 50) (hl : d.shown.length ≤ sizeLine) (h : Q (.str d.shown) H) : rReprD K [v] H Q := ⟨v, d, rfl, hd, hs, hp, hl, h⟩
end TB
open TB in
local macro_rules | `(tactic| walk_at "s") => `(tactic| first
  | with_reducible refine st_seq ?_
  | with_reducible refine st_asg ?_
  | with_reducible refine st_name ?_
  | ((with_reducible refine st_var (v := ?v) ?e ?_); (case e => exact rfl))
  | with_reducible refine st_c ?_
  | with_reducible refine st_op ?_
  | with_reducible refine st_cons ?_
  | with_reducible refine st_nil ?_
  | with_reducible refine st_cb ?_
  | with_reducible refine st_call ?_
  | with_reducible refine st_I0 ?_
  | with_reducible refine st_test ?_
  | with_reducible refine st_bl ?_
  | with_reducible refine st_ifs ?_
  | with_reducible refine st_if ?_
  | with_reducible refine st_ret ?_
  | with_reducible refine st_drop ?_
  | with_reducible refine st_next ?_
  | with_reducible refine st_lst ?_
  | with_reducible refine st_tup ?_
  | ((with_reducible refine st_eq ?e ?_); (case e => exact rfl))
  | ((with_reducible refine st_ne ?e ?_); (case e => exact rfl))
  | with_reducible refine st_not ?_
  | with_reducible refine st_and ?_
  | with_reducible refine st_or ?_
  | with_reducible refine st_tb ?_
  | with_reducible refine st_yes ?_
  | with_reducible refine st_un ?_
  | with_reducible refine st_sl ?_
  | with_reducible refine st_nopart ?_
  | with_reducible refine st_part ?_
  | with_reducible refine st_gcons ?_
  | with_reducible refine st_gnil ?_
  | with_reducible refine st_gsub ?_
  | with_reducible refine st_bm ?_
  | with_reducible refine st_m1 ?_
  | with_reducible refine st_intB ?_
  | with_reducible refine st_for ?_
  | with_reducible refine st_lc ?_
  | with_reducible refine st_rng1 ?_
  | with_reducible refine st_il ?_
  | with_reducible refine st_is ?_
  | with_reducible refine st_ie ?_
  | with_reducible refine st_par ?_
  | ((with_reducible show ∃ i, L2.V.int _ = L2.V.int i ∧ _); refine ⟨_, rfl, ?_⟩)
  | ((with_reducible show (∃ a, L2.V.str _ = L2.V.str a) ∧ _); refine ⟨⟨_, rfl⟩, ?_⟩)
  | ((with_reducible show ∃ v w, [_, _] = [v, w] ∧ _); refine ⟨_, _, rfl, ?_⟩)
  | with_reducible refine st_revS ?_
  | with_reducible refine st_revL ?_)
local macro_rules | `(tactic| walk_at "ss") => `(tactic| repeat walk_at "s")
namespace K44
open PySem PySem.Spec PyProof.Rows L2 TB
def top (i : Nat) : Stmt := PySem.Challenge.pw_turnedback_k44_heights.main.body.getD i (.Pass ⟨0, 0, 0, 0⟩)
abbrev s__law_pot : Stmt := top 5
abbrev s__law_draw : Stmt := top 6
theorem sc__law_pot : FnScope ["_law_script", "_law_k", "_law_cell"] ["_law_script", "_law_k"] (defScope s__law_pot) := ⟨rfl, rfl, rfl, by decide +kernel, rfl, by decide +kernel, by decide +kernel⟩
theorem sc__law_draw : FnScope ["_law_pot_here", "_law_many", "_law_digit"] ["_law_pot_here", "_law_many"] (defScope s__law_draw) := ⟨rfl, rfl, rfl, by decide +kernel, rfl, by decide +kernel, by decide +kernel⟩
abbrev FnP (K : PySem.W.Frag) (x : Str) (st : Stmt) (f : Addr) (fd : FuncData) : Prop := FunD K x x (defArgs st) (defBody st) (defScope st) [] [] f fd
structure Blt (mg : Str → Option Value) : Prop where
  b_len : mg "len" = none
  b_max : mg "max" = none
  b_min : mg "min" = none
  b_abs : mg "abs" = none
  b_divmod : mg "divmod" = none
  b_range : mg "range" = none
section
variable {P : Program} {w : World} {K : PySem.W.Frag} {mg : Str → Option Value} {base : Heap} {f : Addr} {fd : FuncData}
def spDraw0 : Sp := fun vs H Q _ => ∃ (p : Addr) (m a b : Int), vs = [.ref p, .int m] ∧ H p = some (.lst [.int a, .int b]) ∧ 0 ≤ a ∧ 0 ≤ b ∧ b < 2147483647 ∧ 0 < m ∧ m < 2 ^ 64 ∧
  ∀ (H' : Hp) (a' b' d : Int), 0 ≤ a' → 0 ≤ b' → b' < 2147483647 → H' p = some (.lst [.int a', .int b']) → Kp [p] H H' → 0 ≤ d → d < m → Q (.int d) H'
def spDraw : Sp := fun vs H Q _ => ∃ (p : Addr) (m : Int), vs = [.ref p, .int m] ∧ H p = some (PotO p) ∧ NoT H ∧ 0 < m ∧ m < 2 ^ 64 ∧ ∀ d : Int, 0 ≤ d → d < m → Q (.int d) H
theorem ok_draw0 (F : FnP K "_law_draw" s__law_draw f fd) (T : Blt mg) : FnOk P w K mg base CX0 1 f fd ["_law_pot_here", "_law_many"] spDraw0 := by
  refine F.ok sc__law_draw (fun vs H Q E h => ?_) (fun cdv A outer s H vs Q E hr h => ⟨_, PSs.nox 
(pss_cons (ps_if (pt_cmpR op_gt (pe_ix ix_list (pv 0) pe_int (fun _ _ => rfl)) pe_int (nomark _))
    (pss_cons (ps_asg (pe_callB call_divmodW (by rfl) T.b_divmod (by decide +kernel) (pa_cons (pe_ix ix_list (pv 0) pe_int (fun _ _ => rfl)) (pa_cons (pv 1) pa_nil))) (pg_tup rfl (pgs_cons (pg_sub (pv 0) pe_int set_list) (pgs_cons (pg_name (i := 2) sc__law_draw.nd rfl (.inl rfl)) pgs_nil))))
      (pss_one (ps_ret (pv 2))))
    pss_nil)
  (pss_cons (ps_asg (pe_op op_mod (pe_op op_add (pe_op op_mul (pe_ix ix_list (pv 0) pe_int (fun _ _ => rfl)) pe_int) pe_int) pe_int) (pg_sub (pv 0) pe_int set_list))
  (pss_one (ps_ret (pe_op op_mod (pe_op op_fdiv (pe_op op_mod (pe_op op_mul (pe_ix ix_list (pv 0) pe_int (fun _ _ => rfl)) (pe_ix ix_list (pv 0) pe_int (fun _ _ => rfl))) pe_int) pe_int) (pv 1)))))), ?_⟩)
  · obtain ⟨p, m, a, b, rfl, _⟩ := h
    rfl
  · obtain ⟨p, m, a, b, rfl, hp, ha, hb, hb2, hm, hm2, q⟩ := h
    walk_at "ss"
    refine st_ixL (sqL_of hp) rfl ?_
    walk_at "ss"
    refine ite2 (fun c => ?_) (fun c => ?_)
    · walk_at "ss"
      refine st_ixL (sqL_of hp) rfl ?_
      walk_at "ss"
      refine ⟨_, _, rfl, cdivP hm hm2, fun t nt => ?_⟩
      refine st_gtup (sqT_of upd_same) rfl ?_
      walk_at "ss"
      refine st_setL (old_upd nt hp) rfl ?_
      walk_at "ss"
      refine q _ (a / m) b (a % m) (Int.ediv_nonneg ha (by omega)) hb hb2 (by rw [upd_same]; rfl) (((Kp.refl H).new nt).mut (by simp)) (Int.emod_nonneg _ (by omega)) (Int.emod_lt_of_pos _ hm)
    · walk_at "ss"
      refine st_ixL (sqL_of hp) rfl ?_
      walk_at "ss"
      refine st_I (Or.inr ⟨by decide, by decide⟩) ?_
      walk_at "ss"
      refine st_I (by show (0 : Int) < 2147483647; decide) ?_
      walk_at "ss"
      refine st_setL hp rfl ?_
      have h0 : 0 ≤ (b * 48271 + 30011) % 2147483647 := Int.emod_nonneg _ (by decide)
      have h1 : (b * 48271 + 30011) % 2147483647 < 2147483647 := Int.emod_lt_of_pos _ (by decide)
      revert h0 h1
      generalize (b * 48271 + 30011) % 2147483647 = c1
      intro h0 h1
      walk_at "ss"
      refine st_ixL (sqL_of upd_same) rfl ?_
      walk_at "ss"
      refine st_ixL (sqL_of upd_same) rfl ?_
      walk_at "ss"
      refine st_I (Or.inl ⟨by omega, by omega⟩) ?_
      walk_at "ss"
      refine st_I (by show (0 : Int) < 2147483629; decide) ?_
      walk_at "ss"
      refine st_I ⟨by decide, by decide⟩ ?_
      walk_at "ss"
      refine st_I (show (0 : Int) < m from hm) ?_
      exact q _ a c1 _ ha h0 h1 (by rw [upd_same]; rfl) ((Kp.refl H).mut (by simp)) (Int.emod_nonneg _ (by omega)) (Int.emod_lt_of_pos _ hm)
theorem ok_draw (F : FnP K "_law_draw" s__law_draw f fd) (T : Blt mg) : FnOk P w K mg base CX0 1 f fd ["_law_pot_here", "_law_many"] spDraw := by
  refine fn_pot (ok_draw0 F T) fun vs H Q E h => ?_
  obtain ⟨p, m, rfl, hp, nt, hm, hm2, q⟩ := h
  refine ⟨p, hp, fun a b ha hb hb2 => ⟨p, m, a, b, rfl, upd_same, ha, hb, hb2, hm, hm2, fun H' a' b' d h1 h2 h3 h4 h5 h6 h7 => ⟨a', b', h1, h2, h3, h4, H, Fg.back (fun c o e => ?_) nt, q d h6 h7⟩⟩⟩
  by_cases z : c = p
  · rw [z, upd_same, ← e, z]
    exact hp.symm
  · exact oth_upd z (h5 c o (oth_upd z e) (by simp [z]))
def spPot0 (K : PySem.W.Frag) : Sp := fun vs H Q _ => ∃ (l : Addr) (ns : List Int) (k : Int), vs = [.ref l, .int k] ∧ SqL K H l (ns.map V.int) ∧ 0 ≤ k ∧ k < 1000 ∧
  ∀ (p : Addr) (a b : Int), H p = none → 0 ≤ a → 0 ≤ b → b < 2147483647 → Q (.ref p) (upd H p (.lst [.int a, .int b]))
def spPot (K : PySem.W.Frag) : Sp := fun vs H Q _ => ∃ (l : Addr) (ns : List Int) (k : Int), vs = [.ref l, .int k] ∧ SqL K H l (ns.map V.int) ∧ 0 ≤ k ∧ k < 1000 ∧ NoT H ∧ ∀ p : Addr, H p = none → Q (.ref p) (upd H p (PotO p))
theorem ok_pot0 (F : FnP K "_law_pot" s__law_pot f fd) (T : Blt mg) : FnOk P w K mg base CX0 1 f fd ["_law_script", "_law_k"] (spPot0 K) := by
  refine F.ok sc__law_pot (fun vs H Q E h => ?_) (fun cdv A outer s H vs Q E hr h => ⟨_, PSs.nox 
(pss_cons (ps_set (i := 2) sc__law_pot.nd rfl (.inl rfl) (pe_ifExp (pt_cmpR op_lt (pv 1) (pe_callB call_len_seq (by rfl) T.b_len PySem.boot_len (pa_cons (pv 0) pa_nil)) (nomark _)) (pe_ix ix_list (pv 0) (pv 1) (fun _ _ => rfl)) pe_int))
  (pss_one (ps_ret (pe_lst (pa_cons (pe_callB (call_max2 rfl) (by rfl) T.b_max (by decide +kernel) (pa_cons pe_int (pa_cons (pe_op op_sub (pe_callB call_abs (by rfl) T.b_abs (by decide +kernel) (pa_cons (pv 2) pa_nil)) (pe_op op_pow pe_int pe_int)) pa_nil))) (pa_cons (pe_op op_mod (pe_op op_add (pe_op op_add (pe_op op_mul (pe_op op_mod (pe_callB call_abs (by rfl) T.b_abs (by decide +kernel) (pa_cons (pv 2) pa_nil)) pe_int) pe_int) (pe_op op_mul pe_int (pv 1))) pe_int) pe_int) pa_nil)))))), ?_⟩)
  · obtain ⟨l, ns, k, rfl, _⟩ := h
    rfl
  · obtain ⟨l, ns, k, rfl, hl, hk, hk2, q⟩ := h
    walk_at "ss"
    refine ⟨_, _, rfl, Or.inl hl, ?_⟩
    walk_at "ss"
    have key : ∀ c : Int, (tRet (tLst (tCons (tCB (fun xs H Q => ∃ i j, xs = [V.int i, V.int j] ∧ Q (.int (if j > i then j else i)) H) (tCons (tC (.int 0)) (tCons (tOp (rI0 fun i j => .int (i - j)) (tCB (fun xs H Q => ∃ i, xs = [V.int i] ∧ Q (.int (if i < 0 then -i else i)) H) (tCons (tVar 2) tNil)) (tOp (rI CPow fun i j => .int (i ^ j.toNat)) (tC (.int 10)) (tC (.int 18)))) tNil))) (tCons (tOp (rI (fun _ j => 0 < j) fun i j => .int (i % j)) (tOp (rI0 fun i j => .int (i + j)) (tOp (rI0 fun i j => .int (i + j)) (tOp (rI CMul fun i j => .int (i * j)) (tOp (rI (fun _ j => 0 < j) fun i j => .int (i % j)) (tCB (fun xs H Q => ∃ i, xs = [V.int i] ∧ Q (.int (if i < 0 then -i else i)) H) (tCons (tVar 2) tNil)) (tC (.int 2147483579))) (tC (.int 44021))) (tOp (rI CMul fun i j => .int (i * j)) (tC (.int 6151)) (tVar 1))) (tC (.int 97))) (tC (.int 2147483647))) tNil)))) { nx := fun _ H' => Q .non H', rt := Q } [some (.ref l), some (.int k), some (.int c)] H := by
      intro c
      walk_at "ss"
      refine ⟨_, rfl, ?_⟩
      walk_at "ss"
      refine st_I ⟨by decide, by decide, by decide⟩ ?_
      walk_at "ss"
      refine ⟨_, _, rfl, ?_⟩
      walk_at "ss"
      refine ⟨_, rfl, ?_⟩
      walk_at "ss"
      refine st_I (by show (0 : Int) < 2147483579; decide) ?_
      walk_at "ss"
      refine st_I (Or.inr ⟨by decide, by decide⟩) ?_
      walk_at "ss"
      refine st_I (Or.inl ⟨by decide, by decide⟩) ?_
      walk_at "ss"
      refine st_I (by show (0 : Int) < 2147483647; decide) ?_
      refine ⟨(by show 2 ≤ sizeLine; decide), fun p np => q p _ _ np ?_ (Int.emod_nonneg _ (by decide)) (Int.emod_lt_of_pos _ (by decide))⟩
      split <;> omega
    refine ite2 (fun c => ?_) (fun c => ?_)
    · walk_at "ss"
      have hk3 : k.toNat < ns.length := by
        have c1 := of_decide_eq_true c
        rw [List.length_map] at c1
        omega
      refine st_ixL hl (at_of (j := k.toNat) (v := .int ns[k.toNat]) (by omega) (by rw [List.getElem?_map, List.getElem?_eq_getElem hk3]; rfl)) ?_
      exact key _
    · exact key 0
theorem ok_pot (F : FnP K "_law_pot" s__law_pot f fd) (T : Blt mg) : FnOk P w K mg base CX0 1 f fd ["_law_script", "_law_k"] (spPot K) := by
  refine fn_mkpot (ok_pot0 F T) fun vs H Q E h => ?_
  obtain ⟨l, ns, k, rfl, hl, hk, hk2, nt, q⟩ := h
  refine ⟨l, ns, k, rfl, hl, hk, hk2, fun p a b np ha hb hb2 => ⟨p, a, b, ha, hb, hb2, np, upd_same, upd H p (PotO p), ?_, q p np⟩⟩
  rw [upd_upd]
  exact Fg.one ((Kp.refl (ls := []) H).new np).same nt np upd_same trivial (fun _ => trivial)
end
end K44
namespace K44
open PySem PySem.Spec PyProof.Rows L2 TB
open C8 (Cal pe_c Mak pe_mk Met pe_mt pe_mt0 pss_cut tCut pe_gc)
abbrev s__law_name : Stmt := top 7
abbrev s__law_latches : Stmt := top 8
abbrev s__law_some : Stmt := top 9
theorem sc__law_name : FnScope ["_law_pot_here", "_law_taken", "_law_letters", "_law_size", "_law_word", "_law_k", "_law_letter"] ["_law_pot_here", "_law_taken"] (defScope s__law_name) := ⟨rfl, rfl, rfl, by decide +kernel, rfl, by decide +kernel, by decide +kernel⟩
theorem sc__law_latches : FnScope ["_law_pot_here", "_law_taken", "_law_k"] ["_law_pot_here"] (defScope s__law_latches) := ⟨rfl, rfl, rfl, by decide +kernel, rfl, by decide +kernel, by decide +kernel⟩
theorem sc__law_some : FnScope ["_law_pot_here", "_law_latches_here", "_law_left", "_law_found", "_law_k"] ["_law_pot_here", "_law_latches_here"] (defScope s__law_some) := ⟨rfl, rfl, rfl, by decide +kernel, rfl, by decide +kernel, by decide +kernel⟩
section
variable {P : Program} {w : World} {K : PySem.W.Frag} {mg : Str → Option Value} {base : Heap} {f : Addr} {fd : FuncData}
/-- a name is drawn that is not among ws, and put behind them -/
def spName : Sp := fun vs H Q _ => ∃ (p l : Addr) (ws : List Str), vs = [.ref p, .ref l] ∧ H p = some (PotO p) ∧ H l = some (.lst (ws.map V.str)) ∧ NoT H ∧ ws.length < 26 ∧
  ∀ z : Str, Nm z → z ∉ ws → Q (.str z) (upd H l (.lst ((ws ++ [z]).map V.str)))
def spName0 : Sp := fun vs H Q _ => ∃ (p l : Addr) (ws : List Str), vs = [.ref p, .ref l] ∧ H p = some (PotO p) ∧ H l = some (.lst (ws.map V.str)) ∧ NoT H ∧ ws.length < 26 ∧
  ∀ (z : Str) (H' : Hp), Nm z → z ∉ ws → Kp [l] H H' → H' l = some (.lst ((ws ++ [z]).map V.str)) → Q (.str z) H'
theorem ok_name0 (F : FnP K "_law_name" s__law_name f fd) (T : Blt mg) (c__law_draw : Cal P w K mg base 1 "_law_draw" spDraw []) : FnOk P w K mg base CX0 2 f fd ["_law_pot_here", "_law_taken"] spName0 := by
  refine F.ok sc__law_name (fun vs H Q E h => ?_) (fun cdv A outer s H vs Q E hr h => ⟨_, PSs.nox 
(pss_cons (ps_set (i := 2) sc__law_name.nd rfl (.inr rfl) pe_str)
  (pss_cons (ps_set (i := 3) sc__law_name.nd rfl (.inl rfl) (pe_ix (ix_listK K) (pe_lst (pa_cons pe_int (pa_cons pe_int (pa_cons pe_int (pa_cons pe_int (pa_cons (pe_op op_add pe_int (pe_c c__law_draw hr (by decide) (by rfl) (pa_cons (pv 0) (pa_cons pe_int pa_nil)))) pa_nil)))))) (pe_c c__law_draw hr (by decide) (by rfl) (pa_cons (pv 0) (pa_cons pe_int pa_nil))) (fun _ _ => rfl)))
  (pss_cons (ps_set (i := 4) sc__law_name.nd rfl (.inl rfl) (pe_joinK K pe_str (pe_lc (own := [("_law_k", 5)]) (tt := tYes) rfl sc__law_name.nd (pi_range1 (by rfl) T.b_range (pa_cons (pv 3) pa_nil)) (blkOk_by (N := ["_law_pot_here", "_law_taken", "_law_letters", "_law_size", "_law_word", "_law_k", "_law_letter"]) (sc := defScope s__law_name) (by decide +kernel)) (fun _ _ _ _ _ => pg_name (i := 5) sc__law_name.nd rfl (Or.inl rfl)) (fun _ _ _ _ _ => pts_nil) (fun _ _ _ _ _ => (pe_ix ix_str (pv 2) (pe_c c__law_draw hr (by decide) (by rfl) (pa_cons (pv 0) (pa_cons pe_int pa_nil))) (fun _ _ => rfl))))))
  (pss_cut (ps_if (pt_cmpR op_eq (pe_c c__law_draw hr (by decide) (by rfl) (pa_cons (pv 0) (pa_cons pe_int pa_nil))) pe_int (nomark _))
    (pss_one (ps_set (i := 4) sc__law_name.nd rfl (.inl rfl) (pe_ix (ix_listK K) (pe_lst (pa_cons pe_str (pa_cons pe_str (pa_cons pe_str (pa_cons pe_str (pa_cons pe_str (pa_cons pe_str (pa_cons pe_str (pa_cons pe_str pa_nil))))))))) (pe_c c__law_draw hr (by decide) (by rfl) (pa_cons (pv 0) (pa_cons pe_int pa_nil))) (fun _ _ => rfl))))
    pss_nil)
  (pss_cut (ps_if (pt_cmpR (op_inK K) (pv 4) (pv 1) rfl)
    (pss_one (ps_set (i := 4) sc__law_name.nd rfl (.inl rfl) (pe_ix (ix_listK K) (pe_lc (own := [("_law_letter", 6)]) rfl sc__law_name.nd (pi_str (pv 2)) (blkOk_by (N := ["_law_pot_here", "_law_taken", "_law_letters", "_law_size", "_law_word", "_law_k", "_law_letter"]) (sc := defScope s__law_name) (by decide +kernel)) (fun _ _ _ _ _ => pg_name (i := 6) sc__law_name.nd rfl (Or.inl rfl)) (fun _ _ _ _ _ => pts_one (pt_cmpR (op_ninK K) (pv 6) (pv 1) rfl)) (fun _ _ _ _ _ => (pv 6))) pe_int (fun _ _ => rfl))))
    pss_nil)
  (pss_cons (ps_expr (kBM K (pe_bm PySem.F.plainAttrs_list PySem.F.slot_list_append PySem.F.type_list_append mt_append (pv 1) (pa_cons (pv 4) pa_nil))))
  (pss_one (ps_ret (pv 4))))))))), ?_⟩)
  · obtain ⟨p, l, ws, rfl, _⟩ := h
    rfl
  · obtain ⟨p, l, ws, rfl, hp, hl, nt, hw, q⟩ := h
    walk_at "ss"
    refine ⟨p, 8, rfl, hp, nt, by decide, by decide, fun d0 h0 h1 => ?_⟩
    walk_at "ss"
    refine ⟨by show 5 ≤ sizeLine; decide, fun l1 n1 => ?_⟩
    walk_at "ss"
    have hp1 := old_upd (o := .lst [.int 1, .int 1, .int 2, .int 8, .int (1 + d0)]) n1 hp
    have hl1 := old_upd (o := .lst [.int 1, .int 1, .int 2, .int 8, .int (1 + d0)]) n1 hl
    have nt1 : NoT (upd H l1 (.lst [.int 1, .int 1, .int 2, .int 8, .int (1 + d0)])) := nt.upd trivial
    have k1 : Kp [l] H (upd H l1 (.lst [.int 1, .int 1, .int 2, .int 8, .int (1 + d0)])) := (Kp.refl H).new n1
    refine ⟨p, 5, rfl, hp1, nt1, by decide, by decide, fun d1 h2 h3 => ?_⟩
    walk_at "ss"
    obtain ⟨sv, hsv, esv⟩ := at_some (xs := [.int 1, .int 1, .int 2, .int 8, .int (1 + d0)]) h2 h3
    refine st_ixL (sqL_of upd_same) esv ?_
    obtain ⟨n, rfl, hn1, hn2⟩ : ∃ n : Nat, sv = .int (n : Int) ∧ 1 ≤ n ∧ n ≤ 8 := by
      simp only [List.mem_cons, List.not_mem_nil, or_false] at hsv
      rcases hsv with rfl | rfl | rfl | rfl | rfl
      · exact ⟨1, rfl, by decide, by decide⟩
      · exact ⟨1, rfl, by decide, by decide⟩
      · exact ⟨2, rfl, by decide, by decide⟩
      · exact ⟨8, rfl, by decide, by decide⟩
      · exact ⟨(1 + d0).toNat, by rw [Int.toNat_of_nonneg (by omega)], by omega, by omega⟩
    generalize hH1 : upd H l1 (.lst [.int 1, .int 1, .int 2, .int 8, .int (1 + d0)]) = H1 at hp1 hl1 nt1 k1 ⊢
    walk_at "ss"
    -- the signs
    walk_at "ss"
    refine ⟨_, rfl, by omega, by omega, ?_⟩
    rw [Int.toNat_natCast]
    refine lc_walk wk_range (fun D i acc H' => ∃ cs : List Nat, acc = cs.map signV ∧ cs.length = i ∧ (∀ c ∈ cs, 97 ≤ c ∧ c ≤ 122) ∧ H' = upd H1 D (.lst acc)) (fun D nD => ⟨[], rfl, rfl, by simp, rfl⟩) (fun _ _ _ _ _ => trivial) ?_ ?_
    · rintro D i x acc H' nD hx ⟨cs, rfl, hi, hc, rfl⟩
      have hi8 : i < 8 := by
        have := (List.getElem?_eq_some_iff.mp hx).1
        rw [List.length_map, List.length_range] at this
        omega
      walk_at "ss"
      refine ⟨rfl, ?_⟩
      walk_at "ss"
      refine iteT ?_
      walk_at "ss"
      refine ⟨p, 26, rfl, old_upd nD hp1, nt1.upd trivial, by decide, by decide, fun d2 h4 h5 => ?_⟩
      obtain ⟨j, hj, rfl, ej⟩ := at_some' (xs := tl "abcdefghijklmnopqrstuvwxyz") h4 (by exact h5)
      refine st_ixS (by decide +kernel) ej ?_
      refine ⟨cs.map signV, upd_same, by rw [List.length_map]; exact small1000 (by omega), (cs ++ [(tl "abcdefghijklmnopqrstuvwxyz")[j]]).map signV, cs ++ [(tl "abcdefghijklmnopqrstuvwxyz")[j]], rfl, by simp [hi], ?_, ?_⟩
      · intro c hcc
        rcases List.mem_append.mp hcc with z | z
        · exact hc c z
        · rw [List.mem_singleton] at z
          subst z
          have all : ∀ c ∈ tl "abcdefghijklmnopqrstuvwxyz", 97 ≤ c ∧ c ≤ 122 := by decide +kernel
          exact all _ (List.getElem_mem hj)
      · rw [upd_upd, List.map_append]
        rfl
    · rintro D acc H' nD ⟨cs, rfl, hi, hc, rfl⟩
      rw [List.length_map, List.length_range] at hi
      have e1 : cs.map signV = (cs.map fun c => (⟨#[c]⟩ : Str)).map V.str := by rw [List.map_map]; rfl
      rw [e1]
      refine st_join (sqL_of upd_same) ?_ ?_
      · exact signs_fit (by omega)
      · walk_at "ss"
        rw [join_signs]
        have nm : Nm ⟨cs.toArray⟩ := ⟨by show 1 ≤ cs.toArray.toList.length; simp; omega, by show cs.toArray.toList.length ≤ 8; simp; omega, fun c hcc => hc c (by simpa [tl] using hcc)⟩
        have k2 : Kp [] H (upd H1 D (.lst ((cs.map fun c => (⟨#[c]⟩ : Str)).map V.str))) := by
          subst hH1
          exact ((Kp.refl H).new n1).new nD
        have nt2 : NoT (upd H1 D (.lst ((cs.map fun c => (⟨#[c]⟩ : Str)).map V.str))) := nt1.upd trivial
        generalize hH2 : upd H1 D (.lst ((cs.map fun c => (⟨#[c]⟩ : Str)).map V.str)) = H2 at k2 nt2 ⊢
        -- one of the words, or not
        refine ⟨fun σ' H' => ∃ z, Nm z ∧ σ' = [some (.ref p), some (.ref l), some (.str "abcdefghijklmnopqrstuvwxyz"), some (.int n), some (.str z), none, none] ∧ Kp [] H H' ∧ NoT H', ?_, ?_⟩
        · walk_at "ss"
          refine ⟨p, 12, rfl, k2.same _ _ hp, nt2, by decide, by decide, fun d3 h6 h7 => ?_⟩
          walk_at "ss"
          refine ite2 (fun c => ?_) (fun c => ?_)
          · walk_at "ss"
            refine ⟨by show 8 ≤ sizeLine; decide, fun l3 n3 => ?_⟩
            walk_at "ss"
            refine ⟨p, 8, rfl, old_upd n3 (k2.same _ _ hp), nt2.upd trivial, by decide, by decide, fun d4 h8 h9 => ?_⟩
            obtain ⟨sv2, hsv2, esv2⟩ := at_some (xs := [.str "take", .str "set", .str "quit", .str "come", .str "lock", .str "task", .str "done", .str "got"]) h8 h9
            refine st_ixL (sqL_of upd_same) esv2 ?_
            obtain ⟨z, rfl, hz⟩ : ∃ z, sv2 = .str z ∧ Nm z := by
              simp only [List.mem_cons, List.not_mem_nil, or_false] at hsv2
              rcases hsv2 with rfl | rfl | rfl | rfl | rfl | rfl | rfl | rfl <;> exact ⟨_, rfl, nm_of (by decide +kernel)⟩
            walk_at "ss"
            exact ⟨z, hz, rfl, k2.new n3, nt2.upd trivial⟩
          · walk_at "ss"
            exact ⟨_, nm, rfl, k2, nt2⟩
        · rintro σ' H3 ⟨z, hz, rfl, k3, nt3⟩
          -- a free letter, where it is taken
          refine ⟨fun σ' H' => ∃ z, Nm z ∧ z ∉ ws ∧ σ' = [some (.ref p), some (.ref l), some (.str "abcdefghijklmnopqrstuvwxyz"), some (.int n), some (.str z), none, none] ∧ Kp [] H H' ∧ NoT H', ?_, ?_⟩
          · walk_at "ss"
            refine st_in (sqL_of (k3.same _ _ hl)) rfl (flat_strs ws) ?_
            walk_at "ss"
            rw [inV_strs]
            refine ite2 (fun c => ?_) (fun c => ?_)
            · walk_at "ss"
              refine ⟨_, rfl, ?_⟩
              refine lc_walk wk_str (fun D i acc H' => acc = ((abc.take i).filter (fun c => !decide ((⟨#[c]⟩ : Str) ∈ ws))).map signV ∧ H' = upd H3 D (.lst acc)) (fun D nD => ⟨rfl, rfl⟩) (fun _ _ _ _ _ => trivial) ?_ ?_
              · rintro D i x acc H' nD hx ⟨rfl, rfl⟩
                obtain ⟨c2, hc2, rfl⟩ : ∃ c2, abc[i]? = some c2 ∧ x = signV c2 := by
                  rw [List.getElem?_map] at hx
                  cases e3 : (tl "abcdefghijklmnopqrstuvwxyz")[i]? with
                  | none =>
                    rw [e3] at hx
                    exact nomatch hx
                  | some c2 =>
                    rw [e3] at hx
                    exact ⟨c2, e3, (Option.some.inj hx).symm⟩
                have et : (abc.take (i + 1)).filter (fun c => !decide ((⟨#[c]⟩ : Str) ∈ ws)) = (abc.take i).filter (fun c => !decide ((⟨#[c]⟩ : Str) ∈ ws)) ++ [c2].filter (fun c => !decide ((⟨#[c]⟩ : Str) ∈ ws)) := by
                  rw [List.take_add_one, hc2, List.filter_append]
                  rfl
                have hlen : (((abc.take i).filter (fun c => !decide ((⟨#[c]⟩ : Str) ∈ ws))).map signV).length < sizeLine := by
                  rw [List.length_map]
                  have l1 := List.length_filter_le (fun c => !decide ((⟨#[c]⟩ : Str) ∈ ws)) (abc.take i)
                  have l2 : (abc.take i).length ≤ abc.length := by rw [List.length_take]; omega
                  have l3 : abc.length = 26 := by decide +kernel
                  exact small1000 (by omega)
                walk_at "ss"
                refine ⟨rfl, ?_⟩
                walk_at "ss"
                refine st_nin (sqL_of (old_upd nD (k3.same _ _ hl))) rfl (flat_strs ws) ?_
                walk_at "ss"
                rw [show signV c2 = V.str ⟨#[c2]⟩ from rfl, inV_strs]
                refine ite2 (fun c3 => ?_) (fun c3 => ?_)
                · walk_at "ss"
                  refine ⟨_, upd_same, hlen, _, rfl, ?_⟩
                  rw [upd_upd, et, show [c2].filter (fun c => !decide ((⟨#[c]⟩ : Str) ∈ ws)) = [c2] from List.filter_cons_of_pos (p := fun c => !decide ((⟨#[c]⟩ : Str) ∈ ws)) c3, List.map_append]
                  rfl
                · refine ⟨_, rfl, ?_⟩
                  rw [et, show [c2].filter (fun c => !decide ((⟨#[c]⟩ : Str) ∈ ws)) = [] from List.filter_cons_of_neg (p := fun c => !decide ((⟨#[c]⟩ : Str) ∈ ws)) c3, List.append_nil]
              · rintro D acc H' nD ⟨rfl, rfl⟩
                obtain ⟨c4, r4, e4, hc4, hn4⟩ := free_letter hw
                have el : abc.take ((tl "abcdefghijklmnopqrstuvwxyz").map signV).length = abc := List.take_of_length_le (by rw [List.length_map]; exact Nat.le_refl _)
                rw [el, e4]
                walk_at "ss"
                refine st_ixL (sqL_of upd_same) (atI_nat (j := 0) rfl) ?_
                walk_at "ss"
                exact ⟨⟨#[c4]⟩, abc_nm hc4, hn4, rfl, k3.new nD, nt3.upd trivial⟩
            · walk_at "ss"
              exact ⟨z, hz, by simpa using c, rfl, k3, nt3⟩
          · rintro σ' H4 ⟨z, hz, hz2, rfl, k4, nt4⟩
            have hl4 := k4.same _ _ hl
            walk_at "ss"
            refine ⟨Or.inl ⟨rfl, _, sqL_of hl4⟩, ?_⟩
            walk_at "ss"
            refine st_append hl4 (by rw [List.length_map]; exact small1000 (by omega)) ?_
            walk_at "ss"
            refine q z _ hz hz2 (fun b o e m => ?_) ?_
            · exact oth_upd (fun z2 => m (by rw [z2]; simp)) (k4.same _ _ e)
            · rw [upd_same, List.map_append]
              rfl
theorem ok_name (F : FnP K "_law_name" s__law_name f fd) (T : Blt mg) (c__law_draw : Cal P w K mg base 1 "_law_draw" spDraw []) : FnOk P w K mg base CX0 2 f fd ["_law_pot_here", "_law_taken"] spName := by
  refine fn_fg (ok_name0 F T c__law_draw) fun vs H Q E h => ?_
  obtain ⟨p, l, ws, rfl, hp, hl, nt, hw, q⟩ := h
  exact ⟨p, l, ws, rfl, hp, hl, nt, hw, fun z H' h1 h2 k e => ⟨_, Fg.mut1 k nt hl e trivial (fun _ => trivial) (fun y => by intro z; cases z), q z h1 h2⟩⟩
end
end K44
namespace K44
open PySem PySem.Spec PyProof.Rows L2 TB
open C8 (Cal pe_c Mak pe_mk Met pe_mt pe_mt0 pss_cut tCut pe_gc)
abbrev s_height_of : Stmt := top 3
abbrev s__law_height : Stmt := top 10
abbrev s__law_first_unlike : Stmt := top 12
theorem sc_height_of : FnScope ["line", "some", "at", "lock", "found"] ["line", "some"] (defScope s_height_of) := ⟨rfl, rfl, rfl, by decide +kernel, rfl, by decide +kernel, by decide +kernel⟩
theorem sc__law_height : FnScope ["_law_line", "_law_some_here", "_law_figures", "_law_latch", "_law_found", "_law_worth", "_law_sign"] ["_law_line", "_law_some_here"] (defScope s__law_height) := ⟨rfl, rfl, rfl, by decide +kernel, rfl, by decide +kernel, by decide +kernel⟩
theorem sc__law_first_unlike : FnScope ["_law_line", "_law_one", "_law_other", "_law_latch"] ["_law_line", "_law_one", "_law_other"] (defScope s__law_first_unlike) := ⟨rfl, rfl, rfl, by decide +kernel, rfl, by decide +kernel, by decide +kernel⟩
structure Blt2 (mg : Str → Option Value) : Prop extends Blt mg where
  b_enumerate : mg "enumerate" = none
  b_int : mg "int" = none
  b_list : mg "list" = none
  b_repr : mg "repr" = none
/-! ### the numbers -/
def bit (b : Bool) : Int := if b then 1 else 0
def htB : List Bool → Int := fun bs => bs.foldl (fun f b => 2 * f + bit b) 0
def bits (line some : List Str) : List Bool := line.map fun l => decide (l ∈ some)
def ht (line some : List Str) : Int := htB (bits line some)
theorem htB_from (bs : List Bool) : ∀ f : Int, bs.foldl (fun f b => 2 * f + bit b) f = f * 2 ^ bs.length + htB bs := by
  induction bs with
  | nil =>
    intro f
    show f = f * 2 ^ 0 + 0
    omega
  | cons b r ih =>
    intro f
    have e1 : htB (b :: r) = bit b * 2 ^ r.length + htB r := by
      show r.foldl (fun f b => 2 * f + bit b) (2 * 0 + bit b) = _
      rw [ih, Int.mul_zero, Int.zero_add]
    show r.foldl (fun f b => 2 * f + bit b) (2 * f + bit b) = f * 2 ^ (r.length + 1) + htB (b :: r)
    rw [ih, e1, Int.pow_succ, Int.add_mul, Int.mul_comm 2 f, Int.mul_assoc, Int.mul_comm 2 (2 ^ r.length), Int.add_assoc]
theorem htB_cons (b : Bool) (r : List Bool) : htB (b :: r) = bit b * 2 ^ r.length + htB r := by
  show r.foldl (fun f b => 2 * f + bit b) (2 * 0 + bit b) = _
  rw [htB_from r, Int.mul_zero, Int.zero_add]
theorem htB_nn : ∀ bs : List Bool, 0 ≤ htB bs
  | [] => by decide
  | b :: r => by
    rw [htB_cons]
    have h1 := htB_nn r
    have h2 : 0 ≤ bit b * 2 ^ r.length := by
      refine Int.mul_nonneg ?_ (Int.le_of_lt (Int.pow_pos (by decide)))
      cases b <;> decide
    omega
theorem htB_lt : ∀ bs : List Bool, htB bs < 2 ^ bs.length
  | [] => by decide
  | b :: r => by
    rw [htB_cons, List.length_cons, Int.pow_succ]
    have h1 := htB_lt r
    have h2 : bit b * 2 ^ r.length ≤ 2 ^ r.length := by
      cases b with
      | true => show 1 * (2 : Int) ^ r.length ≤ 2 ^ r.length; omega
      | false =>
        show 0 * (2 : Int) ^ r.length ≤ 2 ^ r.length
        have : (0 : Int) < 2 ^ r.length := Int.pow_pos (by decide)
        omega
    omega
/-- one turn from the end -/
def turnR : Int × Int → Bool → Int × Int := fun s b => (s.1 + s.2 * bit b, s.2 + s.2)
theorem turnR_all : ∀ (bs : List Bool), bs.reverse.foldl turnR (0, 1) = (htB bs, 2 ^ bs.length)
  | [] => rfl
  | b :: r => by
    rw [List.reverse_cons, List.foldl_append, turnR_all r, htB_cons, List.length_cons, Int.pow_succ]
    show (htB r + 2 ^ r.length * bit b, (2 : Int) ^ r.length + 2 ^ r.length) = _
    rw [Int.mul_comm (2 ^ r.length) (bit b), Int.add_comm (htB r)]
    congr 1
    omega
def firstU : List Str → List Str → List Str → Bool
  | [], _, _ => false
  | l :: r, one, oth => if decide (l ∈ one) = decide (l ∈ oth) then firstU r one oth else decide (l ∈ one)
theorem ht_first : ∀ (line one oth : List Str), decide (ht line oth < ht line one) = firstU line one oth
  | [], one, oth => by
    show decide (htB [] < htB []) = false
    decide
  | l :: r, one, oth => by
    have ih := ht_first r one oth
    have e : ∀ some : List Str, ht (l :: r) some = bit (decide (l ∈ some)) * 2 ^ r.length + ht r some := by
      intro some
      show htB (decide (l ∈ some) :: bits r some) = _
      rw [htB_cons]
      have : (bits r some).length = r.length := List.length_map ..
      rw [this]
      rfl
    have b1 := htB_lt (bits r one)
    have b2 := htB_lt (bits r oth)
    have n1 := htB_nn (bits r one)
    have n2 := htB_nn (bits r oth)
    rw [show (bits r one).length = r.length from List.length_map .., show htB (bits r one) = ht r one from rfl] at b1
    rw [show (bits r oth).length = r.length from List.length_map .., show htB (bits r oth) = ht r oth from rfl] at b2
    rw [show htB (bits r one) = ht r one from rfl] at n1
    rw [show htB (bits r oth) = ht r oth from rfl] at n2
    unfold firstU
    rw [e, e]
    cases h1 : decide (l ∈ one) <;> cases h2 : decide (l ∈ oth)
    · rw [if_pos rfl, ← ih]
      refine decide_eq_decide.mpr ?_
      omega
    · rw [if_neg (by decide)]
      refine decide_eq_false ?_
      show ¬ (1 * 2 ^ r.length + ht r oth < 0 * 2 ^ r.length + ht r one)
      omega
    · rw [if_neg (by decide)]
      refine decide_eq_true ?_
      show 0 * 2 ^ r.length + ht r oth < 1 * 2 ^ r.length + ht r one
      omega
    · rw [if_pos rfl, ← ih]
      refine decide_eq_decide.mpr ?_
      omega
theorem ht_mem {line a b : List Str} (h : ∀ z, z ∈ a ↔ z ∈ b) : ht line a = ht line b := by
  unfold ht bits
  congr 1
  refine List.map_congr_left fun l _ => ?_
  exact decide_eq_decide.mpr (h l)
theorem ht_nil (line : List Str) : ht line [] = 0 := by
  induction line with
  | nil => rfl
  | cons l r ih =>
    show htB (decide (l ∈ []) :: bits r []) = 0
    rw [htB_cons, show htB (bits r []) = ht r [] from rfl, ih]
    simp [bit]
section
variable {P : Program} {w : World} {K : PySem.W.Frag} {mg : Str → Option Value} {base : Heap} {f : Addr} {fd : FuncData}
def spHt0 (K : PySem.W.Frag) : Sp := fun vs H Q _ => ∃ (a b : Addr) (line some : List Str), vs = [.ref a, .ref b] ∧ SqL K H a (line.map V.str) ∧ SqL K H b (some.map V.str) ∧ some.Nodup ∧ (∀ z ∈ some, z ∈ line) ∧ line.length ≤ 1000 ∧ NoT H ∧
  ∀ H', Kp [] H H' → Q (.int (ht line some)) H'
def spHt (K : PySem.W.Frag) : Sp := fun vs H Q _ => ∃ (a b : Addr) (line some : List Str), vs = [.ref a, .ref b] ∧ SqL K H a (line.map V.str) ∧ SqL K H b (some.map V.str) ∧ some.Nodup ∧ (∀ z ∈ some, z ∈ line) ∧ line.length ≤ 1000 ∧ NoT H ∧ Q (.int (ht line some)) H
theorem ht_of0 {k : Nat} {ps : List Str} (F : FnOk P w K mg base CX0 k f fd ps (spHt0 K)) : FnOk P w K mg base CX0 k f fd ps (spHt K) := by
  refine fn_fg F fun vs H Q E h => ?_
  obtain ⟨a, b, line, some, rfl, h1, h2, h3, h4, h5, nt, q⟩ := h
  exact ⟨a, b, line, some, rfl, h1, h2, h3, h4, h5, nt, fun H' k => ⟨H, Fg.back k.same nt, q⟩⟩
theorem item_of {ws : List Str} {i : Nat} {x : V} (h : (ws.map V.str)[i]? = some x) : ∃ z, ws[i]? = some z ∧ x = .str z := by
  rw [List.getElem?_map] at h
  cases e : ws[i]? with
  | none =>
    rw [e] at h
    exact nomatch h
  | some z =>
    rw [e] at h
    exact ⟨z, rfl, (Option.some.inj h).symm⟩
theorem ok_height_of (F : FnP K "height_of" s_height_of f fd) (T : Blt2 mg) : FnOk P w K mg base CX0 1 f fd ["line", "some"] (spHt K) := by
  refine ht_of0 ?_
  refine F.ok sc_height_of (fun vs H Q E h => ?_) (fun cdv A outer s H vs Q E hr h => ⟨_, PSs.nox 
(pss_cons (ps_for PassesOwn.never rfl (kPEn K (pi_enum (by rfl) T.b_enumerate (pa_cons (pv 1) pa_nil))) (kTup K 2 (pg_tup rfl (pgs_cons (pg_name (i := 2) sc_height_of.nd rfl (.inl rfl)) (pgs_cons (pg_name (i := 3) sc_height_of.nd rfl (.inl rfl)) pgs_nil))))
    (pss_one (ps_if (PW.pt (pw_or (pt_cmpR (op_ninK K) (pv 3) (pv 0) rfl) (pw_or1 (pt_cmpR (op_inK K) (pv 3) (pe_slice (sl_listK K) (pv 1) po_none (po_some (pv 2))) rfl))))
        (pss_one ps_never)
        pss_nil)))
  (pss_cons (ps_set (i := 4) sc_height_of.nd rfl (.inl rfl) pe_int)
  (pss_cons (ps_for PassesOwn.never rfl (kPI K (pi_list (pv 0))) (pg_name (i := 3) sc_height_of.nd rfl (.inl rfl))
    (pss_one (ps_set (i := 4) sc_height_of.nd rfl (.inl rfl) (pe_op op_add (pe_op op_mul pe_int (pv 4)) (pe_callTy call_intB (by rfl) T.b_int (by decide +kernel) (pa_cons (pe_cmpR (op_inK K) (pv 3) (pv 1) rfl) pa_nil))))))
  (pss_one (ps_ret (pv 4)))))), ?_⟩)
  · obtain ⟨a, b, line, some, rfl, _⟩ := h
    rfl
  · obtain ⟨a, b, line, some_, rfl, ha, hb, nd, sub, hl, nt, q⟩ := h
    walk_at "ss"
    refine ⟨_, _, rfl, hb, ?_⟩
    refine for_enum (xs := some_.map V.str) (fun i σ H' => ∃ y2 y3, σ = [some (.ref a), some (.ref b), y2, y3, none] ∧ Kp [] H H') ⟨none, none, rfl, Kp.refl H⟩ (fun i σ H' ⟨_, _, _, k⟩ => k.sqL (by simp) hb) ?_ ?_
    · rintro i x σ H' T' hx ⟨y2, y3, rfl, k⟩ nT
      obtain ⟨z, hz, rfl⟩ := item_of hx
      walk_at "ss"
      refine st_nin (sqL_new nT (k.sqL (by simp) ha)) rfl (flat_strs line) ?_
      rw [inV_strs]
      walk_at "ss"
      have hm : z ∈ line := sub z (List.mem_of_getElem? hz)
      rw [decide_eq_true hm]
      refine iteF ?_
      walk_at "ss"
      refine ⟨_, _, rfl, sqL_new nT (k.sqL (by simp) hb), fun c nc => ?_⟩
      walk_at "ss"
      rw [cut_to, ← List.map_take]
      refine st_in (sqL_of upd_same) rfl (flat_strs _) ?_
      rw [inV_strs]
      walk_at "ss"
      have hn : z ∉ some_.take i := by
        intro hmm
        obtain ⟨j, hj⟩ := List.mem_iff_getElem?.mp hmm
        have hji : j < i := by
          have := (List.getElem?_eq_some_iff.mp hj).1
          rw [List.length_take] at this
          omega
        rw [List.getElem?_take_of_lt hji] at hj
        exact absurd (nd_ix nd hj hz) (by omega)
      rw [decide_eq_false hn]
      refine iteF ?_
      walk_at "ss"
      exact ⟨_, _, rfl, (k.new nT).new nc⟩
    · rintro σ H' ⟨y2, y3, rfl, k⟩
      walk_at "ss"
      refine ⟨_, rfl, ⟨_, k.sqL (by simp) ha⟩, ?_⟩
      refine for_walk wk_list (xs := line.map V.str) (fun i σ H2 => ∃ y3, σ = [some (.ref a), some (.ref b), y2, y3, some (.int (htB ((bits line some_).take i)))] ∧ H2 = H') ⟨y3, rfl, rfl⟩ (fun i σ H2 ⟨_, _, e⟩ => by rw [e]; exact k.sqL (by simp) ha) ?_ ?_
      · rintro i x σ H2 hx ⟨y4, rfl, rfl⟩
        obtain ⟨z, hz, rfl⟩ := item_of hx
        walk_at "ss"
        refine st_I (Or.inl ⟨by decide, by decide⟩) ?_
        walk_at "ss"
        refine st_in (k.sqL (by simp) hb) rfl (flat_strs _) ?_
        rw [inV_strs]
        walk_at "ss"
        refine ⟨some (.str z), ?_, rfl⟩
        have et : (bits line some_).take (i + 1) = (bits line some_).take i ++ [decide (z ∈ some_)] := by
          rw [List.take_add_one]
          unfold bits
          rw [List.getElem?_map, hz]
          rfl
        have eh : htB ((bits line some_).take (i + 1)) = 2 * htB ((bits line some_).take i) + bit (decide (z ∈ some_)) := by
          rw [et]
          unfold htB
          rw [List.foldl_append]
          rfl
        rw [eh]
        rfl
      · rintro σ H2 ⟨y4, rfl, rfl⟩
        walk_at "ss"
        have el : (bits line some_).take (line.map V.str).length = bits line some_ := List.take_of_length_le (by unfold bits; rw [List.length_map, List.length_map]; exact Nat.le_refl _)
        rw [el]
        exact q _ k
end
end K44
namespace K44
open PySem PySem.Spec PyProof.Rows L2 TB
open C8 (Cal pe_c Mak pe_mk Met pe_mt pe_mt0 pss_cut tCut pe_gc)
section
variable {P : Program} {w : World} {K : PySem.W.Frag} {mg : Str → Option Value} {base : Heap} {f : Addr} {fd : FuncData}
def sgn (b : Bool) : Nat := if b then 49 else 48
theorem sgn_one (b : Bool) : decide (V.str ⟨#[sgn b]⟩ = V.str "1") = b := by cases b <;> decide +kernel
theorem ok__law_height (F : FnP K "_law_height" s__law_height f fd) (T : Blt2 mg) : FnOk P w K mg base CX0 1 f fd ["_law_line", "_law_some_here"] (spHt K) := by
  refine ht_of0 ?_
  refine F.ok sc__law_height (fun vs H Q E h => ?_) (fun cdv A outer s H vs Q E hr h => ⟨_, PSs.nox 
(pss_cons (ps_set (i := 2) sc__law_height.nd rfl (.inl rfl) (pe_joinK K pe_str (pe_lc (own := [("_law_latch", 3)]) (tt := tYes) rfl sc__law_height.nd (kPI K (pi_list (pv 0))) (blkOk_by (N := ["_law_line", "_law_some_here", "_law_figures", "_law_latch", "_law_found", "_law_worth", "_law_sign"]) (sc := defScope s__law_height) (by decide +kernel)) (fun _ _ _ _ _ => pg_name (i := 3) sc__law_height.nd rfl (Or.inl rfl)) (fun _ _ _ _ _ => pts_nil) (fun _ _ _ _ _ => (pe_ix ix_str pe_str (pe_callTy call_intB (by rfl) T.b_int (by decide +kernel) (pa_cons (pe_cmpR (op_inK K) (pv 3) (pv 1) rfl) pa_nil)) (fun _ _ => rfl))))))
  (pss_cons (ps_asg (pe_tup (pa_cons pe_int (pa_cons pe_int pa_nil))) (kTup K 2 (pg_tup rfl (pgs_cons (pg_name (i := 4) sc__law_height.nd rfl (.inl rfl)) (pgs_cons (pg_name (i := 5) sc__law_height.nd rfl (.inl rfl)) pgs_nil)))))
  (pss_cons (ps_for PassesOwn.never rfl (pi_str (pe_revS (pv 2))) (pg_name (i := 6) sc__law_height.nd rfl (.inl rfl))
    (pss_cons (ps_set (i := 4) sc__law_height.nd rfl (.inl rfl) (pe_op op_add (pv 4) (pe_op op_mul (pv 5) (pe_callTy call_intB (by rfl) T.b_int (by decide +kernel) (pa_cons (pe_cmpR op_eq (pv 6) pe_str (nomark _)) pa_nil)))))
      (pss_one (ps_set (i := 5) sc__law_height.nd rfl (.inl rfl) (pe_op op_add (pv 5) (pv 5))))))
  (pss_one (ps_ret (pv 4)))))), ?_⟩)
  · obtain ⟨a, b, line, some, rfl, _⟩ := h
    rfl
  · obtain ⟨a, b, line, some_, rfl, ha, hb, nd, sub, hl, nt, q⟩ := h
    walk_at "ss"
    walk_at "ss"
    refine ⟨_, rfl, ⟨_, ha⟩, ?_⟩
    refine lc_walk wk_list (xs := line.map V.str) (fun D i acc H' => acc = ((bits line some_).take i).map (fun b => signV (sgn b)) ∧ H' = upd H D (.lst acc) ∧ H D = none) (fun D nD => ⟨rfl, rfl, nD⟩) (fun D i acc H' ⟨_, e, nD⟩ => by rw [e]; exact sqL_new nD ha) ?_ ?_
    · rintro D i x acc H' nD hx ⟨rfl, rfl, _⟩
      obtain ⟨z, hz, rfl⟩ := item_of hx
      have hi : i < line.length := (List.getElem?_eq_some_iff.mp hz).1
      walk_at "ss"
      refine ⟨rfl, ?_⟩
      walk_at "ss"
      refine iteT ?_
      walk_at "ss"
      refine st_in (sqL_new nD hb) rfl (flat_strs _) ?_
      rw [inV_strs]
      walk_at "ss"
      refine st_ixS (c := sgn (decide (z ∈ some_))) (by decide +kernel) (by cases decide (z ∈ some_) <;> decide +kernel) ?_
      have et : (bits line some_).take (i + 1) = (bits line some_).take i ++ [decide (z ∈ some_)] := by
        rw [List.take_add_one]
        unfold bits
        rw [List.getElem?_map, hz]
        rfl
      refine ⟨_, upd_same, ?_, _, rfl, ?_, nD⟩
      · rw [List.length_map, List.length_take]
        have : (bits line some_).length = line.length := List.length_map ..
        exact small1000 (by omega)
      · rw [upd_upd, et, List.map_append]
        rfl
    · rintro D acc H' nD ⟨rfl, rfl, _⟩
      have el : (bits line some_).take (line.map V.str).length = bits line some_ := List.take_of_length_le (by unfold bits; rw [List.length_map, List.length_map]; exact Nat.le_refl _)
      rw [el]
      have e1 : (bits line some_).map (fun b => signV (sgn b)) = (((bits line some_).map sgn).map fun c => (⟨#[c]⟩ : Str)).map V.str := by
        rw [List.map_map, List.map_map]
        rfl
      have lb : (bits line some_).length = line.length := List.length_map ..
      rw [e1]
      refine st_join (sqL_of upd_same) (signs_fit (by rw [List.length_map]; omega)) ?_
      rw [join_signs]
      walk_at "ss"
      refine ⟨by show 2 ≤ sizeLine; decide, fun tp ntp => ?_⟩
      refine st_gtup (sqT_of upd_same) rfl ?_
      walk_at "ss"
      refine ⟨_, rfl, ?_, ?_⟩
      · show ((bits line some_).map sgn).toArray.size ≤ sizeLine
        rw [List.size_toArray, List.length_map, lb]
        exact Nat.le_of_lt (small1000 hl)
      walk_at "ss"
      refine ⟨_, rfl, ?_⟩
      have kf : Kp [] H (upd (upd H D (.lst ((((bits line some_).map sgn).map fun c => (⟨#[c]⟩ : Str)).map V.str))) tp (.tup [.int 0, .int 1])) := ((Kp.refl H).new nD).new ntp
      generalize upd (upd H D (.lst ((((bits line some_).map sgn).map fun c => (⟨#[c]⟩ : Str)).map V.str))) tp (.tup [.int 0, .int 1]) = H3 at kf ⊢
      have er : (revS ⟨((bits line some_).map sgn).toArray⟩).cps.toList.map signV = ((bits line some_).reverse.map sgn).map signV := by
        unfold revS
        rw [List.toList_toArray, List.toList_toArray, List.map_reverse, List.map_reverse, List.map_reverse]
      refine for_walk wk_str (fun i σ H4 => ∃ y, σ = [some (.ref a), some (.ref b), some (.str ⟨((bits line some_).map sgn).toArray⟩), none, some (.int (((bits line some_).reverse.take i).foldl turnR (0, 1)).1), some (.int (((bits line some_).reverse.take i).foldl turnR (0, 1)).2), y] ∧ H4 = H3) ⟨none, rfl, rfl⟩ (fun _ _ _ _ => trivial) ?_ ?_
      · rintro i x σ H4 hx ⟨y, rfl, rfl⟩
        rw [er, List.map_map, List.getElem?_map] at hx
        obtain ⟨b1, hb1, rfl⟩ : ∃ b1, (bits line some_).reverse[i]? = some b1 ∧ x = signV (sgn b1) := by
          cases e : (bits line some_).reverse[i]? with
          | none =>
            rw [e] at hx
            exact nomatch hx
          | some b1 =>
            rw [e] at hx
            exact ⟨b1, rfl, (Option.some.inj hx).symm⟩
        walk_at "ss"
        rw [show signV (sgn b1) = V.str ⟨#[sgn b1]⟩ from rfl, sgn_one]
        walk_at "ss"
        refine st_I (Or.inr ⟨?_, ?_⟩) ?_
        · cases b1 <;> decide
        · cases b1 <;> decide
        walk_at "ss"
        refine ⟨some (signV (sgn b1)), ?_, rfl⟩
        rw [List.take_add_one, hb1, List.foldl_append]
        rfl
      · rintro σ H4 ⟨y, rfl, rfl⟩
        walk_at "ss"
        have el2 : (bits line some_).reverse.take ((revS ⟨((bits line some_).map sgn).toArray⟩).cps.toList.map signV).length = (bits line some_).reverse := List.take_of_length_le (by rw [er, List.length_map, List.length_map]; exact Nat.le_refl _)
        rw [el2, turnR_all]
        exact q _ kf
def spFirst (K : PySem.W.Frag) : Sp := fun vs H Q _ => ∃ (a b c : Addr) (line one oth : List Str), vs = [.ref a, .ref b, .ref c] ∧ SqL K H a (line.map V.str) ∧ SqL K H b (one.map V.str) ∧ SqL K H c (oth.map V.str) ∧ Q (.bl (firstU line one oth)) H
theorem ok__law_first_unlike (F : FnP K "_law_first_unlike" s__law_first_unlike f fd) (T : Blt2 mg) : FnOk P w K mg base CX0 1 f fd ["_law_line", "_law_one", "_law_other"] (spFirst K) := by
  refine F.ok sc__law_first_unlike (fun vs H Q E h => ?_) (fun cdv A outer s H vs Q E hr h => ⟨_, PSs.nox 
(pss_cons (ps_for PassesOwn.never rfl (kPI K (pi_list (pv 0))) (pg_name (i := 3) sc__law_first_unlike.nd rfl (.inl rfl))
    (pss_one (ps_if (pt_cmpR op_ne (pe_cmpR (op_inK K) (pv 3) (pv 1) rfl) (pe_cmpR (op_inK K) (pv 3) (pv 2) rfl) (nomark _))
        (pss_one (ps_ret (pe_cmpR (op_inK K) (pv 3) (pv 1) rfl)))
        pss_nil)))
  (pss_one (ps_ret pe_bl))), ?_⟩)
  · obtain ⟨a, b, c, line, one, oth, rfl, _⟩ := h
    rfl
  · obtain ⟨a, b, c, line, one, oth, rfl, ha, hb, hc, q⟩ := h
    walk_at "ss"
    refine ⟨_, rfl, ⟨_, ha⟩, ?_⟩
    refine for_walk wk_list (xs := line.map V.str) (fun i σ H2 => ∃ y, σ = [some (.ref a), some (.ref b), some (.ref c), y] ∧ H2 = H ∧ firstU line one oth = firstU (line.drop i) one oth) ⟨none, rfl, rfl, rfl⟩ (fun i σ H2 ⟨_, _, e, _⟩ => by rw [e]; exact ha) ?_ ?_
    · rintro i x σ H2 hx ⟨y, rfl, rfl, ef⟩
      obtain ⟨z, hz, rfl⟩ := item_of hx
      obtain ⟨hi, hz2⟩ := List.getElem?_eq_some_iff.mp hz
      have ed : line.drop i = z :: line.drop (i + 1) := by rw [List.drop_eq_getElem_cons hi, hz2]
      rw [ed] at ef
      walk_at "ss"
      refine st_in hb rfl (flat_strs _) ?_
      rw [inV_strs]
      walk_at "ss"
      refine st_in hc rfl (flat_strs _) ?_
      rw [inV_strs]
      walk_at "ss"
      refine ite2 (fun c1 => ?_) (fun c1 => ?_)
      · walk_at "ss"
        refine st_in hb rfl (flat_strs _) ?_
        rw [inV_strs]
        have nq : ¬ (decide (z ∈ one) = decide (z ∈ oth)) := by
          intro e
          rw [e, decide_eq_true rfl] at c1
          exact nomatch c1
        have ev : firstU line one oth = decide (z ∈ one) := by
          rw [ef]
          show (if decide (z ∈ one) = decide (z ∈ oth) then _ else _) = _
          rw [if_neg nq]
        rw [← ev]
        exact q
      · walk_at "ss"
        refine ⟨_, rfl, rfl, ?_⟩
        have nq : decide (z ∈ one) = decide (z ∈ oth) := by
          by_cases e : V.bl (decide (z ∈ one)) = V.bl (decide (z ∈ oth))
          · exact V.bl.inj e
          · rw [decide_eq_false e] at c1
            exact absurd rfl c1
        rw [ef]
        show (if decide (z ∈ one) = decide (z ∈ oth) then _ else _) = _
        rw [if_pos nq]
    · rintro σ H2 ⟨y, rfl, rfl, ef⟩
      walk_at "ss"
      rw [List.drop_of_length_le (by rw [List.length_map]; exact Nat.le_refl _)] at ef
      have ef2 : firstU line one oth = false := ef
      rw [ef2] at q
      exact q
def spLatches : Sp := fun vs H Q _ => ∃ p : Addr, vs = [.ref p] ∧ H p = some (PotO p) ∧ NoT H ∧ ∀ (l : Addr) (ws : List Str), H l = none → ws.Nodup → (∀ z ∈ ws, Nm z) → 1 ≤ ws.length → ws.length ≤ 7 → Q (.ref l) (upd H l (.lst (ws.map V.str)))
theorem ok__law_latches (F : FnP K "_law_latches" s__law_latches f fd) (T : Blt2 mg) (c__law_draw : Cal P w K mg base 1 "_law_draw" spDraw []) (c__law_name : Cal P w K mg base 2 "_law_name" spName []) : FnOk P w K mg base CX0 3 f fd ["_law_pot_here"] spLatches := by
  refine fn_fg (sp := fun vs H Q _ => ∃ p : Addr, vs = [.ref p] ∧ H p = some (PotO p) ∧ NoT H ∧ ∀ (l : Addr) (ws : List Str) (H' : Hp), H l = none → ws.Nodup → (∀ z ∈ ws, Nm z) → 1 ≤ ws.length → ws.length ≤ 7 → Kp [] H H' → H' l = some (.lst (ws.map V.str)) → Q (.ref l) H') ?_ ?_
  · refine F.ok sc__law_latches (fun vs H Q E h => ?_) (fun cdv A outer s H vs Q E hr h => ⟨_, PSs.nox 
(pss_cons (ps_set (i := 1) sc__law_latches.nd rfl (.inl rfl) (pe_lst pa_nil))
  (pss_cons (ps_for PassesOwn.never rfl (pi_range1 (by rfl) T.b_range (pa_cons (pe_ix (ix_listK K) (pe_lst (pa_cons pe_int (pa_cons pe_int (pa_cons pe_int (pa_cons (pe_op op_add pe_int (pe_c c__law_draw hr (by decide) (by rfl) (pa_cons (pv 0) (pa_cons pe_int pa_nil)))) pa_nil))))) (pe_c c__law_draw hr (by decide) (by rfl) (pa_cons (pv 0) (pa_cons pe_int pa_nil))) (fun _ _ => rfl)) pa_nil)) (pg_name (i := 2) sc__law_latches.nd rfl (.inl rfl))
    (pss_one (ps_expr (pe_c c__law_name hr (by decide) (by rfl) (pa_cons (pv 0) (pa_cons (pv 1) pa_nil))))))
  (pss_one (ps_ret (pv 1))))), ?_⟩)
    · obtain ⟨p, rfl, _⟩ := h
      rfl
    · obtain ⟨p, rfl, hp, nt, q⟩ := h
      walk_at "ss"
      refine ⟨by show 0 ≤ sizeLine; decide, fun l nl => ?_⟩
      walk_at "ss"
      refine ⟨p, 7, rfl, old_upd nl hp, nt.lst, by decide, by decide, fun d0 h0 h1 => ?_⟩
      walk_at "ss"
      refine ⟨by show 4 ≤ sizeLine; decide, fun l1 n1 => ?_⟩
      walk_at "ss"
      refine ⟨p, 4, rfl, old_upd n1 (old_upd nl hp), nt.lst.lst, by decide, by decide, fun d1 h2 h3 => ?_⟩
      obtain ⟨sv, hsv, esv⟩ := at_some (xs := [.int 7, .int 1, .int 3, .int (1 + d0)]) h2 h3
      refine st_ixL (sqL_of upd_same) esv ?_
      obtain ⟨n, rfl, hn1, hn2⟩ : ∃ n : Nat, sv = .int (n : Int) ∧ 1 ≤ n ∧ n ≤ 7 := by
        simp only [List.mem_cons, List.not_mem_nil, or_false] at hsv
        rcases hsv with rfl | rfl | rfl | rfl
        · exact ⟨7, rfl, by decide, by decide⟩
        · exact ⟨1, rfl, by decide, by decide⟩
        · exact ⟨3, rfl, by decide, by decide⟩
        · exact ⟨(1 + d0).toNat, by rw [Int.toNat_of_nonneg (by omega)], by omega, by omega⟩
      have hl1 : upd (upd H l (.lst [])) l1 (.lst [.int 7, .int 1, .int 3, .int (1 + d0)]) l = some (.lst []) := old_upd n1 upd_same
      have k1 : Kp [] H (upd (upd H l (.lst [])) l1 (.lst [.int 7, .int 1, .int 3, .int (1 + d0)])) := ((Kp.refl H).new nl).new n1
      have nt1 : NoT (upd (upd H l (.lst [])) l1 (.lst [.int 7, .int 1, .int 3, .int (1 + d0)])) := nt.lst.lst
      generalize upd (upd H l (.lst [])) l1 (.lst [.int 7, .int 1, .int 3, .int (1 + d0)]) = H1 at hl1 k1 nt1 ⊢
      walk_at "ss"
      refine ⟨_, rfl, by omega, by omega, ?_⟩
      rw [Int.toNat_natCast]
      refine for_walk wk_range (fun i σ H2 => ∃ (y : Option V) (ws : List Str), σ = [some (.ref p), some (.ref l), y] ∧ ws.length = i ∧ ws.Nodup ∧ (∀ z ∈ ws, Nm z) ∧ H2 l = some (.lst (ws.map V.str)) ∧ Kp [] H H2 ∧ NoT H2) ⟨none, [], rfl, rfl, List.nodup_nil, by simp, hl1, k1, nt1⟩ (fun _ _ _ _ => trivial) ?_ ?_
      · rintro i x σ H2 hx ⟨y, ws, rfl, hi, nd, nm, hl2, k2, nt2⟩
        have hi7 : i < 7 := by
          have := (List.getElem?_eq_some_iff.mp hx).1
          rw [List.length_map, List.length_range] at this
          omega
        walk_at "ss"
        refine ⟨p, l, ws, rfl, k2.same _ _ hp, hl2, nt2, by omega, fun z hz hz2 => ?_⟩
        refine ⟨_, ws ++ [z], rfl, by simp [hi], ?_, ?_, upd_same, k2.own nl, nt2.lst⟩
        · exact List.nodup_append.mpr ⟨nd, by simp, fun u hu v hv e => hz2 (by rw [List.mem_singleton] at hv; rw [← hv, ← e]; exact hu)⟩
        · intro u hu
          rcases List.mem_append.mp hu with c | c
          · exact nm u c
          · rw [List.mem_singleton] at c
            rw [c]
            exact hz
      · rintro σ H2 ⟨y, ws, rfl, hi, nd, nm, hl2, k2, nt2⟩
        rw [List.length_map, List.length_range] at hi
        walk_at "ss"
        exact q l ws H2 nl nd nm (by omega) (by omega) k2 hl2
  · rintro vs H Q E ⟨p, rfl, hp, nt, q⟩
    exact ⟨p, rfl, hp, nt, fun l ws H' nl nd nm h1 h2 k e => ⟨_, Fg.one k.same nt nl e trivial (fun _ => trivial), q l ws nl nd nm h1 h2⟩⟩
end
end K44
namespace K44
open PySem PySem.Spec PyProof.Rows L2 TB
open C8 (Cal pe_c Mak pe_mk Met pe_mt pe_mt0 pss_cut tCut pe_gc)
abbrev s__law_sets : Stmt := top 11
theorem sc__law_sets : FnScope ["_law_line", "_law_found", "_law_latch", "_law_one"] ["_law_line"] (defScope s__law_sets) := ⟨rfl, rfl, rfl, by decide +kernel, rfl, by decide +kernel, by decide +kernel⟩
section
variable {P : Program} {w : World} {K : PySem.W.Frag} {mg : Str → Option Value} {base : Heap} {f : Addr} {fd : FuncData}
/-- some of the locks, in a drawn order -/
def spSome (K : PySem.W.Frag) : Sp := fun vs H Q _ => ∃ (p a : Addr) (ws : List Str), vs = [.ref p, .ref a] ∧ H p = some (PotO p) ∧ SqL K H a (ws.map V.str) ∧ NoT H ∧ ws.length ≤ 1000 ∧
  ∀ (l : Addr) (zs rest : List Str), H l = none → (zs ++ rest).Perm ws → Q (.ref l) (upd H l (.lst (zs.map V.str)))
theorem ok__law_some (F : FnP K "_law_some" s__law_some f fd) (T : Blt2 mg) (c__law_draw : Cal P w K mg base 1 "_law_draw" spDraw []) : FnOk P w K mg base CX0 2 f fd ["_law_pot_here", "_law_latches_here"] (spSome K) := by
  refine fn_fg (sp := fun vs H Q _ => ∃ (p a : Addr) (ws : List Str), vs = [.ref p, .ref a] ∧ H p = some (PotO p) ∧ SqL K H a (ws.map V.str) ∧ NoT H ∧ ws.length ≤ 1000 ∧
    ∀ (l : Addr) (zs rest : List Str) (H' : Hp), H l = none → (zs ++ rest).Perm ws → Kp [] H H' → H' l = some (.lst (zs.map V.str)) → Q (.ref l) H') ?_ ?_
  · refine F.ok sc__law_some (fun vs H Q E h => ?_) (fun cdv A outer s H vs Q E hr h => ⟨_, PSs.nox 
(pss_cons (ps_par (i := 2) (j := 3) rfl sc__law_some.nd rfl rfl (by decide) rfl rfl (pa_cons (pe_callTy (call_listK K) (by rfl) T.b_list (by decide +kernel) (pa_cons (pv 1) pa_nil)) (pa_cons (pe_lst pa_nil) pa_nil)) rfl)
  (pss_cons (ps_for PassesOwn.never rfl (pi_range1 (by rfl) T.b_range (pa_cons (pe_c c__law_draw hr (by decide) (by rfl) (pa_cons (pv 0) (pa_cons (pe_op op_add (pe_callB (call_lenK K) (by rfl) T.b_len PySem.boot_len (pa_cons (pv 1) pa_nil)) pe_int) pa_nil))) pa_nil)) (pg_name (i := 4) sc__law_some.nd rfl (.inl rfl))
    (pss_one (ps_expr (kBM K (pe_bm PySem.F.plainAttrs_list PySem.F.slot_list_append PySem.F.type_list_append mt_append (pv 3) (pa_cons (kBM K (pe_bm PySem.F.plainAttrs_list PySem.F.slot_list_pop PySem.F.type_list_pop mt_popAt (pv 2) (pa_cons (pe_c c__law_draw hr (by decide) (by rfl) (pa_cons (pv 0) (pa_cons (pe_callB (call_lenK K) (by rfl) T.b_len PySem.boot_len (pa_cons (pv 2) pa_nil)) pa_nil))) pa_nil))) pa_nil))))))
  (pss_one (ps_ret (pv 3))))), ?_⟩)
    · obtain ⟨p, a, ws, rfl, _⟩ := h
      rfl
    · obtain ⟨p, a, ws, rfl, hp, ha, nt, hl, q⟩ := h
      walk_at "ss"
      refine st_list ha fun lf nlf => ?_
      walk_at "ss"
      refine ⟨by show 0 ≤ sizeLine; decide, fun fo nfo => ?_⟩
      walk_at "ss"
      refine st_len (sqL_new nfo (sqL_new nlf ha)) ?_
      walk_at "ss"
      refine ⟨p, _, rfl, old_upd nfo (old_upd nlf hp), nt.lst.lst, by omega, by rw [List.length_map]; omega, fun d h0 h1 => ?_⟩
      rw [List.length_map] at h1
      walk_at "ss"
      refine ⟨_, rfl, by omega, by omega, ?_⟩
      have nfl : lf ≠ fo := by
        intro e
        rw [← e, upd_same] at nfo
        exact nomatch nfo
      have nfo2 : H fo = none := (nil_upd nfo).2
      have k1 : Kp [] H (upd (upd H lf (.lst (ws.map V.str))) fo (.lst [])) := ((Kp.refl H).new nlf).new nfo
      refine for_walk wk_range (fun i σ H2 => ∃ (y : Option V) (zs rest : List Str), σ = [some (.ref p), some (.ref a), some (.ref lf), some (.ref fo), y] ∧ zs.length = i ∧ (zs ++ rest).Perm ws ∧ H2 lf = some (.lst (rest.map V.str)) ∧ H2 fo = some (.lst (zs.map V.str)) ∧ Kp [] H H2 ∧ NoT H2)
        ⟨none, [], ws, rfl, rfl, List.Perm.refl _, old_upd nfo upd_same, upd_same, k1, nt.lst.lst⟩ (fun _ _ _ _ => trivial) ?_ ?_
      · rintro i x σ H2 hx ⟨y, zs, rest, rfl, hi, pm, h2l, h2f, k2, nt2⟩
        have hin : i < ws.length := by
          have := (List.getElem?_eq_some_iff.mp hx).1
          rw [List.length_map, List.length_range] at this
          omega
        have hlen := pm.length_eq
        rw [List.length_append] at hlen
        walk_at "ss"
        refine ⟨Or.inl ⟨rfl, _, sqL_of h2f⟩, ?_⟩
        walk_at "ss"
        refine ⟨Or.inl ⟨rfl, _, sqL_of h2l⟩, ?_⟩
        walk_at "ss"
        refine st_len (sqL_of h2l) ?_
        walk_at "ss"
        refine ⟨p, _, rfl, k2.same _ _ hp, nt2, by rw [List.length_map]; omega, by rw [List.length_map]; omega, fun d2 h3 h4 => ?_⟩
        rw [List.length_map] at h4
        obtain ⟨j, rfl⟩ : ∃ j : Nat, d2 = (j : Int) := ⟨d2.toNat, by omega⟩
        have hj : j < rest.length := by omega
        walk_at "ss"
        refine ⟨lf, rest.map V.str, j, j, .str rest[j], rfl, rfl, h2l, by omega, by omega, ?_, ?_, ?_⟩
        · rw [List.length_map]
          exact (ixN_seq (Evl.ixN_nat hj)).1
        · rw [List.getElem?_map, List.getElem?_eq_getElem hj]
          rfl
        walk_at "ss"
        refine st_append (oth_upd nfl.symm h2f) (by rw [List.length_map]; exact small1000 (by omega)) ?_
        walk_at "ss"
        refine ⟨_, zs ++ [rest[j]], rest.eraseIdx j, rfl, by simp [hi], ?_, ?_, ?_, ?_, nt2.lst.lst⟩
        · refine List.Perm.trans ?_ pm
          rw [List.append_assoc]
          refine List.Perm.append_left _ ?_
          exact erase_perm hj
        · rw [upd_ne nfl, upd_same, erase_map]
        · rw [upd_same, List.map_append]
          rfl
        · exact (k2.own nlf).own nfo2
      · rintro σ H2 ⟨y, zs, rest, rfl, hi, pm, h2l, h2f, k2, nt2⟩
        walk_at "ss"
        exact q fo zs rest H2 nfo2 pm k2 h2f
  · rintro vs H Q E ⟨p, a, ws, rfl, hp, ha, nt, hl, q⟩
    exact ⟨p, a, ws, rfl, hp, ha, nt, hl, fun l zs rest H' nl pm k e => ⟨_, Fg.one k.same nt nl e trivial (fun _ => trivial), q l zs rest nl pm⟩⟩
/-- lists of locks, the first of them empty -/
structure Good (line : List Str) (wss : List (List Str)) : Prop where
  nd : ∀ ws ∈ wss, ws.Nodup
  sub : ∀ ws ∈ wss, ∀ z ∈ ws, z ∈ line
def spSets (K : PySem.W.Frag) : Sp := fun vs H Q _ => ∃ (a : Addr) (line : List Str), vs = [.ref a] ∧ SqL K H a (line.map V.str) ∧ line.Nodup ∧ line.length ≤ 1000 ∧ NoT H ∧
  ∀ (l : Addr) (H' : Hp) (us : List V) (wss : List (List Str)), H l = none → Kp [] H H' → NoT H' → H' l = some (.lst us) → Paired (LL H') us wss → Good line wss → wss.length ≤ 16 → (∃ r, wss = [] :: r) → Q (.ref l) H'
theorem ok__law_sets (F : FnP K "_law_sets" s__law_sets f fd) : FnOk P w K mg base CX0 1 f fd ["_law_line"] (spSets K) := by
  refine F.ok sc__law_sets (fun vs H Q E h => ?_) (fun cdv A outer s H vs Q E hr h => ⟨_, PSs.nox 
(pss_cons (ps_set (i := 1) sc__law_sets.nd rfl (.inl rfl) (pe_lst (pa_cons (pe_lst pa_nil) pa_nil)))
  (pss_cons (ps_for PassesOwn.never rfl (kPI K (pi_list (pe_slice (sl_listK K) (pv 0) po_none (po_some pe_int)))) (pg_name (i := 2) sc__law_sets.nd rfl (.inr rfl))
    (pss_one (ps_set (i := 1) sc__law_sets.nd rfl (.inl rfl) (pe_op op_cat (pv 1) (pe_lc (own := [("_law_one", 3)]) (tt := tYes) rfl sc__law_sets.nd (kPI K (pi_list (pv 1))) (blkOk_by (N := ["_law_line", "_law_found", "_law_latch", "_law_one"]) (sc := defScope s__law_sets) (by decide +kernel)) (fun _ _ _ _ _ => pg_name (i := 3) sc__law_sets.nd rfl (Or.inl rfl)) (fun _ _ _ _ _ => pts_nil) (fun _ _ _ _ _ => (pe_op op_cat (pv 3) (pe_lst (pa_cons (pv 2) pa_nil)))))))))
  (pss_one (ps_ret (pv 1))))), ?_⟩)
  · obtain ⟨a, line, rfl, _⟩ := h
    rfl
  · obtain ⟨a, line, rfl, ha, nd, hl, nt, q⟩ := h
    walk_at "ss"
    refine ⟨by show 0 ≤ sizeLine; decide, fun e0 ne0 => ?_⟩
    walk_at "ss"
    refine ⟨by show 1 ≤ sizeLine; decide, fun f0 nf0 => ?_⟩
    walk_at "ss"
    refine ⟨_, _, rfl, sqL_new nf0 (sqL_new ne0 ha), fun c nc => ?_⟩
    rw [show (some (4 : Int)) = some ((4 : Nat) : Int) from rfl, cut_to, ← List.map_take]
    refine ⟨_, rfl, ⟨_, sqL_of upd_same⟩, ?_⟩
    have nf1 : H f0 = none := (nil_upd nf0).2
    have hc0 : upd (upd (upd H e0 (.lst [])) f0 (.lst [.ref e0])) c (.lst ((line.take 4).map V.str)) c = some (.lst ((line.take 4).map V.str)) := upd_same
    have k0 : Kp [] H (upd (upd (upd H e0 (.lst [])) f0 (.lst [.ref e0])) c (.lst ((line.take 4).map V.str))) := (((Kp.refl H).new ne0).new nf0).new nc
    have hf0 : upd (upd (upd H e0 (.lst [])) f0 (.lst [.ref e0])) c (.lst ((line.take 4).map V.str)) f0 = some (.lst [.ref e0]) := old_upd nc upd_same
    have he0 : upd (upd (upd H e0 (.lst [])) f0 (.lst [.ref e0])) c (.lst ((line.take 4).map V.str)) e0 = some (.lst []) := old_upd nc (old_upd nf0 upd_same)
    have nt0 : NoT (upd (upd (upd H e0 (.lst [])) f0 (.lst [.ref e0])) c (.lst ((line.take 4).map V.str))) := nt.lst.lst.lst
    have nc0 : H c = none := (nil_upd (nil_upd nc).2).2
    generalize upd (upd (upd H e0 (.lst [])) f0 (.lst [.ref e0])) c (.lst ((line.take 4).map V.str)) = H0 at hc0 k0 hf0 he0 nt0 ⊢
    refine for_walk wk_list (xs := (line.take 4).map V.str) (fun i σ H2 => ∃ (y : Option V) (l : Addr) (us : List V) (wss : List (List Str)), σ = [some (.ref a), some (.ref l), y, none] ∧ H l = none ∧ Kp [] H0 H2 ∧ NoT H2 ∧ H2 l = some (.lst us) ∧ Paired (LL H2) us wss ∧ Good (line.take i) wss ∧ wss.length = 2 ^ i ∧ ∃ r, wss = [] :: r)
      ⟨none, f0, [.ref e0], [[]], rfl, nf1, Kp.refl _, nt0, hf0, .cons ⟨e0, rfl, he0⟩ .nil, ⟨by simp, by simp⟩, rfl, [], rfl⟩ (fun i σ H2 ⟨_, _, _, _, _, _, k, _⟩ => sqL_of (k.same _ _ hc0)) ?_ ?_
    · rintro i x σ H2 hx ⟨y, l, us, wss, rfl, nl, k2, nt2, h2l, pr, gd, hlen, r, er⟩
      obtain ⟨z, hz, rfl⟩ := item_of hx
      have hi4 : i < 4 := by
        have := (List.getElem?_eq_some_iff.mp hz).1
        rw [List.length_take] at this
        omega
      rw [List.getElem?_take_of_lt hi4] at hz
      have lu := paired_len pr
      have h16 : wss.length ≤ 8 := by
        rw [hlen]
        have : i = 0 ∨ i = 1 ∨ i = 2 ∨ i = 3 := by omega
        rcases this with rfl | rfl | rfl | rfl <;> decide
      walk_at "ss"
      refine ⟨_, rfl, ⟨_, sqL_of h2l⟩, ?_⟩
      refine lc_walk wk_list (xs := us) (fun D j acc H3 => H2 D = none ∧ Kp [] H2 H3 ∧ NoT H3 ∧ H3 D = some (.lst acc) ∧ Paired (LL H3) acc ((wss.take j).map (· ++ [z])) ∧ ∀ u ∈ acc, u ≠ .ref D) (fun D nD => ⟨nD, (Kp.refl H2).new nD, nt2.lst, upd_same, .nil, by simp⟩) (fun D j acc H3 ⟨_, k, _⟩ => sqL_of (k.same _ _ h2l)) ?_ ?_
      · rintro D j x acc H3 nD hx2 ⟨_, k3, nt3, h3D, pr3, ne3⟩
        obtain ⟨ws, hws, b, rfl, hb⟩ := paired_get pr hx2
        have hb3 := k3.same _ _ hb
        have hjw : j < wss.length := (List.getElem?_eq_some_iff.mp hws).1
        have lws : ws.length ≤ 4 := by
          have h1 := nodup_le (gd.nd ws (List.mem_of_getElem? hws)) (gd.sub ws (List.mem_of_getElem? hws))
          rw [List.length_take] at h1
          omega
        walk_at "ss"
        refine ⟨rfl, ?_⟩
        walk_at "ss"
        refine iteT ?_
        walk_at "ss"
        refine ⟨by show 1 ≤ sizeLine; decide, fun t nt_ => ?_⟩
        refine st_cat (old_upd nt_ hb3) upd_same (by rw [List.length_map]; exact Nat.le_of_lt (small1000 (by show ws.length + 1 ≤ 1000; omega))) fun p np => ?_
        have kk : Kp [] H3 (upd (upd H3 t (.lst [.str z])) p (.lst (ws.map V.str ++ [.str z]))) := ((Kp.refl H3).new nt_).new np
        have hpp : upd (upd H3 t (.lst [.str z])) p (.lst (ws.map V.str ++ [.str z])) p = some (.lst (ws.map V.str ++ [.str z])) := upd_same
        have nt4 : NoT (upd (upd H3 t (.lst [.str z])) p (.lst (ws.map V.str ++ [.str z]))) := nt3.lst.lst
        have npD : p ≠ D := by
          intro e
          rw [e, old_upd nt_ h3D] at np
          exact nomatch np
        generalize upd (upd H3 t (.lst [.str z])) p (.lst (ws.map V.str ++ [.str z])) = H4 at kk hpp nt4 ⊢
        refine ⟨acc, kk.same _ _ h3D, ?_, acc ++ [.ref p], nD, (k3.trans kk).own nD, nt4.lst, upd_same, ?_, ?_⟩
        · have := paired_len pr3
          rw [List.length_map, List.length_take] at this
          exact small1000 (by omega)
        · rw [List.take_add_one, hws, List.map_append]
          refine paired_app (LL.over kk pr3 ne3) (.cons ⟨p, rfl, ?_⟩ .nil)
          rw [upd_ne npD, hpp, List.map_append]
          rfl
        · intro u hu
          rcases List.mem_append.mp hu with c | c
          · exact ne3 u c
          · rw [List.mem_singleton] at c
            rw [c]
            exact fun e => npD (V.ref.inj e)
      · rintro D acc H3 nD ⟨_, k3, nt3, h3D, pr3, ne3⟩
        rw [List.take_of_length_le (by omega)] at pr3
        have lp := paired_len pr3
        rw [List.length_map] at lp
        refine st_cat (k3.same _ _ h2l) h3D (Nat.le_of_lt (small1000 (by omega))) fun p np => ?_
        walk_at "ss"
        have np0 : H p = none := k0.same.free (k2.same.free (k3.same.free np))
        refine ⟨_, p, us ++ acc, wss ++ wss.map (· ++ [z]), rfl, np0, (k2.trans k3).new np, nt3.lst, upd_same, ?_, ?_, ?_, r ++ wss.map (· ++ [z]), ?_⟩
        · exact LL.all ((Kp.refl H3).new np) (paired_app (LL.all k3 pr) pr3)
        · have et : line.take (i + 1) = line.take i ++ [z] := by rw [List.take_add_one, hz]; rfl
          have nz : z ∉ line.take i := by
            intro hm
            obtain ⟨j1, hj1⟩ := List.mem_iff_getElem?.mp hm
            have hji : j1 < i := by
              have := (List.getElem?_eq_some_iff.mp hj1).1
              rw [List.length_take] at this
              omega
            rw [List.getElem?_take_of_lt hji] at hj1
            exact absurd (nd_ix nd hj1 hz) (by omega)
          refine ⟨fun ws hm => ?_, fun ws hm u hu => ?_⟩
          · rcases List.mem_append.mp hm with c1 | c1
            · exact gd.nd ws c1
            · obtain ⟨w1, hw1, rfl⟩ := List.mem_map.mp c1
              exact List.nodup_append.mpr ⟨gd.nd w1 hw1, by simp, fun u hu v hv e => nz (by rw [List.mem_singleton] at hv; rw [← hv, ← e]; exact gd.sub w1 hw1 u hu)⟩
          · rw [et]
            rcases List.mem_append.mp hm with c1 | c1
            · exact List.mem_append_left _ (gd.sub ws c1 u hu)
            · obtain ⟨w1, hw1, rfl⟩ := List.mem_map.mp c1
              rcases List.mem_append.mp hu with c2 | c2
              · exact List.mem_append_left _ (gd.sub w1 hw1 u c2)
              · exact List.mem_append_right _ c2
        · rw [List.length_append, List.length_map, hlen, Nat.pow_succ]
          omega
        · rw [er]
          rfl
    · rintro σ H2 ⟨y, l, us, wss, rfl, nl, k2, nt2, h2l, pr, gd, hlen, r, er⟩
      walk_at "ss"
      refine q l H2 us wss nl (k0.trans k2) nt2 h2l pr ⟨gd.nd, fun ws hm z hz => List.mem_of_mem_take (gd.sub ws hm z hz)⟩ ?_ ⟨r, er⟩
      rw [hlen, List.length_map, List.length_take]
      have h4 : min 4 line.length ≤ 4 := Nat.min_le_left _ _
      exact Nat.pow_le_pow_right (by decide) h4
end
end K44
namespace K44
open PySem PySem.Spec PyProof.Rows L2 TB
open C8 (Cal pe_c Mak pe_mk Met pe_mt pe_mt0 pss_cut tCut pe_gc)
abbrev s__law_right : Stmt := top 13
theorem sc__law_right : FnScope ["_law_pot_here", "_law_line", "_law_some_here", "_law_turn", "_law_kept", "_law_told", "_law_one", "_law_k", "_law_other"] ["_law_pot_here", "_law_line"] (defScope s__law_right) := ⟨rfl, rfl, rfl, by decide +kernel, rfl, by decide +kernel, by decide +kernel⟩
section
variable {P : Program} {w : World} {K : PySem.W.Frag} {mg : Str → Option Value} {base : Heap} {f : Addr} {fd : FuncData}
/-- a line of names stands at a: all is right -/
def spRight0 : Sp := fun vs H Q _ => ∃ (p a : Addr) (line : List Str), vs = [.ref p, .ref a] ∧ H p = some (PotO p) ∧ H a = some (.lst (line.map V.str)) ∧ NoT H ∧ line.Nodup ∧ (∀ z ∈ line, Nm z) ∧ line.length ≤ 20 ∧ ∀ H', Kp [] H H' → Q (.bl true) H'
theorem ht_small {line ws : List Str} (h : line.length ≤ 20) : (ht line ws).natAbs < 10 ^ 12 := by
  have h1 := htB_nn (bits line ws)
  have h2 := htB_lt (bits line ws)
  rw [show (bits line ws).length = line.length from List.length_map ..] at h2
  have h3 : (2 : Int) ^ line.length ≤ 2 ^ 20 := by
    have h4 : (2 : Nat) ^ line.length ≤ 2 ^ 20 := Nat.pow_le_pow_right (by decide) h
    have h5 : (((2 : Nat) ^ line.length : Nat) : Int) ≤ ((2 ^ 20 : Nat) : Int) := Int.ofNat_le.mpr h4
    simpa using h5
  unfold ht
  have e : (2 : Int) ^ 20 = 1048576 := by decide
  omega
theorem ok__law_right0 (F : FnP K "_law_right" s__law_right f fd) (T : Blt2 mg) (c__law_draw : Cal P w K mg base 1 "_law_draw" spDraw []) (c__law_sets : Cal P w K mg base 1 "_law_sets" (spSets K) []) (c__law_some : Cal P w K mg base 2 "_law_some" (spSome K) [])
    (c_height_of : Cal P w K mg base 1 "height_of" (spHt K) []) (c__law_height : Cal P w K mg base 1 "_law_height" (spHt K) []) (c__law_first_unlike : Cal P w K mg base 1 "_law_first_unlike" (spFirst K) []) :
    FnG P w K mg base CX0 3 f fd ["_law_pot_here", "_law_line"] spRight0 := by
  refine fng_of F sc__law_right (fun vs H Q E h => ?_) (fun cdv A outer s H vs Q E g hr h => ⟨_, PSs.nox 
(pss_cons (ps_set (i := 2) sc__law_right.nd rfl (.inl rfl) (pe_op op_cat (pe_op op_cat (pe_c c__law_sets hr (by decide) (by rfl) (pa_cons (pv 1) pa_nil)) (pe_lc (own := [("_law_turn", 3)]) (tt := tYes) rfl sc__law_right.nd (pi_range1 (by rfl) T.b_range (pa_cons pe_int pa_nil)) (blkOk_by (N := ["_law_pot_here", "_law_line", "_law_some_here", "_law_turn", "_law_kept", "_law_told", "_law_one", "_law_k", "_law_other"]) (sc := defScope s__law_right) (by decide +kernel)) (fun _ _ _ _ _ => pg_name (i := 3) sc__law_right.nd rfl (Or.inl rfl)) (fun _ _ _ _ _ => pts_nil) (fun _ _ _ _ _ => (pe_c c__law_some hr (by decide) (by rfl) (pa_cons (pv 0) (pa_cons (pv 1) pa_nil)))))) (pe_lst (pa_cons (pe_callTy (call_listK K) (by rfl) T.b_list (by decide +kernel) (pa_cons (pv 1) pa_nil)) pa_nil))))
  (pss_cons (ps_set (i := 4) sc__law_right.nd rfl (.inl rfl) (pe_callB (call_reprD K hr.units g) (by rfl) T.b_repr (by decide +kernel) (pa_cons (pe_lst (pa_cons (pv 1) (pa_cons (pv 2) pa_nil))) pa_nil)))
  (pss_cons (ps_setLc (i := 5) (own := [("_law_one", 6)]) (tt := tYes) rfl sc__law_right.nd rfl rfl (sw_true rfl rfl rfl (by decide +kernel)) (kPI K (pi_list (pv 2))) (blkOk_by (N := ["_law_pot_here", "_law_line", "_law_some_here", "_law_turn", "_law_kept", "_law_told", "_law_one", "_law_k", "_law_other"]) (sc := defScope s__law_right) (by decide +kernel)) (fun _ _ _ _ _ => pg_name (i := 6) sc__law_right.nd rfl (Or.inl rfl)) (fun _ _ _ _ _ => pts_nil) (fun _ _ _ _ _ => (pe_c c_height_of hr (by decide) (by rfl) (pa_cons (pv 1) (pa_cons (pv 6) pa_nil)))))
  (pss_cons (ps_if (PW.pt (pw_or (pt_cmpR op_ne (pe_callB (call_reprD K hr.units g) (by rfl) T.b_repr (by decide +kernel) (pa_cons (pv 5) pa_nil)) (pe_callB (call_reprD K hr.units g) (by rfl) T.b_repr (by decide +kernel) (pa_cons (pe_lc (own := [("_law_one", 6)]) (tt := tYes) rfl sc__law_right.nd (kPI K (pi_list (pv 2))) (blkOk_by (N := ["_law_pot_here", "_law_line", "_law_some_here", "_law_turn", "_law_kept", "_law_told", "_law_one", "_law_k", "_law_other"]) (sc := defScope s__law_right) (by decide +kernel)) (fun _ _ _ _ _ => pg_name (i := 6) sc__law_right.nd rfl (Or.inl rfl)) (fun _ _ _ _ _ => pts_nil) (fun _ _ _ _ _ => (pe_c c__law_height hr (by decide) (by rfl) (pa_cons (pv 1) (pa_cons (pv 6) pa_nil))))) pa_nil)) (nomark _)) (pw_or (pt_cmpR op_ne (pe_ix (ix_listK K) (pv 5) pe_int (fun _ _ => rfl)) pe_int (nomark _)) (pw_or1 (pt_cmpR op_ne (pe_callB (call_reprD K hr.units g) (by rfl) T.b_repr (by decide +kernel) (pa_cons (pe_lst (pa_cons (pv 1) (pa_cons (pv 2) pa_nil))) pa_nil)) (pv 4) (nomark _))))))
    (pss_one (ps_ret pe_bl))
    pss_nil)
  (pss_cons (ps_for PassesOwn.never rfl (kPEn K (pi_enum (by rfl) T.b_enumerate (pa_cons (pv 2) pa_nil))) (kTup K 2 (pg_tup rfl (pgs_cons (pg_name (i := 7) sc__law_right.nd rfl (.inl rfl)) (pgs_cons (pg_name (i := 6) sc__law_right.nd rfl (.inl rfl)) pgs_nil))))
    (pss_cons (ps_set (i := 8) sc__law_right.nd rfl (.inl rfl) (pe_ix (ix_listK K) (pv 2) (pe_c c__law_draw hr (by decide) (by rfl) (pa_cons (pv 0) (pa_cons (pe_callB (call_lenK K) (by rfl) T.b_len PySem.boot_len (pa_cons (pv 2) pa_nil)) pa_nil))) (fun _ _ => rfl)))
      (pss_cons (ps_if (pt_cmpR op_ne (pe_cmpR op_gt (pe_ix (ix_listK K) (pv 5) (pv 7) (fun _ _ => rfl)) (pe_c c_height_of hr (by decide) (by rfl) (pa_cons (pv 1) (pa_cons (pv 8) pa_nil))) (nomark _)) (pe_c c__law_first_unlike hr (by decide) (by rfl) (pa_cons (pv 1) (pa_cons (pv 6) (pa_cons (pv 8) pa_nil)))) (nomark _))
        (pss_one (ps_ret pe_bl))
        pss_nil)
      (pss_one (ps_if (pt_cmpR op_ne (pe_c c_height_of hr (by decide) (by rfl) (pa_cons (pv 1) (pa_cons (kRevL K (pe_revL (pv 6))) pa_nil))) (pe_ix (ix_listK K) (pv 5) (pv 7) (fun _ _ => rfl)) (nomark _))
        (pss_one (ps_ret pe_bl))
        pss_nil)))))
  (pss_one (ps_ret pe_bl))))))), ?_⟩)
  · obtain ⟨p, a, line, rfl, _⟩ := h
    rfl
  · obtain ⟨p, a, line, rfl, hp, ha, nt, nd, nm, hl, q⟩ := h
    walk_at "ss"
    refine ⟨a, line, rfl, sqL_of ha, nd, by omega, nt, fun l1 H1 us1 wss1 nl1 k1 nt1 h1l pr1 gd1 len1 hd1 => ?_⟩
    walk_at "ss"
    refine ⟨_, rfl, by decide, by decide, ?_⟩
    refine lc_walk wk_range (fun D i acc H2 => ∃ wss : List (List Str), Kp [] H1 H2 ∧ NoT H2 ∧ H2 D = some (.lst acc) ∧ Paired (LL H2) acc wss ∧ (∀ u ∈ acc, u ≠ .ref D) ∧ wss.length = i ∧ Good line wss) (fun D nD => ⟨[], (Kp.refl H1).new nD, nt1.lst, upd_same, .nil, by simp, rfl, ⟨by simp, by simp⟩⟩) (fun _ _ _ _ _ => trivial) ?_ ?_
    · rintro D i x acc H2 nD hx ⟨wss, k2, nt2, h2D, pr2, ne2, hi, gd2⟩
      have hi6 : i < 6 := by
        have := (List.getElem?_eq_some_iff.mp hx).1
        rw [List.length_map, List.length_range] at this
        exact this
      walk_at "ss"
      refine ⟨rfl, ?_⟩
      walk_at "ss"
      refine iteT ?_
      walk_at "ss"
      refine ⟨p, a, line, rfl, (k1.trans k2).same _ _ hp, sqL_of ((k1.trans k2).same _ _ ha), nt2, by omega, fun l zs rest nl pm => ?_⟩
      have ndz := List.nodup_append.mp (pm.nodup_iff.mpr nd)
      have nlD : l ≠ D := by
        intro e
        rw [e, h2D] at nl
        exact nomatch nl
      refine ⟨acc, old_upd nl h2D, ?_, acc ++ [.ref l], wss ++ [zs], (k2.new nl).own nD, nt2.lst.lst, upd_same, ?_, ?_, by simp [hi], ?_⟩
      · have := paired_len pr2
        exact small1000 (by omega)
      · refine paired_app (LL.over ((Kp.refl H2).new nl) pr2 ne2) (.cons ⟨l, rfl, ?_⟩ .nil)
        rw [upd_ne nlD, upd_same]
      · intro u hu
        rcases List.mem_append.mp hu with c | c
        · exact ne2 u c
        · rw [List.mem_singleton] at c
          rw [c]
          exact fun e => nlD (V.ref.inj e)
      · refine ⟨fun ws hm => ?_, fun ws hm z hz => ?_⟩
        · rcases List.mem_append.mp hm with c | c
          · exact gd2.nd ws c
          · rw [List.mem_singleton] at c
            rw [c]
            exact ndz.1
        · rcases List.mem_append.mp hm with c | c
          · exact gd2.sub ws c z hz
          · rw [List.mem_singleton] at c
            rw [c] at hz
            exact pm.mem_iff.mp (List.mem_append_left _ hz)
    · rintro D acc H2 nD ⟨wss2, k2, nt2, h2D, pr2, ne2, len2, gd2⟩
      rw [List.length_map, List.length_range] at len2
      have lu1 := paired_len pr1
      have la := paired_len pr2
      refine st_cat (k2.same _ _ h1l) h2D (Nat.le_of_lt (small1000 (by omega))) fun c3 n3 => ?_
      have k12 := k1.trans k2
      have k3 : Kp [] H (upd H2 c3 (.lst (us1 ++ acc))) := k12.new n3
      have pr3 : Paired (LL (upd H2 c3 (.lst (us1 ++ acc)))) (us1 ++ acc) (wss1 ++ wss2) := LL.all ((Kp.refl H2).new n3) (paired_app (LL.all k2 pr1) pr2)
      have h3c : upd H2 c3 (.lst (us1 ++ acc)) c3 = some (.lst (us1 ++ acc)) := upd_same
      have nt3 : NoT (upd H2 c3 (.lst (us1 ++ acc))) := nt2.lst
      generalize upd H2 c3 (.lst (us1 ++ acc)) = H3 at k3 pr3 h3c nt3 ⊢
      walk_at "ss"
      refine st_list (sqL_of (k3.same _ _ ha)) fun c4 n4 => ?_
      walk_at "ss"
      refine ⟨by show 1 ≤ sizeLine; decide, fun c5 n5 => ?_⟩
      refine st_cat (old_upd n5 (old_upd n4 h3c)) upd_same (Nat.le_of_lt (small1000 (by rw [List.length_append]; show us1.length + acc.length + 1 ≤ 1000; omega))) fun S nS => ?_
      have k35 : Kp [] H3 (upd (upd (upd H3 c4 (.lst (line.map V.str))) c5 (.lst [.ref c4])) S (.lst ((us1 ++ acc) ++ [.ref c4]))) := (((Kp.refl H3).new n4).new n5).new nS
      have kS := k3.trans k35
      have prS : Paired (LL (upd (upd (upd H3 c4 (.lst (line.map V.str))) c5 (.lst [.ref c4])) S (.lst ((us1 ++ acc) ++ [.ref c4])))) ((us1 ++ acc) ++ [.ref c4]) ((wss1 ++ wss2) ++ [line]) :=
        paired_app (LL.all k35 pr3) (.cons ⟨c4, rfl, old_upd nS (old_upd n5 upd_same)⟩ .nil)
      have ntS : NoT (upd (upd (upd H3 c4 (.lst (line.map V.str))) c5 (.lst [.ref c4])) S (.lst ((us1 ++ acc) ++ [.ref c4]))) := nt3.lst.lst.lst
      have hS : upd (upd (upd H3 c4 (.lst (line.map V.str))) c5 (.lst [.ref c4])) S (.lst ((us1 ++ acc) ++ [.ref c4])) S = some (.lst ((us1 ++ acc) ++ [.ref c4])) := upd_same
      have gdS : Good line ((wss1 ++ wss2) ++ [line]) := by
        refine ⟨fun ws hm => ?_, fun ws hm z hz => ?_⟩
        · rcases List.mem_append.mp hm with c | c
          · rcases List.mem_append.mp c with c | c
            · exact gd1.nd ws c
            · exact gd2.nd ws c
          · rw [List.mem_singleton] at c
            rw [c]
            exact nd
        · rcases List.mem_append.mp hm with c | c
          · rcases List.mem_append.mp c with c | c
            · exact gd1.sub ws c z hz
            · exact gd2.sub ws c z hz
          · rw [List.mem_singleton] at c
            rw [c] at hz
            exact hz
      have lenS : ((wss1 ++ wss2) ++ [line]).length ≤ 23 := by
        rw [List.length_append, List.length_append]
        show wss1.length + wss2.length + 1 ≤ 23
        omega
      have hdS : ∃ r, (wss1 ++ wss2) ++ [line] = [] :: r := by
        obtain ⟨r, e⟩ := hd1
        exact ⟨r ++ wss2 ++ [line], by rw [e]; rfl⟩
      generalize upd (upd (upd H3 c4 (.lst (line.map V.str))) c5 (.lst [.ref c4])) S (.lst ((us1 ++ acc) ++ [.ref c4])) = HS at kS prS ntS hS ⊢
      generalize (us1 ++ acc) ++ [.ref c4] = us at prS hS ⊢
      generalize (wss1 ++ wss2) ++ [line] = wss at prS gdS lenS hdS ⊢
      have luS := paired_len prS
      -- what repr shows of both lists
      have goodL : ∀ ws ∈ wss, ws.length ≤ 20 ∧ ∀ z ∈ ws, Nm z := fun ws hm => ⟨Nat.le_trans (nodup_le (gdS.nd ws hm) (gdS.sub ws hm)) hl, fun z hz => nm z (gdS.sub ws hm z hz)⟩
      have both : ∀ (H' : Hp) (Q' : VK), Kp [] HS H' → (∀ t, H' t = none → Q' (.str (PyData.list [dStrs line, dStrss wss]).shown) (upd H' t (.lst [.ref a, .ref S]))) → ∀ t, H' t = none → rReprD K [.ref t] (upd H' t (.lst [.ref a, .ref S])) Q' := by
        intro H' Q' k' h' t nt'
        refine st_repr (d := .list [dStrs line, dStrss wss]) (.lst (sqL_of upd_same) (.cons (dp_strs (sqL_of (old_upd nt' ((kS.trans k').same _ _ ha)))) (.cons (dp_strss (sqL_of (old_upd nt' (k'.same _ _ hS))) (LL.all (k'.new nt') prS)) .nil))) ?_ ?_ ?_ (h' t nt')
        · simp only [PyData.showable, PyData.showableAll, strs_show, strss_show, Bool.and_self]
        · simp only [PyData.depth, PyData.depthAll]
          have d1 := strs_depth line
          have d2 := strss_depth wss
          omega
        · have e1 : (PyData.list [dStrs line, dStrss wss]).shown = listText [(dStrs line).shown, (dStrss wss).shown] := by simp only [PyData.shown, PyData.shownAll]
          rw [e1]
          have e2 := listText_len_le [(dStrs line).shown, (dStrss wss).shown]
          have e3 := strs_len nm
          have e4 := strss_len goodL
          simp only [List.map_cons, List.map_nil, List.sum_cons, List.sum_nil, List.length_cons, List.length_nil] at e2
          have e5 : wss.length * (20 * 84 + 5) ≤ 23 * (20 * 84 + 5) := Nat.mul_le_mul_right _ lenS
          have e6 : sizeLine = 16777216 := sizeLine_eq
          omega
      have comp : ∀ (y4 y5 : Option V) (Q' : VK) (H' : Hp), Kp [] HS H' → NoT H' → (∀ D, H' D = none → Q' (.ref D) (upd H' D (.lst ((wss.map (ht line)).map V.int)))) →
          LcG (Itl K S) (gName 6) tYes (tCall (spHt K) [] C8.E0 (tCons (tVar 1) (tCons (tVar 6) tNil))) [6] [some (.ref p), some (.ref a), some (.ref S), none, y4, y5, none, none, none] Q' H' := by
        intro y4 y5 Q' H' k' nt' q'
        refine lc_walk wk_list (xs := us) (fun D i acc H2 => acc = ((wss.take i).map (ht line)).map V.int ∧ H2 = upd H' D (.lst acc) ∧ H' D = none) (fun D nD => ⟨rfl, rfl, nD⟩) (fun D i acc H2 ⟨_, e, nD⟩ => by rw [e]; exact sqL_of (old_upd nD (k'.same _ _ hS))) ?_ ?_
        · rintro D i x acc H2 nD hx ⟨rfl, rfl, _⟩
          obtain ⟨ws, hws, b1, rfl, hb1⟩ := paired_get prS hx
          have hiw : i < wss.length := (List.getElem?_eq_some_iff.mp hws).1
          have hm := List.mem_of_getElem? hws
          walk_at "ss"
          refine ⟨rfl, ?_⟩
          walk_at "ss"
          refine iteT ?_
          walk_at "ss"
          refine ⟨a, b1, line, ws, rfl, sqL_of (old_upd nD ((kS.trans k').same _ _ ha)), sqL_of (old_upd nD (k'.same _ _ hb1)), gdS.nd ws hm, gdS.sub ws hm, by omega, nt'.lst, ?_⟩
          refine ⟨_, upd_same, ?_, _, rfl, ?_, nD⟩
          · rw [List.length_map, List.length_map, List.length_take]
            exact small1000 (by omega)
          · rw [upd_upd, List.take_add_one, hws, List.map_append, List.map_append]
            rfl
        · rintro D acc H2 nD ⟨rfl, rfl, _⟩
          rw [List.take_of_length_le (by omega)]
          exact q' D nD
      have sh : ∀ n ∈ wss.map (ht line), n.natAbs < 10 ^ 12 := by
        intro n hn
        obtain ⟨ws, _, rfl⟩ := List.mem_map.mp hn
        exact ht_small hl
      have shl : (dInts (wss.map (ht line))).shown.length ≤ sizeLine := by
        have e3 := ints_len sh
        rw [List.length_map] at e3
        have e6 : sizeLine = 16777216 := sizeLine_eq
        omega
      walk_at "ss"
      refine ⟨by show 2 ≤ sizeLine; decide, fun t1 nt1' => ?_⟩
      walk_at "ss"
      refine both HS _ (Kp.refl HS) (fun t nt' => ?_) t1 nt1'
      walk_at "ss"
      refine ⟨_, rfl, ⟨_, sqL_of (old_upd nt' hS)⟩, ?_⟩
      have kT : Kp [] HS (upd HS t (.lst [.ref a, .ref S])) := (Kp.refl HS).new nt'
      have ntT : NoT (upd HS t (.lst [.ref a, .ref S])) := ntS.lst
      generalize upd HS t (.lst [.ref a, .ref S]) = H6 at kT ntT ⊢
      refine comp _ _ _ H6 kT ntT fun D6 n6 => ?_
      have k7 : Kp [] HS (upd H6 D6 (.lst ((wss.map (ht line)).map V.int))) := kT.new n6
      have h7 : upd H6 D6 (.lst ((wss.map (ht line)).map V.int)) D6 = some (.lst ((wss.map (ht line)).map V.int)) := upd_same
      have nt7 : NoT (upd H6 D6 (.lst ((wss.map (ht line)).map V.int))) := ntT.lst
      generalize upd H6 D6 (.lst ((wss.map (ht line)).map V.int)) = H7 at k7 h7 nt7 ⊢
      walk_at "ss"
      refine st_repr (dp_ints (sqL_of h7)) (ints_show sh) (Nat.le_trans (ints_depth _) (by decide)) shl ?_
      walk_at "ss"
      refine ⟨_, rfl, ⟨_, sqL_of (k7.same _ _ hS)⟩, ?_⟩
      refine comp _ _ _ H7 k7 nt7 fun D8 n8 => ?_
      have k8 : Kp [] H7 (upd H7 D8 (.lst ((wss.map (ht line)).map V.int))) := (Kp.refl H7).new n8
      have nt8 : NoT (upd H7 D8 (.lst ((wss.map (ht line)).map V.int))) := nt7.lst
      refine st_nil ?_
      refine st_repr (dp_ints (sqL_of upd_same)) (ints_show sh) (Nat.le_trans (ints_depth _) (by decide)) shl ?_
      generalize upd H7 D8 (.lst ((wss.map (ht line)).map V.int)) = H8 at k8 nt8 ⊢
      have h8 := k8.same _ _ h7
      have kH8 := k7.trans k8
      walk_at "ss"
      rw [decide_eq_true rfl]
      refine iteF ?_
      walk_at "ss"
      obtain ⟨r0, er0⟩ := hdS
      refine st_ixL (sqL_of h8) (atI_nat (j := 0) (v := .int 0) (by rw [er0]; show some (V.int (ht line [])) = _; rw [ht_nil])) ?_
      walk_at "ss"
      refine iteF ?_
      walk_at "ss"
      refine ⟨by show 2 ≤ sizeLine; decide, fun t2 nt2' => ?_⟩
      walk_at "ss"
      refine both H8 _ kH8 (fun t3 nt3' => ?_) t2 nt2'
      walk_at "ss"
      rw [decide_eq_true rfl]
      refine iteF ?_
      have kH9 : Kp [] HS (upd H8 t3 (.lst [.ref a, .ref S])) := kH8.new nt3'
      have h9 := old_upd (o := .lst [.ref a, .ref S]) nt3' h8
      have nt9 : NoT (upd H8 t3 (.lst [.ref a, .ref S])) := nt8.lst
      generalize upd H8 t3 (.lst [.ref a, .ref S]) = H9 at kH9 h9 nt9 ⊢
      walk_at "ss"
      refine ⟨_, _, rfl, sqL_of (kH9.same _ _ hS), ?_⟩
      refine for_enum (xs := us) (fun i σ H2 => ∃ (y6 y7 y8 : Option V) (kt : Str), σ = [some (.ref p), some (.ref a), some (.ref S), none, some (.str kt), some (.ref D6), y6, y7, y8] ∧ Kp [] H9 H2 ∧ NoT H2) ⟨none, none, none, _, rfl, Kp.refl H9, nt9⟩ (fun i σ H2 ⟨_, _, _, _, _, k, _⟩ => sqL_of (k.same _ _ (kH9.same _ _ hS))) ?_ ?_
      · rintro i x σ H2 T' hx ⟨y6, y7, y8, kt, rfl, k2, nt2⟩ nT
        obtain ⟨ws, hws, b1, rfl, hb1⟩ := paired_get prS hx
        have hm := List.mem_of_getElem? hws
        have hiw : i < wss.length := (List.getElem?_eq_some_iff.mp hws).1
        have kx : Kp [] HS (upd H2 T' (.tup [.int (i : Int), .ref b1])) := (kH9.trans k2).new nT
        have kx9 : Kp [] H9 (upd H2 T' (.tup [.int (i : Int), .ref b1])) := k2.new nT
        have ntx : NoT (upd H2 T' (.tup [.int (i : Int), .ref b1])) := nt2.tup
        generalize upd H2 T' (.tup [.int (i : Int), .ref b1]) = Hx at kx kx9 ntx ⊢
        have kHx := kS.trans kx
        walk_at "ss"
        refine st_len (sqL_of (kx.same _ _ hS)) ?_
        walk_at "ss"
        refine ⟨p, _, rfl, kHx.same _ _ hp, ntx, by omega, by omega, fun d h0 h1 => ?_⟩
        obtain ⟨j, hj, rfl, ej⟩ := at_some' h0 h1
        obtain ⟨ws2, hws2, b2, eb2, hb2⟩ := paired_get prS (List.getElem?_eq_getElem hj)
        have hm2 := List.mem_of_getElem? hws2
        rw [eb2] at ej
        refine st_ixL (sqL_of (kx.same _ _ hS)) ej ?_
        have told : ∀ Q' : VK, Q' (.int (ht line ws)) Hx → rIxL K (.ref D6) (.int (i : Int)) Hx Q' := fun Q' h' =>
          st_ixL (sqL_of (kx9.same _ _ h9)) (atI_nat (j := i) (by rw [List.getElem?_map, List.getElem?_map, hws]; rfl)) h'
        walk_at "ss"
        refine told _ ?_
        walk_at "ss"
        refine ⟨a, b2, line, ws2, rfl, sqL_of (kHx.same _ _ ha), sqL_of (kx.same _ _ hb2), gdS.nd ws2 hm2, gdS.sub ws2 hm2, by omega, ntx, ?_⟩
        walk_at "ss"
        refine ⟨a, b1, b2, line, ws, ws2, rfl, sqL_of (kHx.same _ _ ha), sqL_of (kx.same _ _ hb1), sqL_of (kx.same _ _ hb2), ?_⟩
        rw [ht_first]
        walk_at "ss"
        rw [decide_eq_true rfl]
        refine iteF ?_
        walk_at "ss"
        refine ⟨_, _, rfl, sqL_of (kx.same _ _ hb1), fun rv nrv => ?_⟩
        walk_at "ss"
        refine ⟨a, rv, line, ws.reverse, rfl, sqL_of (old_upd nrv (kHx.same _ _ ha)), by rw [List.map_reverse]; exact sqL_of upd_same, ((List.reverse_perm ws).nodup_iff.mpr (gdS.nd ws hm)), fun z hz => gdS.sub ws hm z (List.mem_reverse.mp hz), by omega, ntx.lst, ?_⟩
        walk_at "ss"
        refine st_ixL (sqL_of (old_upd nrv (kx9.same _ _ h9))) (atI_nat (j := i) (by rw [List.getElem?_map, List.getElem?_map, hws]; rfl)) ?_
        rw [ht_mem (a := ws.reverse) (b := ws) fun z => List.mem_reverse]
        walk_at "ss"
        rw [decide_eq_true rfl]
        refine iteF ?_
        walk_at "ss"
        exact ⟨_, _, _, kt, rfl, kx9.new nrv, ntx.lst⟩
      · rintro σ H2 ⟨y6, y7, y8, kt, rfl, k2, nt2⟩
        walk_at "ss"
        exact q H2 (kS.trans (kH9.trans k2))
def spRight : Sp := fun vs H Q _ => ∃ (p a : Addr) (line : List Str), vs = [.ref p, .ref a] ∧ H p = some (PotO p) ∧ H a = some (.lst (line.map V.str)) ∧ NoT H ∧ line.Nodup ∧ (∀ z ∈ line, Nm z) ∧ line.length ≤ 20 ∧ Q (.bl true) H
theorem right_of (F : FnG P w K mg base CX0 3 f fd ["_law_pot_here", "_law_line"] spRight0) : FnG P w K mg base CX0 3 f fd ["_law_pot_here", "_law_line"] spRight := by
  refine fg_fg F fun vs H Q E h => ?_
  obtain ⟨p, a, line, rfl, h1, h2, nt, h3, h4, h5, q⟩ := h
  exact ⟨p, a, line, rfl, h1, h2, nt, h3, h4, h5, fun H' k => ⟨H, Fg.back k.same nt, q⟩⟩
end
end K44
namespace K44
open PySem PySem.Spec PyProof.Rows L2 TB
open C8 (Cal pe_c Mak pe_mk Met pe_mt pe_mt0 pss_cut tCut pe_gc)
abbrev s_law : Stmt := top 14
theorem sc_law : FnScope ["_law_script", "_law_k", "_law_pot_here", "_law_latches_here", "_law_turn", "_law_line"] ["_law_script"] (defScope s_law) := ⟨rfl, rfl, rfl, by decide +kernel, rfl, by decide +kernel, by decide +kernel⟩
section
variable {P : Program} {w : World} {K : PySem.W.Frag} {mg : Str → Option Value} {base : Heap} {f : Addr} {fd : FuncData}
def spLaw (K : PySem.W.Frag) : Sp := fun vs H Q _ => ∃ (a : Addr) (ns : List Int), vs = [.ref a] ∧ SqL K H a (ns.map V.int) ∧ ns.length ≤ 63 ∧ NoT H ∧ ∀ H', Q (.bl true) H'
theorem ok_law (F : FnP K "law" s_law f fd) (T : Blt2 mg) (c__law_draw : Cal P w K mg base 1 "_law_draw" spDraw []) (c__law_pot : Cal P w K mg base 1 "_law_pot" (spPot K) []) (c__law_name : Cal P w K mg base 2 "_law_name" spName [])
    (c__law_latches : Cal P w K mg base 3 "_law_latches" spLatches []) (c_height_of : Cal P w K mg base 1 "height_of" (spHt K) []) (c__law_right : CalG P w K mg base 3 "_law_right" spRight) :
    FnG P w K mg base CX0 4 f fd ["_law_script"] (spLaw K) := by
  refine fng_of F sc_law (fun vs H Q E h => ?_) (fun cdv A outer s H vs Q E g hr h => ⟨_, PSs.nox 
(pss_cons (ps_for PassesOwn.never rfl (pi_range1 (by rfl) T.b_range (pa_cons (pe_callB (call_max2 rfl) (by rfl) T.b_max (by decide +kernel) (pa_cons pe_int (pa_cons (pe_callB (call_min2 rfl) (by rfl) T.b_min (by decide +kernel) (pa_cons pe_int (pa_cons (pe_callB (call_lenK K) (by rfl) T.b_len PySem.boot_len (pa_cons (pv 0) pa_nil)) pa_nil))) pa_nil))) pa_nil)) (pg_name (i := 1) sc_law.nd rfl (.inl rfl))
    (pss_cons (ps_set (i := 2) sc_law.nd rfl (.inr rfl) (pe_c c__law_pot hr (by decide) (by rfl) (pa_cons (pv 0) (pa_cons (pv 1) pa_nil))))
      (pss_cons (ps_set (i := 3) sc_law.nd rfl (.inr rfl) (pe_c c__law_latches hr (by decide) (by rfl) (pa_cons (pv 2) pa_nil)))
      (pss_cons (ps_for PassesOwn.never rfl (pi_range1 (by rfl) T.b_range (pa_cons (pe_op op_mul pe_int (pe_callTy call_intB (by rfl) T.b_int (by decide +kernel) (pa_cons (pe_cmpR op_eq (pe_c c__law_draw hr (by decide) (by rfl) (pa_cons (pv 2) (pa_cons pe_int pa_nil))) pe_int (nomark _)) pa_nil))) pa_nil)) (pg_name (i := 4) sc_law.nd rfl (.inl rfl))
        (pss_one (ps_expr (pe_c c__law_name hr (by decide) (by rfl) (pa_cons (pv 2) (pa_cons (pv 3) pa_nil))))))
      (pss_cons (ps_setLc (i := 5) (own := [("_law_turn", 4)]) (tt := tYes) rfl sc_law.nd rfl rfl (sw_true rfl rfl rfl (by decide +kernel)) (pi_range1 (by rfl) T.b_range (pa_cons (pe_callB (call_lenK K) (by rfl) T.b_len PySem.boot_len (pa_cons (pv 3) pa_nil)) pa_nil)) (blkOk_by (N := ["_law_script", "_law_k", "_law_pot_here", "_law_latches_here", "_law_turn", "_law_line"]) (sc := defScope s_law) (by decide +kernel)) (fun _ _ _ _ _ => pg_name (i := 4) sc_law.nd rfl (Or.inl rfl)) (fun _ _ _ _ _ => pts_nil) (fun _ _ _ _ _ => (kBM K (pe_bm PySem.F.plainAttrs_list PySem.F.slot_list_pop PySem.F.type_list_pop mt_popAt (pv 3) (pa_cons (pe_c c__law_draw hr (by decide) (by rfl) (pa_cons (pv 2) (pa_cons (pe_callB (call_lenK K) (by rfl) T.b_len PySem.boot_len (pa_cons (pv 3) pa_nil)) pa_nil))) pa_nil)))))
      (pss_one (ps_if (pt_not (pt_val (pe_cG c__law_right g hr (by decide) (by rfl) (pa_cons (pv 2) (pa_cons (pv 5) pa_nil)))))
        (pss_one (ps_ret pe_bl))
        pss_nil)))))))
  (pss_one (ps_ret (pe_cmpR op_eq (pe_callB (call_reprD K hr.units g) (by rfl) T.b_repr (by decide +kernel) (pa_cons (pe_lst (pa_cons (pe_c c_height_of hr (by decide) (by rfl) (pa_cons (pe_lst pa_nil) (pa_cons (pe_lst pa_nil) pa_nil))) (pa_cons (pe_c c_height_of hr (by decide) (by rfl) (pa_cons (pe_lst (pa_cons pe_str pa_nil)) (pa_cons (pe_lst pa_nil) pa_nil))) (pa_cons (pe_c c_height_of hr (by decide) (by rfl) (pa_cons (pe_lst (pa_cons pe_str pa_nil)) (pa_cons (pe_lst (pa_cons pe_str pa_nil)) pa_nil))) pa_nil)))) pa_nil)) pe_str (nomark _))))), ?_⟩)
  · obtain ⟨a, ns, rfl, _⟩ := h
    rfl
  · obtain ⟨a, ns, rfl, ha, hn, nt, q⟩ := h
    walk_at "ss"
    refine st_len ha ?_
    walk_at "ss"
    refine ⟨_, _, rfl, ?_⟩
    walk_at "ss"
    refine ⟨_, _, rfl, ?_⟩
    walk_at "ss"
    obtain ⟨m, em, hm⟩ : ∃ m : Nat, (if (if ((ns.map V.int).length : Int) < 6 then ((ns.map V.int).length : Int) else 6) > 1 then (if ((ns.map V.int).length : Int) < 6 then ((ns.map V.int).length : Int) else 6) else 1) = (m : Int) ∧ m ≤ 6 := by
      rw [List.length_map]
      generalize ns.length = n
      by_cases h1 : (n : Int) < 6
      · rw [if_pos h1]
        by_cases h2 : (n : Int) > 1
        · rw [if_pos h2]
          exact ⟨n, rfl, by omega⟩
        · rw [if_neg h2]
          exact ⟨1, rfl, by decide⟩
      · rw [if_neg h1]
        exact ⟨6, rfl, by decide⟩
    rw [em]
    refine ⟨_, rfl, by omega, by omega, ?_⟩
    rw [Int.toNat_natCast]
    refine for_walk wk_range (fun i σ H2 => ∃ y1 y2 y3 y4 y5 : Option V, σ = [some (.ref a), y1, y2, y3, y4, y5] ∧ Kp [] H H2 ∧ NoT H2) ⟨none, none, none, none, none, rfl, Kp.refl H, nt⟩ (fun _ _ _ _ => trivial) ?_ ?_
    · rintro i x σ H2 hx ⟨y1, y2, y3, y4, y5, rfl, k2, nt2⟩
      obtain ⟨hi, ex⟩ : i < m ∧ x = .int (i : Int) := by
        have h1 := (List.getElem?_eq_some_iff.mp hx).1
        rw [List.length_map, List.length_range] at h1
        rw [List.getElem?_map, List.getElem?_range h1] at hx
        exact ⟨h1, (Option.some.inj hx).symm⟩
      subst ex
      walk_at "ss"
      refine ⟨a, ns, i, rfl, k2.sqL (by simp) ha, by omega, by omega, nt2, fun p np => ?_⟩
      have hp0 : upd H2 p (PotO p) p = some (PotO p) := upd_same
      have k3 : Kp [] H (upd H2 p (PotO p)) := k2.new np
      have nt3 : NoT (upd H2 p (PotO p)) := nt2.pot
      generalize upd H2 p (PotO p) = H3 at hp0 k3 nt3 ⊢
      walk_at "ss"
      refine ⟨p, rfl, hp0, nt3, fun l ws nl nd nm h1 h7 => ?_⟩
      walk_at "ss"
      refine ⟨p, 4, rfl, old_upd nl hp0, nt3.lst, by decide, by decide, fun d h0 hd4 => ?_⟩
      walk_at "ss"
      refine st_I (Or.inl ⟨by decide, by decide⟩) ?_
      walk_at "ss"
      obtain ⟨e, ee, he⟩ : ∃ e : Nat, (13 : Int) * (if decide (V.int d = V.int 0) = true then 1 else 0) = (e : Int) ∧ e ≤ 13 := by
        by_cases c : decide (V.int d = V.int 0) = true
        · rw [if_pos c]
          exact ⟨13, rfl, by decide⟩
        · rw [if_neg c]
          exact ⟨0, rfl, by decide⟩
      rw [ee]
      refine ⟨_, rfl, by omega, by omega, ?_⟩
      rw [Int.toNat_natCast]
      have npl : p ≠ l := ne_of_none hp0 nl
      refine for_walk wk_range (fun i2 σ H4 => ∃ (y4 : Option V) (ws : List Str), σ = [some (.ref a), some (.int (i : Int)), some (.ref p), some (.ref l), y4, y5] ∧ H4 = upd H3 l (.lst (ws.map V.str)) ∧ ws.Nodup ∧ (∀ z ∈ ws, Nm z) ∧ ws.length ≤ 7 + i2) ⟨y4, ws, rfl, rfl, nd, nm, h7⟩ (fun _ _ _ _ => trivial) ?_ ?_
      · rintro i2 x σ H4 hx2 ⟨y4, ws, rfl, rfl, nd, nm, hw⟩
        have hi2 : i2 < e := by
          have h1 := (List.getElem?_eq_some_iff.mp hx2).1
          rw [List.length_map, List.length_range] at h1
          exact h1
        walk_at "ss"
        refine ⟨p, l, ws, rfl, old_upd nl hp0, upd_same, nt3.lst, by omega, fun z hz hz2 => ?_⟩
        refine ⟨_, ws ++ [z], rfl, upd_upd, ?_, ?_, by rw [List.length_append]; show ws.length + 1 ≤ _; omega⟩
        · exact List.nodup_append.mpr ⟨nd, by simp, fun u hu v hv e => hz2 (by rw [List.mem_singleton] at hv; rw [← hv, ← e]; exact hu)⟩
        · intro u hu
          rcases List.mem_append.mp hu with c | c
          · exact nm u c
          · rw [List.mem_singleton] at c
            rw [c]
            exact hz
      · rintro σ H4 ⟨y4, ws, rfl, rfl, nd, nm, hw⟩
        rw [List.length_map, List.length_range] at hw
        walk_at "ss"
        refine st_len (sqL_of upd_same) ?_
        walk_at "ss"
        refine ⟨_, rfl, by omega, by rw [List.length_map]; omega, ?_⟩
        rw [Int.toNat_natCast, List.length_map]
        refine lc_walk wk_range (fun D i3 acc H5 => ∃ zs rest : List Str, acc = zs.map V.str ∧ zs.length = i3 ∧ (zs ++ rest).Perm ws ∧ H5 = upd (upd H3 l (.lst (rest.map V.str))) D (.lst acc) ∧ H3 D = none ∧ l ≠ D) (fun D nD => ⟨[], ws, rfl, rfl, List.Perm.refl _, rfl, (nil_upd nD).2, (nil_upd nD).1.symm⟩) (fun _ _ _ _ _ => trivial) ?_ ?_
        · rintro D i3 x acc H5 nD hx3 ⟨zs, rest, rfl, hz3, pm, rfl, nD3, nlD⟩
          have hi3 : i3 < ws.length := by
            have h1 := (List.getElem?_eq_some_iff.mp hx3).1
            rw [List.length_map, List.length_range] at h1
            exact h1
          have hlen := pm.length_eq
          rw [List.length_append] at hlen
          have h5l : upd (upd H3 l (.lst (rest.map V.str))) D (.lst (zs.map V.str)) l = some (.lst (rest.map V.str)) := by rw [upd_ne nlD, upd_same]
          walk_at "ss"
          refine ⟨rfl, ?_⟩
          walk_at "ss"
          refine iteT ?_
          walk_at "ss"
          refine ⟨Or.inl ⟨rfl, _, sqL_of h5l⟩, ?_⟩
          walk_at "ss"
          refine st_len (sqL_of h5l) ?_
          walk_at "ss"
          refine ⟨p, _, rfl, oth_upd (ne_of_none hp0 nD3) (oth_upd npl hp0), nt3.lst.lst, by rw [List.length_map]; omega, by rw [List.length_map]; omega, fun d2 h3 h4 => ?_⟩
          rw [List.length_map] at h4
          obtain ⟨j, rfl⟩ : ∃ j : Nat, d2 = (j : Int) := ⟨d2.toNat, by omega⟩
          have hj : j < rest.length := by omega
          walk_at "ss"
          refine ⟨l, rest.map V.str, j, j, .str rest[j], rfl, rfl, h5l, by omega, by omega, ?_, ?_, ?_⟩
          · rw [List.length_map]
            exact (ixN_seq (Evl.ixN_nat hj)).1
          · rw [List.getElem?_map, List.getElem?_eq_getElem hj]
            rfl
          refine ⟨zs.map V.str, by rw [upd_ne nlD.symm, upd_same], by rw [List.length_map]; exact small1000 (by omega), _, zs ++ [rest[j]], rest.eraseIdx j, rfl, by simp [hz3], ?_, ?_, nD3, nlD⟩
          · refine List.Perm.trans ?_ pm
            rw [List.append_assoc]
            exact List.Perm.append_left _ (erase_perm hj)
          · rw [erase_map, List.map_append]
            funext b
            by_cases hbD : b = D
            · subst hbD
              rw [upd_same, upd_same]
              rfl
            · rw [upd_ne hbD, upd_ne hbD]
              by_cases hbl : b = l
              · subst hbl
                rw [upd_same, upd_same]
              · rw [upd_ne hbl, upd_ne hbD, upd_ne hbl, upd_ne hbl]
        · rintro D acc H5 nD ⟨zs, rest, rfl, hz3, pm, rfl, nD3, nlD⟩
          rw [List.length_map, List.length_range] at hz3
          have hlen := pm.length_eq
          rw [List.length_append] at hlen
          have er : rest = [] := List.eq_nil_of_length_eq_zero (by omega)
          subst er
          rw [List.append_nil] at pm
          have k5 : Kp [] H (upd (upd H3 l (.lst ([].map V.str))) D (.lst (zs.map V.str))) := (k3.new nl).own (k3.same.free nD3)
          walk_at "ss"
          refine ⟨p, D, zs, rfl, oth_upd (ne_of_none hp0 nD3) (oth_upd npl hp0), upd_same, nt3.lst.lst, pm.nodup_iff.mpr nd, fun z hz => nm z (pm.mem_iff.mp hz), by omega, ?_⟩
          walk_at "ss"
          refine iteF ?_
          walk_at "ss"
          exact ⟨_, _, _, _, _, rfl, k5, nt3.lst.lst⟩
    · rintro σ H2 ⟨y1, y2, y3, y4, y5, rfl, k2, nt2⟩
      walk_at "ss"
      refine ⟨by show 0 ≤ sizeLine; decide, fun a1 n1 => ?_⟩
      walk_at "ss"
      refine ⟨by show 0 ≤ sizeLine; decide, fun a2 n2 => ?_⟩
      walk_at "ss"
      refine ⟨a1, a2, [], [], rfl, sqL_of (old_upd n2 upd_same), sqL_of upd_same, by simp, by simp, by simp, nt2.lst.lst, ?_⟩
      walk_at "ss"
      refine ⟨by show 1 ≤ sizeLine; decide, fun a3 n3 => ?_⟩
      walk_at "ss"
      refine ⟨by show 0 ≤ sizeLine; decide, fun a4 n4 => ?_⟩
      walk_at "ss"
      refine ⟨a3, a4, ["a"], [], rfl, sqL_of (old_upd n4 upd_same), sqL_of upd_same, by simp, by simp, by simp, nt2.lst.lst.lst.lst, ?_⟩
      walk_at "ss"
      refine ⟨by show 1 ≤ sizeLine; decide, fun a5 n5 => ?_⟩
      walk_at "ss"
      refine ⟨by show 1 ≤ sizeLine; decide, fun a6 n6 => ?_⟩
      walk_at "ss"
      refine ⟨a5, a6, ["a"], ["a"], rfl, sqL_of (old_upd n6 upd_same), sqL_of upd_same, by simp, by simp, by simp, nt2.lst.lst.lst.lst.lst.lst, ?_⟩
      walk_at "ss"
      refine ⟨by show 3 ≤ sizeLine; decide, fun a7 n7 => ?_⟩
      walk_at "ss"
      have e1 : ht [] [] = 0 := rfl
      have e2 : ht ["a"] [] = 0 := ht_nil _
      have e3 : ht ["a"] ["a"] = 1 := by decide +kernel
      rw [e1, e2, e3]
      refine st_repr (d := dInts [0, 0, 1]) (dp_ints (sqL_of upd_same)) (ints_show (by decide)) (Nat.le_trans (ints_depth _) (by decide)) (by decide +kernel) ?_
      walk_at "ss"
      have e4 : (dInts [0, 0, 1]).shown = ("[0, 0, 1]" : Str) := by decide +kernel
      rw [e4, decide_eq_true rfl]
      exact q _
end
end K44
namespace K44
open PySem PySem.Spec PyProof.Rows L2 TB
open C8 (Cal pe_c Mak pe_mk Met pe_mt pe_mt0 pss_cut tCut pe_gc)
def d_height_of : He.DefD := ⟨("height_of", none), "height_of", "height_of", defArgs s_height_of, defBody s_height_of, defScope s_height_of, [], []⟩
def d__law_pot : He.DefD := ⟨("_law_pot", none), "_law_pot", "_law_pot", defArgs s__law_pot, defBody s__law_pot, defScope s__law_pot, [], []⟩
def d__law_draw : He.DefD := ⟨("_law_draw", none), "_law_draw", "_law_draw", defArgs s__law_draw, defBody s__law_draw, defScope s__law_draw, [], []⟩
def d__law_name : He.DefD := ⟨("_law_name", none), "_law_name", "_law_name", defArgs s__law_name, defBody s__law_name, defScope s__law_name, [], []⟩
def d__law_latches : He.DefD := ⟨("_law_latches", none), "_law_latches", "_law_latches", defArgs s__law_latches, defBody s__law_latches, defScope s__law_latches, [], []⟩
def d__law_some : He.DefD := ⟨("_law_some", none), "_law_some", "_law_some", defArgs s__law_some, defBody s__law_some, defScope s__law_some, [], []⟩
def d__law_height : He.DefD := ⟨("_law_height", none), "_law_height", "_law_height", defArgs s__law_height, defBody s__law_height, defScope s__law_height, [], []⟩
def d__law_sets : He.DefD := ⟨("_law_sets", none), "_law_sets", "_law_sets", defArgs s__law_sets, defBody s__law_sets, defScope s__law_sets, [], []⟩
def d__law_first_unlike : He.DefD := ⟨("_law_first_unlike", none), "_law_first_unlike", "_law_first_unlike", defArgs s__law_first_unlike, defBody s__law_first_unlike, defScope s__law_first_unlike, [], []⟩
def d__law_right : He.DefD := ⟨("_law_right", none), "_law_right", "_law_right", defArgs s__law_right, defBody s__law_right, defScope s__law_right, [], []⟩
def d_law : He.DefD := ⟨("law", none), "law", "law", defArgs s_law, defBody s_law, defScope s_law, [], []⟩
def fn : List He.DefD := [d_height_of, d__law_pot, d__law_draw, d__law_name, d__law_latches, d__law_some, d__law_height, d__law_sets, d__law_first_unlike, d__law_right, d_law]
def fa : List He.Fa := [.glo "height_of", .glo "_law_pot", .glo "_law_draw", .glo "_law_name", .glo "_law_latches", .glo "_law_some", .glo "_law_height", .glo "_law_sets", .glo "_law_first_unlike", .glo "_law_right", .glo "law", .free "len", .free "max", .free "min", .free "abs", .free "divmod", .free "range", .free "enumerate", .free "int", .free "list", .free "repr"]
abbrev R : PySem.W.OpenRow := PySem.W.OpenLaw.row PySem.Challenge.rw_turnedback_k44_heights
abbrev hk : PySem.W.Hook := He.hookD 4 fa fn
def ob (s : PySem.W.SharedT) : He.AlD := He.obsDG 4 fa fn (HandSHeadRun.getT s)
theorem ob_eq (s : PySem.W.SharedT) : ob s = hk.obs s.abs := He.obsDG_eq (HandSHeadRun.getT_eq s)
def loose : List Str := ["NoSuch", "height_of", "_law_pot", "_law_draw", "_law_name", "_law_latches", "_law_some", "_law_height", "_law_sets", "_law_first_unlike", "_law_right"]
theorem run (w : World) : HandSHeadRun.RunEq R (PySem.W.view R.prog [14]) hk ob 3000 loose w := by
  intro os
  kernel_rfl
theorem facts {P : Program} {w : World} {K : PySem.W.Frag} {h : Heap} {mg : Str → Option Value} {f : Addr} (X : K.In h) (G : h.Ns mainGlobals mg) (hfa : mg ("law" : Str) = some (.ref f)) (c : He.SaysD fa fn K) :
    ∃ fd : FuncData, (∀ (s : Shared) (v : Value), BindsTo s fd ⟨[v], []⟩ [("_law_script", v)]) ∧ ∀ base : Heap, K.In base → base.Ns mainGlobals mg → FnG P w K mg base CX0 4 f fd ["_law_script"] (spLaw K) := by
  obtain ⟨fd_height_of, F_height_of⟩ := c.def_ 0 (d := d_height_of) rfl
  obtain ⟨fd__law_pot, F__law_pot⟩ := c.def_ 1 (d := d__law_pot) rfl
  obtain ⟨fd__law_draw, F__law_draw⟩ := c.def_ 2 (d := d__law_draw) rfl
  obtain ⟨fd__law_name, F__law_name⟩ := c.def_ 3 (d := d__law_name) rfl
  obtain ⟨fd__law_latches, F__law_latches⟩ := c.def_ 4 (d := d__law_latches) rfl
  obtain ⟨fd__law_some, F__law_some⟩ := c.def_ 5 (d := d__law_some) rfl
  obtain ⟨fd__law_height, F__law_height⟩ := c.def_ 6 (d := d__law_height) rfl
  obtain ⟨fd__law_sets, F__law_sets⟩ := c.def_ 7 (d := d__law_sets) rfl
  obtain ⟨fd__law_first_unlike, F__law_first_unlike⟩ := c.def_ 8 (d := d__law_first_unlike) rfl
  obtain ⟨fd__law_right, F__law_right⟩ := c.def_ 9 (d := d__law_right) rfl
  obtain ⟨fd_law, F_law⟩ := c.def_ 10 (d := d_law) rfl
  have e := hfa.symm.trans (He.glo_ok X G (c.fact 10 (f := .glo "law") rfl))
  cases e
  have T : Blt2 mg := { b_len := He.free_ok X G (c.fact 11 (f := .free "len") rfl), b_max := He.free_ok X G (c.fact 12 (f := .free "max") rfl), b_min := He.free_ok X G (c.fact 13 (f := .free "min") rfl), b_abs := He.free_ok X G (c.fact 14 (f := .free "abs") rfl), b_divmod := He.free_ok X G (c.fact 15 (f := .free "divmod") rfl), b_range := He.free_ok X G (c.fact 16 (f := .free "range") rfl), b_enumerate := He.free_ok X G (c.fact 17 (f := .free "enumerate") rfl), b_int := He.free_ok X G (c.fact 18 (f := .free "int") rfl), b_list := He.free_ok X G (c.fact 19 (f := .free "list") rfl), b_repr := He.free_ok X G (c.fact 20 (f := .free "repr") rfl) }
  have b_height_of : Binds K fd_height_of ["line", "some"] [] := F_height_of.bindsN fun _ _ _ _ _ _ us hl => match us, hl with | [_, _], _ => rfl
  have b__law_pot : Binds K fd__law_pot ["_law_script", "_law_k"] [] := F__law_pot.bindsN fun _ _ _ _ _ _ us hl => match us, hl with | [_, _], _ => rfl
  have b__law_draw : Binds K fd__law_draw ["_law_pot_here", "_law_many"] [] := F__law_draw.bindsN fun _ _ _ _ _ _ us hl => match us, hl with | [_, _], _ => rfl
  have b__law_name : Binds K fd__law_name ["_law_pot_here", "_law_taken"] [] := F__law_name.bindsN fun _ _ _ _ _ _ us hl => match us, hl with | [_, _], _ => rfl
  have b__law_latches : Binds K fd__law_latches ["_law_pot_here"] [] := F__law_latches.bindsN fun _ _ _ _ _ _ us hl => match us, hl with | [_], _ => rfl
  have b__law_some : Binds K fd__law_some ["_law_pot_here", "_law_latches_here"] [] := F__law_some.bindsN fun _ _ _ _ _ _ us hl => match us, hl with | [_, _], _ => rfl
  have b__law_height : Binds K fd__law_height ["_law_line", "_law_some_here"] [] := F__law_height.bindsN fun _ _ _ _ _ _ us hl => match us, hl with | [_, _], _ => rfl
  have b__law_sets : Binds K fd__law_sets ["_law_line"] [] := F__law_sets.bindsN fun _ _ _ _ _ _ us hl => match us, hl with | [_], _ => rfl
  have b__law_first_unlike : Binds K fd__law_first_unlike ["_law_line", "_law_one", "_law_other"] [] := F__law_first_unlike.bindsN fun _ _ _ _ _ _ us hl => match us, hl with | [_, _, _], _ => rfl
  have b__law_right : Binds K fd__law_right ["_law_pot_here", "_law_line"] [] := F__law_right.bindsN fun _ _ _ _ _ _ us hl => match us, hl with | [_, _], _ => rfl
  have b_law := FunD.bindsA (ps := ["_law_script"]) F_law fun _ _ _ _ _ _ us hl => match us, hl with | [_], _ => rfl
  refine ⟨fd_law, fun s v => b_law s [v] rfl, fun base _ _ => ?_⟩
  have c__law_draw : Cal P w K mg base 1 "_law_draw" spDraw [] := ⟨_, _, _, _, ok_draw F__law_draw T.toBlt, (He.glo_ok X G (c.fact 2 (f := .glo "_law_draw") rfl)), F__law_draw.kp, b__law_draw, .nil⟩
  have c__law_pot : Cal P w K mg base 1 "_law_pot" (spPot K) [] := ⟨_, _, _, _, ok_pot F__law_pot T.toBlt, (He.glo_ok X G (c.fact 1 (f := .glo "_law_pot") rfl)), F__law_pot.kp, b__law_pot, .nil⟩
  have c__law_name : Cal P w K mg base 2 "_law_name" spName [] := ⟨_, _, _, _, ok_name F__law_name T.toBlt c__law_draw, (He.glo_ok X G (c.fact 3 (f := .glo "_law_name") rfl)), F__law_name.kp, b__law_name, .nil⟩
  have c__law_latches : Cal P w K mg base 3 "_law_latches" spLatches [] := ⟨_, _, _, _, ok__law_latches F__law_latches T c__law_draw c__law_name, (He.glo_ok X G (c.fact 4 (f := .glo "_law_latches") rfl)), F__law_latches.kp, b__law_latches, .nil⟩
  have c__law_some : Cal P w K mg base 2 "_law_some" (spSome K) [] := ⟨_, _, _, _, ok__law_some F__law_some T c__law_draw, (He.glo_ok X G (c.fact 5 (f := .glo "_law_some") rfl)), F__law_some.kp, b__law_some, .nil⟩
  have c_height_of : Cal P w K mg base 1 "height_of" (spHt K) [] := ⟨_, _, _, _, ok_height_of F_height_of T, (He.glo_ok X G (c.fact 0 (f := .glo "height_of") rfl)), F_height_of.kp, b_height_of, .nil⟩
  have c__law_height : Cal P w K mg base 1 "_law_height" (spHt K) [] := ⟨_, _, _, _, ok__law_height F__law_height T, (He.glo_ok X G (c.fact 6 (f := .glo "_law_height") rfl)), F__law_height.kp, b__law_height, .nil⟩
  have c__law_sets : Cal P w K mg base 1 "_law_sets" (spSets K) [] := ⟨_, _, _, _, ok__law_sets F__law_sets, (He.glo_ok X G (c.fact 7 (f := .glo "_law_sets") rfl)), F__law_sets.kp, b__law_sets, .nil⟩
  have c__law_first_unlike : Cal P w K mg base 1 "_law_first_unlike" (spFirst K) [] := ⟨_, _, _, _, ok__law_first_unlike F__law_first_unlike T, (He.glo_ok X G (c.fact 8 (f := .glo "_law_first_unlike") rfl)), F__law_first_unlike.kp, b__law_first_unlike, .nil⟩
  have c__law_right : CalG P w K mg base 3 "_law_right" spRight := ⟨_, _, _, right_of (ok__law_right0 F__law_right T c__law_draw c__law_sets c__law_some c_height_of c__law_height c__law_first_unlike), (He.glo_ok X G (c.fact 9 (f := .glo "_law_right") rfl)), F__law_right.kp, b__law_right⟩
  exact ok_law F_law T c__law_draw c__law_pot c__law_name c__law_latches c_height_of c__law_right
theorem only_noT {H : Hp} (h : Only H) : NoT H := fun a o e => by
  rcases h a with z | ⟨ob, xs, z⟩
  · rw [z] at e
    exact nomatch e
  · rw [z] at e
    cases e
    exact trivial
end K44
open PySem PySem.W PySem.Calls PyProof.Rows
set_option maxRecDepth 100000 in
set_option maxHeartbeats 0 in
theorem PySem.Challenge.cw_turnedback_k44_heights_holds : PySem.Challenge.rw_turnedback_k44_heights.Holds := by
  w_on; o_law
  refine HandSHeadRun.head_any (r := OpenLaw.row PySem.Challenge.rw_turnedback_k44_heights) (q := view (OpenLaw.row PySem.Challenge.rw_turnedback_k44_heights).prog [14]) (H := K44.hk) (ob := K44.ob) (M := 3000) (loose := K44.loose) (d := HandSHeadRun.topDef (OpenLaw.row PySem.Challenge.rw_turnedback_k44_heights).prog 14) (kwd := []) K44.ob_eq
    (by kernel_rfl) (fun s => by kernel_rfl) K44.run (by kernel_rfl) (by kernel_rfl) (by kernel_rfl) (by rfl) (by first | assumption | decide +kernel) (by decide +kernel) ⟨rfl, rfl, rfl, rfl, rfl, by decide +kernel⟩ ?hw ?hc
  case hw => w_witness2
  case hc =>
    refine TB.walk_ofG (l := PySem.Challenge.rw_turnedback_k44_heights) (n := 63) (k := 4) (x := "_law_script") (CX := L2.CX0) rfl (by decide) (by kernel_rfl) ⟨rfl, by decide, by decide⟩ ?F (fun _ _ _ _ z => z)
    intro w mg fa h Y G hmg0
    obtain ⟨K, KX, c⟩ := Y
    have hmg : mg ("law" : PySem.Str) = some (.ref fa) := by
      have e : (HandSHeadRun.topDef (OpenLaw.row PySem.Challenge.rw_turnedback_k44_heights).prog 14).name = ("law" : PySem.Str) := by kernel_rfl
      rw [← e]
      exact hmg0
    obtain ⟨fd, hb, hF⟩ := K44.facts (P := (PySem.Challenge.rw_turnedback_k44_heights).prog) (w := w) KX G hmg c
    exact ⟨K, fd, K44.spLaw K, KX, hb, fun H a ns hl hO hS => ⟨a, ns, rfl, hS, hl, K44.only_noT hO, fun _ => rfl⟩, hF⟩
