import PyProof.Rows.All
import Wide.All
import OpenK.AllK
import Wide.FinOn
import PySem.Challenge.RW_tk0026_01
set_option Elab.async false
set_option rowWalk.seconds 0
section
open PySem PySem.W PyProof.Rows
set_option Elab.async false
namespace Mine
set_option maxRecDepth 100000 in
set_option maxHeartbeats 8000000 in
open_top hd for PySem.Challenge.rw_tk0026_01
end Mine
end
section
open PySem PySem.W PyProof.Rows
set_option Elab.async false
set_option maxRecDepth 100000
namespace Mine
/-- an around with no frames known, at most d deep, u units -/
noncomputable abbrev ar (d u : Nat) : Around := { handled := none, depth := d, frames := none, guards := none, units := u }
theorem In_ar {Γ : Ctx} {A : Around} {d u : Nat} (hh : A.handled = none) (hd : A.depth ≤ d) (hu : A.units ≤ u) (h : Γ.In A) : Γ.In (ar d u) :=
  ⟨h.1.trans hh, Nat.le_trans h.2.1 hd, fun _ e => (nomatch e), fun _ e => (nomatch e), Nat.le_trans h.2.2.2.2 hu⟩
theorem weaken {α : Type} {M : Model} {A : Around} {d u : Nat} {t : Sem α} {Q : α → Shared → Prop} {E : Value → Shared → Prop} {s : Shared}
    (hh : A.handled = none) (hd : A.depth ≤ d) (hu : A.units ≤ u) (h : wpAny M (ar d u) t Q E s) : wpAny M A t Q E s :=
  fun Γ p hΓ => h Γ p (In_ar hh hd hu hΓ)
noncomputable abbrev pg : Program := PySem.Challenge.rw_tk0026_01.row.prog
noncomputable abbrev KH (w : World) : Frag := hd.heap_39 w.params
/-- what every call needs of the heap -/
structure Ok (w : World) (h : Heap) : Prop where
  x : (hd.heap_39 w.params).In h
  t : ∃ loose mean mg mb, Top hd.view_39 loose mean mg mb h
theorem Ok.keeps {w : World} {h h' : Heap} (o : Ok w h) (k : ∀ b ob, h.get? b = some ob → h'.get? b = some ob) : Ok w h' := by
  obtain ⟨l, m, g, b, t⟩ := o.t
  exact ⟨o.x.keeps k, l, m, g, b, t.keeps k⟩
theorem enter {w : World} {A : Around} {s : Shared} {K : Frag} {Q E : Value → Shared → Prop}
    {name qual : Str} {params : Arguments} {body : List Stmt} {scope : Scope} {dV kV doc pm cdv ct oc : Value} {an od : Option Addr} {osl : Array (Option Value)} {f : Addr} {args : List Value} {binds : List (Str × Value)}
    (X : K.In s.heap) (hlim : s.heap.NoLimit)
    (ho : K.lookup f = some ⟨oc, od, .func (fnOf name qual params body scope dV kV doc pm an cdv ct), osl⟩) (hcd : codeIn K cdv qual = true) (hroom : A.depth < recursionLimit)
    (hbind : BindsTo s (fnOf name qual params body scope dV kV doc pm an cdv ct) ⟨args, []⟩ binds) (hloc : ∀ y ∈ binds, scope.names.lookup y.1 = some .local)
    (h : ∀ h₁, Fr s.heap s.heap.objs.size h₁ (fun y => binds.reverse.lookup y) → News s.heap s.heap.objs.size h₁ [] →
      wpAny (model pg w) (A.deeper (envOf qual scope s.heap.objs.size f cdv)) (execs body (envOf qual scope s.heap.objs.size f cdv))
        (fun fl s' => Q (match fl with | .ret v => v | _ => .none) s') (fun _ _ => False)
        { s with heap := h₁, toks := s.toks + binds.length })
    (hco : scope.isCoroutine = false) (hgen : scope.isGenerator = false) (hk : scope.kind = .function)
    (hcell : ∀ x ∈ scope.names, x.2 ≠ .cell) : wpAny (model pg w) A (call (.ref f) args) Q E s := by
  refine wpAny_call ?_
  refine codeAny_call_def (fd := fnOf name qual params body scope dV kV doc pm an cdv ct) (body := body) (binds := binds) hroom (X _ _ ho) rfl hlim (codeRec_of X hcd) rfl hbind hcell hloc (fun h₁ hns hk₁ => ?_) hco hgen hk
  exact wpAny_mono (h h₁ ⟨hns, hk₁, Nat.le_refl _⟩ News.nil) (fun _ _ x => x) fun _ _ x => x.elim
end Mine
end
section
set_option autoImplicit false
namespace Mine
/-- trailing zeros struck -/
noncomputable def trimF : List Int → List Int
  | [] => []
  | a :: l => if trimF l = [] ∧ a = 0 then [] else a :: trimF l
noncomputable def addF (a b : List Int) (p : Int) : List Int := trimF ((List.range (max a.length b.length)).map fun i => Int.fmod (a.getD i 0 + b.getD i 0) p)
noncomputable def negF (a : List Int) (p : Int) : List Int := a.map fun n => Int.fmod (-n) p
noncomputable def subF (a b : List Int) (p : Int) : List Int := addF a (negF b p) p
noncomputable def scaleF (a : List Int) (k p : Int) : List Int := trimF (a.map fun o => Int.fmod (o * k) p)
/-- one turn of the inner loop of mmul -/
noncomputable def mulStep (p one : Int) (at' : Nat) (f : List Int) (x : Int × Nat) : List Int := f.set (at' + x.2) (Int.fmod (f.getD (at' + x.2) 0 + one * x.1) p)
noncomputable def mulInn (p one : Int) (at' : Nat) (b f : List Int) : List Int := b.zipIdx.foldl (mulStep p one at') f
noncomputable def mulTurn (p : Int) (b f : List Int) (x : Int × Nat) : List Int := if x.1 = 0 then f else mulInn p x.1 x.2 b f
noncomputable def mulRaw (a b : List Int) (p : Int) : List Int := a.zipIdx.foldl (mulTurn p b) (List.replicate (a.length + b.length - 1) 0)
noncomputable def mulF (a b : List Int) (p : Int) : List Int := if a = [] ∨ b = [] then [] else trimF (mulRaw a b p)
noncomputable def invF (a p : Int) : Int := Int.fmod (a ^ (p.toNat - 2)) p
noncomputable def divStep (p num : Int) (at' : Nat) (f : List Int) (x : Int × Nat) : List Int := f.set (at' + x.2) (Int.fmod (f.getD (at' + x.2) 0 - num * x.1) p)
noncomputable def divInn (p num : Int) (at' : Nat) (b f : List Int) : List Int := b.zipIdx.foldl (divStep p num at') f
/-- rest, quotient behind the turn at `at'` -/
noncomputable def divTurn (p turn : Int) (b : List Int) (rq : List Int × List Int) (at' : Nat) : List Int × List Int :=
  let num := Int.fmod (rq.1.getD (at' + b.length - 1) 0 * turn) p
  (if num = 0 then rq.1 else divInn p num at' b rq.1, rq.2.set at' num)
noncomputable def divLoop (p turn : Int) (b : List Int) : Nat → List Int × List Int → List Int × List Int
  | 0, rq => rq
  | n + 1, rq => divLoop p turn b n (divTurn p turn b rq n)
noncomputable def divRaw (a b : List Int) (p : Int) : List Int × List Int := divLoop p (invF (b.getD (b.length - 1) 0) p) b (a.length + 1 - b.length) (a, List.replicate (a.length + 1 - b.length) 0)
noncomputable def quotF (a b : List Int) (p : Int) : List Int := trimF (divRaw a b p).2
noncomputable def restF (a b : List Int) (p : Int) : List Int := trimF ((divRaw a b p).1.take (b.length - 1))
noncomputable def monicF (a : List Int) (p : Int) : List Int := if a = [] then [] else scaleF a (invF (a.getD (a.length - 1) 0) p) p
noncomputable def matF (a : List Int) (x p : Int) : Int := a.reverse.foldl (fun f c => Int.fmod (f * x + c) p) 0
noncomputable def powLoop (f : List Int) (p : Int) : Nat → Nat → List Int → List Int → List Int
  | 0, _, found, _ => found
  | fuel + 1, n, found, square =>
    if n = 0 then found else
      powLoop f p fuel (n / 2) (if n % 2 = 1 then restF (mulF found square p) f p else found) (if n / 2 = 0 then square else restF (mulF square square p) f p)
noncomputable def powF (a : List Int) (n : Nat) (f : List Int) (p : Int) : List Int := powLoop f p n n (restF [1] f p) (restF a f p)
noncomputable def gcdLoop (p : Int) : Nat → List Int → List Int → List Int
  | 0, a, _ => a
  | fuel + 1, a, b => if b = [] then a else gcdLoop p fuel b (restF a b p)
noncomputable def gcdF (a b : List Int) (p : Int) : List Int := monicF (gcdLoop p (b.length + 1) a b) p
noncomputable def putStep (g d : List Int) (p : Int) (found : List Int) (c : Int) : List Int := addF (restF (mulF found g p) d p) (scaleF [1] c p) p
noncomputable def putF (f g d : List Int) (p : Int) : List Int := f.reverse.foldl (putStep g d p) []
noncomputable def polyRaw (row : List Int) (p : Int) : List Int :=
  Int.fmod (row.getD 0 0) p :: (List.range (p.toNat - 2)).map fun i => Int.fmod (0 - (row.zipIdx.map fun x => x.1 * (x.2 : Int) ^ (p.toNat - 2 - i)).sum) p
noncomputable def polyF (row : List Int) (p : Int) : List Int := trimF (polyRaw row p)
/-- the numbers 0 .. p-1 alone -/
noncomputable def Sm (p : Int) (ns : List Int) : Prop := ∀ x ∈ ns, 0 ≤ x ∧ x < p
noncomputable def Pr (p : Int) : Prop := p = 3 ∨ p = 5 ∨ p = 7
theorem trimF_take : ∀ (l : List Int) (k : Nat), k ≤ l.length → (∀ j, k ≤ j → j < l.length → l.getD j 0 = 0) → (k = 0 ∨ l.getD (k - 1) 0 ≠ 0) → l.take k = trimF l
  | [], k, _, _, _ => by simp [trimF]
  | a :: l, 0, _, h, _ => by
    have ih := trimF_take l 0 (Nat.zero_le _) (fun j _ hj => by have := h (j + 1) (Nat.zero_le _) (by simpa using hj); simpa using this) (.inl rfl)
    have h0 := h 0 (Nat.zero_le _) (by simp)
    simp at h0
    simp at ih
    simp [trimF, ← ih, h0]
  | a :: l, k + 1, hk, h, hl => by
    have ih := trimF_take l k (by simpa using hk) (fun j hj hj' => by have := h (j + 1) (Nat.succ_le_succ hj) (by simpa using hj'); simpa using this)
    have hl' : (a :: l).getD k 0 ≠ 0 := by simpa using hl
    cases k with
    | zero =>
      have ih0 := ih (.inl rfl)
      simp at ih0 hl'
      simp [trimF, ← ih0, hl']
    | succ k =>
      have ih1 := ih (.inr (by simpa using hl'))
      have hne : trimF l ≠ [] := by
        rw [← ih1]
        cases l with
        | nil => simp at hk
        | cons b l => simp
      rw [List.take_succ_cons, ih1]
      simp [trimF, hne]
end Mine
end
section
open PySem PySem.W PyProof.Rows
set_option Elab.async false
set_option maxRecDepth 100000
namespace Mine
/-- the call hands back a new list of the ints ms; nothing that stood is changed -/
noncomputable def CL (w : World) (d u : Nat) (f : Addr) (args : List Value) (s : Shared) (ms : List Int) : Prop :=
  ∀ Q E : Value → Shared → Prop, (∀ h' r us n tk, (∀ b o, s.heap.get? b = some o → h'.get? b = some o) → h'.get? r = some (listOf (List.toArray us) n) → s.heap.get? r = none → IntsAre us ms → Q (.ref r) { s with heap := h', toks := tk }) →
    wpAny (model PySem.Challenge.rw_tk0026_01.row.prog w) (ar d u) (call (.ref f) args) Q E s
theorem news_new {base h h' : Heap} {L r : Addr} {o : Obj} {m : Str → Option Value} {news : List (Addr × Obj)} (F : Fr base L h m) (N : News base L h news) (hk : ∀ b o, h.get? b = some o → h'.get? b = some o) (hr : h'.get? r = some o) (hn : h.get? r = none) :
    News base L h' ((r, o) :: news) := by
  intro p hp
  rcases List.mem_cons.mp hp with rfl | hp
  · refine ⟨hr, ?_, ?_⟩
    · intro e
      obtain ⟨o, _, _, ho, _⟩ := F.ns
      rw [← e, hn] at ho
      cases ho
    · cases q : base.get? r with
      | none => rfl
      | some o => rw [F.keep _ _ q] at hn; cases hn
  · exact ⟨hk _ _ (N p hp).1, (N p hp).2⟩
theorem news_ne {base h : Heap} {L r : Addr} {news : List (Addr × Obj)} (N : News base L h news) (hn : h.get? r = none) : ∀ p ∈ news, p.1 ≠ r := by
  intro p hp e
  have := (N p hp).1
  rw [e, hn] at this
  cases this
theorem CL.use {w : World} {d u : Nat} {f : Addr} {args : List Value} {s : Shared} {ms : List Int} {A : Around} {base : Heap} {L : Addr} {m : Str → Option Value} {news : List (Addr × Obj)} {Q E : Value → Shared → Prop}
    (C : CL w d u f args s ms) (F : Fr base L s.heap m) (N : News base L s.heap news) (hh : A.handled = none) (hd : A.depth ≤ d) (hu : A.units ≤ u)
    (h : ∀ r us n h' tk, Fr base L h' m → News base L h' ((r, listOf (List.toArray us) n) :: news) → (∀ p ∈ news, p.1 ≠ r) → IntsAre us ms → Q (.ref r) { s with heap := h', toks := tk }) :
    wpAny (model PySem.Challenge.rw_tk0026_01.row.prog w) A (call (.ref f) args) Q E s := by
  refine weaken hh hd hu (C Q E fun h' r us n tk hk hr hn hi => h r us n h' tk ?_ ?_ ?_ hi)
  · exact F.keeps hk
  · exact news_new F N hk hr hn
  · exact news_ne N hn
/-- the answer of a def, from what its walk left -/
theorem CL.ret {s : Shared} {ms : List Int} {Q : Value → Shared → Prop}
    (hQ : ∀ h' r us n tk, (∀ b o, s.heap.get? b = some o → h'.get? b = some o) → h'.get? r = some (listOf (List.toArray us) n) → s.heap.get? r = none → IntsAre us ms → Q (.ref r) { s with heap := h', toks := tk }) :
    ∀ (L : Addr) (h' : Heap) (m : Str → Option Value) (news : List (Addr × Obj)) (r : Addr) (us : List Value) (n tk : Nat), Fr s.heap L h' m → News s.heap L h' news → (r, listOf us.toArray n) ∈ news → IntsAre us ms → Q (.ref r) { s with heap := h', toks := tk } :=
  fun _ h' _ _ r us n tk F N hm hi => hQ h' r us n tk F.keep (N _ hm).1 (N _ hm).2.2 hi
/-- the call hands back the int x; nothing that stood is changed -/
noncomputable def CI (w : World) (d u : Nat) (f : Addr) (args : List Value) (s : Shared) (x : Int) : Prop :=
  ∀ Q E : Value → Shared → Prop, (∀ h' t tk, (∀ b o, s.heap.get? b = some o → h'.get? b = some o) → Q (.int x t) { s with heap := h', toks := tk }) →
    wpAny (model PySem.Challenge.rw_tk0026_01.row.prog w) (ar d u) (call (.ref f) args) Q E s
theorem Fr.keepAll {base h h' : Heap} {L : Addr} {m : Str → Option Value} {news : List (Addr × Obj)} (F : Fr base L h m) (N : News base L h news) (hk : ∀ b o, h.get? b = some o → h'.get? b = some o) :
    Fr base L h' m ∧ News base L h' news := ⟨F.keeps hk, fun p hp => ⟨hk _ _ (N p hp).1, (N p hp).2⟩⟩
theorem CI.use {w : World} {d u : Nat} {f : Addr} {args : List Value} {s : Shared} {x : Int} {A : Around} {base : Heap} {L : Addr} {m : Str → Option Value} {news : List (Addr × Obj)} {Q E : Value → Shared → Prop}
    (C : CI w d u f args s x) (F : Fr base L s.heap m) (N : News base L s.heap news) (hh : A.handled = none) (hd : A.depth ≤ d) (hu : A.units ≤ u)
    (h : ∀ t h' tk, Fr base L h' m → News base L h' news → Q (.int x t) { s with heap := h', toks := tk }) :
    wpAny (model PySem.Challenge.rw_tk0026_01.row.prog w) A (call (.ref f) args) Q E s :=
  weaken hh hd hu (C Q E fun h' t tk hk => let ⟨F', N'⟩ := Fr.keepAll F N hk; h t h' tk F' N')
theorem CI.ret {s : Shared} {x : Int} {Q : Value → Shared → Prop}
    (hQ : ∀ h' t tk, (∀ b o, s.heap.get? b = some o → h'.get? b = some o) → Q (.int x t) { s with heap := h', toks := tk }) :
    ∀ (L : Addr) (h' : Heap) (m : Str → Option Value) (y : Int) (t : Tok) (tk : Nat), Fr s.heap L h' m → y = x → Q (.int y t) { s with heap := h', toks := tk } := by
  intro L h' m y t tk F e
  subst e
  exact hQ h' t tk F.keep
noncomputable abbrev tupR (v : Value) (r : Addr) : Obj := { cls := .type "tuple", data := .seq #[v, .ref r] }
/-- the call hands back a new pair, behind it a new list of the ints ms -/
noncomputable def CP (w : World) (d u : Nat) (f : Addr) (args : List Value) (s : Shared) (ms : List Int) : Prop :=
  ∀ Q E : Value → Shared → Prop, (∀ (h' : Heap) (q r : Addr) (v : Value) (us : List Value) (n tk : Nat), (∀ b o, s.heap.get? b = some o → h'.get? b = some o) → h'.get? q = some (tupR v r) → s.heap.get? q = none → h'.get? r = some (listOf us.toArray n) → s.heap.get? r = none → IntsAre us ms → Q (.ref q) { s with heap := h', toks := tk }) →
    wpAny (model PySem.Challenge.rw_tk0026_01.row.prog w) (ar d u) (call (.ref f) args) Q E s
theorem CP.use {w : World} {d u : Nat} {f : Addr} {args : List Value} {s : Shared} {ms : List Int} {A : Around} {base : Heap} {L : Addr} {m : Str → Option Value} {news : List (Addr × Obj)} {Q E : Value → Shared → Prop}
    (C : CP w d u f args s ms) (F : Fr base L s.heap m) (N : News base L s.heap news) (hh : A.handled = none) (hd : A.depth ≤ d) (hu : A.units ≤ u)
    (h : ∀ q r v us n h' tk, Fr base L h' m → News base L h' ((q, tupR v r) :: (r, listOf (List.toArray us) n) :: news) → IntsAre us ms → Q (.ref q) { s with heap := h', toks := tk }) :
    wpAny (model PySem.Challenge.rw_tk0026_01.row.prog w) A (call (.ref f) args) Q E s := by
  refine weaken hh hd hu (C Q E fun h' q r v us n tk hk hq hn hr hn2 hp => h q r v us n h' tk (F.keeps hk) ?_ hp)
  intro p hp
  rcases List.mem_cons.mp hp with rfl | hp
  · exact news_new F N hk hq hn _ (.head _)
  · exact news_new F N hk hr hn2 _ hp
theorem CP.ret {s : Shared} {ms : List Int} {Q : Value → Shared → Prop}
    (hQ : ∀ (h' : Heap) (q r : Addr) (v : Value) (us : List Value) (n tk : Nat), (∀ b o, s.heap.get? b = some o → h'.get? b = some o) → h'.get? q = some (tupR v r) → s.heap.get? q = none → h'.get? r = some (listOf us.toArray n) → s.heap.get? r = none → IntsAre us ms → Q (.ref q) { s with heap := h', toks := tk }) :
    ∀ (L : Addr) (h' : Heap) (m : Str → Option Value) (news : List (Addr × Obj)) (q r : Addr) (v : Value) (us : List Value) (n tk : Nat), Fr s.heap L h' m → News s.heap L h' news → (q, tupR v r) ∈ news → (r, listOf us.toArray n) ∈ news → IntsAre us ms → Q (.ref q) { s with heap := h', toks := tk } :=
  fun _ h' _ _ q r v us n tk F N hm hm2 hi => hQ h' q r v us n tk F.keep (N _ hm).1 (N _ hm).2.2 (N _ hm2).1 (N _ hm2).2.2 hi
theorem enterC {w : World} {A : Around} {s : Shared} {K : Frag} {Q E : Value → Shared → Prop}
    {name qual : Str} {params : Arguments} {body : List Stmt} {scope : Scope} {dV kV doc pm cdv ct oc : Value} {an od : Option Addr} {osl : Array (Option Value)} {f : Addr} {args : List Value} {binds : List (Str × Value)}
    (X : K.In s.heap) (hlim : s.heap.NoLimit)
    (ho : K.lookup f = some ⟨oc, od, .func (fnOf name qual params body scope dV kV doc pm an cdv ct), osl⟩) (hcd : codeIn K cdv qual = true) (hroom : A.depth < recursionLimit)
    (hbind : BindsTo s (fnOf name qual params body scope dV kV doc pm an cdv ct) ⟨args, []⟩ binds)
    (hkind : (binds.all fun y => scope.names.lookup y.1 == some .local || scope.names.lookup y.1 == some .cell) = true)
    (hnd : ((cellsFrom 0 scope.names []).map (·.1)).Nodup)
    (h : ∀ h₁ tk cells, Fr s.heap s.heap.objs.size h₁ (bindL (envOfC qual scope s.heap.objs.size f cdv).kindOf binds fun _ => none) → News s.heap s.heap.objs.size h₁ cells →
      CellsAre (bindC (envOfC qual scope s.heap.objs.size f cdv).kindOf binds fun _ => none) (cellsFrom (s.heap.objs.size + 1) scope.names []) cells →
      wpAny (model PySem.Challenge.rw_tk0026_01.row.prog w) (A.deeper (envOfC qual scope s.heap.objs.size f cdv)) (execs body (envOfC qual scope s.heap.objs.size f cdv))
        (fun fl s' => Q (match fl with | .ret v => v | _ => .none) s') (fun _ _ => False)
        { s with heap := h₁, toks := tk })
    (hco : scope.isCoroutine = false) (hgen : scope.isGenerator = false) (hk : scope.kind = .function) : wpAny (model PySem.Challenge.rw_tk0026_01.row.prog w) A (call (.ref f) args) Q E s := by
  refine wpAny_call ?_
  refine codeAny_call_function hroom (X _ _ ho) rfl hco hgen rfl (codeRec_of X hcd) (hbind _ _ _ _ ?_)
  refine wpAny_newFunctionEnv_cells hk (kindsX hkind _) fun env' he s' x => ?_
  subst he
  refine ⟨hlim.keeps x.toInCall.keep, codeAny_func ?_⟩
  obtain ⟨h₁, tk, rfl, _⟩ := x.done
  have hk₁ := x.toInCall.keep
  obtain ⟨cells, NC, Y⟩ := Cl.news (h₀ := s.heap) (Nat.le_refl _) fun n c hm => ⟨x.cell n c (lookup_of_mem_nodup (cellsFrom_names scope.names 0 (s.heap.objs.size + 1) [] [] rfl ▸ hnd) hm), x.above n c hm⟩
  exact wpAny_mono (h h₁ tk cells ⟨x.toInCall.ns, hk₁, Nat.le_refl _⟩ NC Y) (fun _ _ y => y) fun _ _ y => y.elim
theorem ltlo {d c x : Int} (h : c ≤ x) (hd : d < c) : d < x := Int.lt_of_lt_of_le hd h
theorem lelo {d c x : Int} (h : c ≤ x) (hd : d ≤ c) : d ≤ x := Int.le_trans hd h
theorem neAll {d : Addr} {l : List (Addr × Obj)} (h : ∀ p ∈ l, p.1 < d) : ∀ p ∈ l, p.1 ≠ d := fun p hp => Nat.ne_of_lt (h p hp)
theorem neOf {a d : Nat} {o : Obj} {l : List (Addr × Obj)} (h : ∀ p ∈ l, p.1 ≠ d) (hm : (a, o) ∈ l) : a ≠ d := h _ hm
theorem neOf' {a d : Nat} {o : Obj} {l : List (Addr × Obj)} (h : ∀ p ∈ l, p.1 ≠ d) (hm : (a, o) ∈ l) : d ≠ a := fun e => h _ hm e.symm
noncomputable def Stopped (P : Prop) : Prop := P
theorem Stopped.go {P : Prop} (h : Stopped P) : P := h
theorem Stopped.on {P : Prop} (h : P) : Stopped P := h
theorem fill {w : World} {s : Shared} {A : Around} {Q : Unit → Shared → Prop} {E : Value → Shared → Prop} : (hd.heap_39 w.params).In s.heap → Q () s → wpAny (model PySem.Challenge.rw_tk0026_01.row.prog w) A (pure ()) Q E s := by
  intro _ h
  exact wpAny_pure h
end Mine
end
section
set_option autoImplicit false
namespace Mine
noncomputable def Nm (p : Int) (l : List Int) : Prop := Sm p l ∧ (l = [] ∨ l.getD (l.length - 1) 0 ≠ 0)
theorem Sm.nil {p : Int} : Sm p [] := fun _ h => nomatch h
theorem Sm.cons {p a : Int} {l : List Int} (h : 0 ≤ a ∧ a < p) (hl : Sm p l) : Sm p (a :: l) := fun x hx => by
  rcases List.mem_cons.mp hx with rfl | hx
  · exact h
  · exact hl x hx
theorem Sm.getD {p : Int} {l : List Int} (h : Sm p l) (hp : 0 < p) (i : Nat) : 0 ≤ l.getD i 0 ∧ l.getD i 0 < p := by
  rw [List.getD_eq_getElem?_getD]
  cases e : l[i]? with
  | none => exact ⟨Int.le_refl _, hp⟩
  | some x => exact h x (List.mem_of_getElem? e)
theorem fmod_bd (x : Int) {p : Int} (hp : 0 < p) : 0 ≤ Int.fmod x p ∧ Int.fmod x p < p := by
  rw [Int.fmod_eq_emod_of_nonneg x (by omega)]
  exact ⟨Int.emod_nonneg x (by omega), Int.emod_lt_of_pos x hp⟩
theorem Sm.map {α : Type} {p : Int} {f : α → Int} {l : List α} (h : ∀ x ∈ l, 0 ≤ f x ∧ f x < p) : Sm p (l.map f) := fun y hy => by
  obtain ⟨x, hx, rfl⟩ := List.mem_map.mp hy
  exact h x hx
theorem Sm.set {p v : Int} {l : List Int} (h : Sm p l) (hv : 0 ≤ v ∧ v < p) (i : Nat) : Sm p (l.set i v) := fun x hx => by
  rcases List.mem_or_eq_of_mem_set hx with hx | rfl
  · exact h x hx
  · exact hv
theorem Sm.replicate {p : Int} (hp : 0 < p) (n : Nat) : Sm p (List.replicate n 0) := fun x hx => by
  rw [(List.mem_replicate.mp hx).2]
  exact ⟨Int.le_refl _, hp⟩
theorem Sm.take {p : Int} {l : List Int} (h : Sm p l) (n : Nat) : Sm p (l.take n) := fun x hx => h x (List.mem_of_mem_take hx)
theorem trimF_sm {p : Int} : ∀ {l : List Int}, Sm p l → Sm p (trimF l)
  | [], _ => Sm.nil
  | a :: l, h => by
    unfold trimF
    split
    · exact Sm.nil
    · exact Sm.cons (h a (.head _)) (trimF_sm fun x hx => h x (.tail _ hx))
theorem trimF_len : ∀ (l : List Int), (trimF l).length ≤ l.length
  | [] => Nat.le_refl _
  | a :: l => by
    unfold trimF
    split
    · exact Nat.zero_le _
    · exact Nat.succ_le_succ (trimF_len l)
theorem trimF_last : ∀ (l : List Int), trimF l = [] ∨ (trimF l).getD ((trimF l).length - 1) 0 ≠ 0
  | [] => .inl rfl
  | a :: l => by
    unfold trimF
    split
    · exact .inl rfl
    · rename_i h
      right
      rcases trimF_last l with e | e
      · rw [e]
        simp only [List.length_cons, List.length_nil, Nat.zero_add, Nat.sub_self, List.getD_cons_zero]
        exact fun h0 => h ⟨e, h0⟩
      · cases q : trimF l with
        | nil =>
          rw [q] at e
          exact absurd rfl e
        | cons b r =>
          rw [q] at e
          simpa using e
theorem trimF_getD : ∀ (l : List Int) (i : Nat), (trimF l).getD i 0 = l.getD i 0
  | [], _ => rfl
  | a :: l, i => by
    have ih := trimF_getD l
    unfold trimF
    split
    · rename_i h
      rw [h.1] at ih
      cases i with
      | zero => simp [h.2]
      | succ i => rw [List.getD_cons_succ, ← ih i]; simp
    · cases i with
      | zero => simp
      | succ i => rw [List.getD_cons_succ, List.getD_cons_succ, ih i]
theorem trimF_nm {p : Int} {l : List Int} (h : Sm p l) : Nm p (trimF l) := ⟨trimF_sm h, trimF_last l⟩
theorem Nm.last {p : Int} {l : List Int} (h : Nm p l) (hl : 0 < l.length) : 0 < l.getD (l.length - 1) 0 ∧ l.getD (l.length - 1) 0 < p := by
  have hne : l ≠ [] := fun e => by rw [e] at hl; exact absurd hl (Nat.lt_irrefl _)
  have h0 := h.2.resolve_left hne
  have hm : l.getD (l.length - 1) 0 ∈ l := by
    rw [List.getD_eq_getElem?_getD, List.getElem?_eq_getElem (by omega : l.length - 1 < l.length)]
    exact List.getElem_mem _
  have hb := h.1 _ hm
  omega
theorem addF_nm {a b : List Int} {p : Int} (hp : 0 < p) : Nm p (addF a b p) := trimF_nm (Sm.map fun _ _ => fmod_bd _ hp)
theorem addF_len {a b : List Int} {p : Int} : (addF a b p).length ≤ max a.length b.length := Nat.le_trans (trimF_len _) (by simp)
theorem negF_sm {a : List Int} {p : Int} (hp : 0 < p) : Sm p (negF a p) := Sm.map fun _ _ => fmod_bd _ hp
theorem negF_len {a : List Int} {p : Int} : (negF a p).length = a.length := by simp [negF]
theorem subF_nm {a b : List Int} {p : Int} (hp : 0 < p) : Nm p (subF a b p) := addF_nm hp
theorem subF_len {a b : List Int} {p : Int} : (subF a b p).length ≤ max a.length b.length := by
  have := addF_len (a := a) (b := negF b p) (p := p)
  rw [negF_len] at this
  exact this
theorem scaleF_nm {a : List Int} {k p : Int} (hp : 0 < p) : Nm p (scaleF a k p) := trimF_nm (Sm.map fun _ _ => fmod_bd _ hp)
theorem scaleF_len {a : List Int} {k p : Int} : (scaleF a k p).length ≤ a.length := Nat.le_trans (trimF_len _) (by simp)
theorem foldl_inv {α β : Type} (I : β → Prop) (f : β → α → β) (h : ∀ b a, I b → I (f b a)) : ∀ (l : List α) (b : β), I b → I (l.foldl f b)
  | [], _, hb => hb
  | a :: l, b, hb => foldl_inv I f h l (f b a) (h b a hb)
theorem mulInn_sm {p one : Int} {at' : Nat} {b f : List Int} (hp : 0 < p) (hf : Sm p f) : Sm p (mulInn p one at' b f) := foldl_inv (Sm p) _ (fun _ _ h => h.set (fmod_bd _ hp) _) _ _ hf
theorem mulInn_len {p one : Int} {at' : Nat} {b f : List Int} : (mulInn p one at' b f).length = f.length := foldl_inv (fun g : List Int => g.length = f.length) _ (fun _ _ h => by unfold mulStep; rw [List.length_set]; exact h) _ _ rfl
theorem mulRaw_sm {a b : List Int} {p : Int} (hp : 0 < p) : Sm p (mulRaw a b p) := foldl_inv (Sm p) _ (fun _ _ h => by unfold mulTurn; split; exact h; exact mulInn_sm hp h) _ _ (Sm.replicate hp _)
theorem mulRaw_len {a b : List Int} {p : Int} : (mulRaw a b p).length = a.length + b.length - 1 := foldl_inv (fun g : List Int => g.length = a.length + b.length - 1) _ (fun _ _ h => by unfold mulTurn; split; exact h; rw [mulInn_len]; exact h) _ _ (by simp)
theorem mulF_nm {a b : List Int} {p : Int} (hp : 0 < p) : Nm p (mulF a b p) := by
  unfold mulF
  split
  · exact ⟨Sm.nil, .inl rfl⟩
  · exact trimF_nm (mulRaw_sm hp)
theorem mulF_len {a b : List Int} {p : Int} : (mulF a b p).length ≤ a.length + b.length - 1 := by
  unfold mulF
  split
  · exact Nat.zero_le _
  · exact Nat.le_trans (trimF_len _) (Nat.le_of_eq mulRaw_len)
theorem divInn_sm {p one : Int} {at' : Nat} {b f : List Int} (hp : 0 < p) (hf : Sm p f) : Sm p (divInn p one at' b f) := foldl_inv (Sm p) _ (fun _ _ h => h.set (fmod_bd _ hp) _) _ _ hf
theorem divInn_len {p one : Int} {at' : Nat} {b f : List Int} : (divInn p one at' b f).length = f.length := foldl_inv (fun g : List Int => g.length = f.length) _ (fun _ _ h => by unfold divStep; rw [List.length_set]; exact h) _ _ rfl
theorem divLoop_inv {p turn : Int} {b : List Int} (hp : 0 < p) (M K : Nat) : ∀ (n : Nat) (rq : List Int × List Int), (Sm p rq.1 ∧ Sm p rq.2 ∧ rq.1.length = M ∧ rq.2.length = K) → (Sm p (divLoop p turn b n rq).1 ∧ Sm p (divLoop p turn b n rq).2 ∧ (divLoop p turn b n rq).1.length = M ∧ (divLoop p turn b n rq).2.length = K)
  | 0, _, h => h
  | n + 1, rq, h => by
    refine divLoop_inv hp M K n _ ?_
    unfold divTurn
    refine ⟨?_, h.2.1.set (fmod_bd _ hp) _, ?_, by rw [List.length_set]; exact h.2.2.2⟩
    · dsimp only
      split
      · exact h.1
      · exact divInn_sm hp h.1
    · dsimp only
      split
      · exact h.2.2.1
      · rw [divInn_len]; exact h.2.2.1
theorem divRaw_inv {a b : List Int} {p : Int} (hp : 0 < p) (h : Sm p a) : Sm p (divRaw a b p).1 ∧ Sm p (divRaw a b p).2 ∧ (divRaw a b p).1.length = a.length ∧ (divRaw a b p).2.length = a.length + 1 - b.length :=
  divLoop_inv hp _ _ _ _ ⟨h, Sm.replicate hp _, rfl, by simp⟩
theorem restF_nm {a b : List Int} {p : Int} (hp : 0 < p) (h : Sm p a) : Nm p (restF a b p) := trimF_nm ((divRaw_inv hp h).1.take _)
theorem restF_len {a b : List Int} {p : Int} : (restF a b p).length ≤ b.length - 1 := Nat.le_trans (trimF_len _) (by rw [List.length_take]; omega)
theorem Pr.two {p : Int} (h : Pr p) : 2 ≤ p := by rcases h with rfl | rfl | rfl <;> decide
theorem Pr.le7 {p : Int} (h : Pr p) : p ≤ 7 := by rcases h with rfl | rfl | rfl <;> decide
theorem Pr.pos {p : Int} (h : Pr p) : 0 < p := by rcases h with rfl | rfl | rfl <;> decide
theorem invF_bd {a p : Int} (hp : 0 < p) : 0 ≤ invF a p ∧ invF a p < p := fmod_bd _ hp
theorem monicF_nm {a : List Int} {p : Int} (hp : 0 < p) : Nm p (monicF a p) := by
  unfold monicF
  split
  · exact ⟨Sm.nil, .inl rfl⟩
  · exact scaleF_nm hp
end Mine
end
section
open PySem PySem.W PyProof.Rows PySem.Calls PySem.Spec
set_option autoImplicit false
namespace Mine
/-- what stands behind a turn of a loop that changes the ints of one list D -/
noncomputable def EnumEnd (h₀ : Heap) (L D : Addr) (rest own : List (Addr × Obj)) (xi xc : Str) (stored : List Str) (m : Str → Option Value) (P : List Int → Prop) (s s₂ : Shared) : Prop :=
  ∃ (h' : Heap) (tk : Nat) (m' : Str → Option Value) (news' : List (Addr × Obj)) (us : List Value) (fs : List Int) (n : Nat), s₂ = { s with heap := h', toks := tk } ∧ Fr h₀ L h' m' ∧ News h₀ L h' news' ∧ (D, listOf us.toArray n) ∈ news' ∧
    (∀ p ∈ rest, p ∈ news') ∧ (∀ p ∈ own, p ∈ news') ∧ IntsAre us fs ∧ (∀ z, z ≠ xi → z ≠ xc → stored.contains z = false → m' z = m z) ∧ P fs
theorem EnumEnd.intro {h₀ : Heap} {L D : Addr} {rest own : List (Addr × Obj)} {xi xc : Str} {stored : List Str} {m : Str → Option Value} {P : List Int → Prop} {s : Shared} {h' : Heap} {tk : Nat} {m' : Str → Option Value} {news' : List (Addr × Obj)} {us : List Value} {fs : List Int} {n : Nat}
    (F : Fr h₀ L h' m') (N : News h₀ L h' news') (hD : (D, listOf us.toArray n) ∈ news') (hr : ∀ p ∈ rest, p ∈ news') (ho : ∀ p ∈ own, p ∈ news') (hi : IntsAre us fs) (hm : ∀ z, z ≠ xi → z ≠ xc → stored.contains z = false → m' z = m z) (hp : P fs) :
    EnumEnd h₀ L D rest own xi xc stored m P s { s with heap := h', toks := tk } := ⟨h', tk, m', news', us, fs, n, rfl, F, N, hD, hr, ho, hi, hm, hp⟩
noncomputable def EnumPost (h₀ : Heap) (L D : Addr) (rest own : List (Addr × Obj)) (xi xc : Str) (stored : List Str) (m : Str → Option Value) (P : List Int → Prop) (s : Shared) (Q : Flow → Shared → Prop) (f : Flow) (s₂ : Shared) : Prop :=
  match f with
  | .ret v => Q (.ret v) s₂
  | .brk => Q .next s₂
  | _ => EnumEnd h₀ L D rest own xi xc stored m P s s₂
/-- a frame's map with the two loop names and the stored ones left open -/
noncomputable def openM (xi xc : Str) (stored : List Str) (u m : Str → Option Value) : Str → Option Value := fun y => if y = xc then u y else if y = xi then u y else if stored.contains y then u y else m y
section
variable {prog : Program} {w : World} {A : Around} {E : Value → Shared → Prop} {s : Shared} {env : Env} {h₀ : Heap} {m : Str → Option Value} {xi xc : Str} {body : List Stmt} {Q : Flow → Shared → Prop} {xv : Value} {D : Addr} {rest : List (Addr × Obj)}
theorem openM_of {stored : List Str} {m₁ : Str → Option Value} (h : ∀ z, z ≠ xi → z ≠ xc → stored.contains z = false → m₁ z = m z) : m₁ = openM xi xc stored m₁ m := by
  funext y
  unfold openM
  by_cases h1 : y = xc
  · rw [if_pos h1]
  · rw [if_neg h1]
    by_cases h2 : y = xi
    · rw [if_pos h2]
    · rw [if_neg h2]
      cases h3 : stored.contains y with
      | true => simp
      | false => simp only [Bool.false_eq_true, if_false]; exact h y h2 h1 h3
theorem enum_st {ns fs₀ : List Int} {us₀ : List Value} {n₀ : Nat} (stored : List Str) (P : Nat → List Int → Prop)
    (S : PairSrcL prog w A E h₀ env.locals ItemKind.int ns xv s m ((D, listOf us₀.toArray n₀) :: rest)) (hi : IntsAre us₀ fs₀) (h0 : P 0 fs₀)
    (turn : ∀ (i : Nat) (a : Int) t ta (us : List Value) (fs : List Int) n (u : Str → Option Value) h tk own, ns[i]? = some a → i < ns.length → a ∈ ns → IntsAre us fs → P i fs → OwnOff own (D :: rest.map (·.1)) →
      Fr h₀ env.locals h (fun y => if y = xc then some (.int a ta) else if y = xi then some (.int i t) else if stored.contains y then u y else m y) → News h₀ env.locals h ((D, listOf us.toArray n) :: (rest ++ own)) →
      wpAny (model prog w) A (execs body env) (EnumPost h₀ env.locals D rest own xi xc stored m (P (i + 1)) { s with heap := h, toks := tk } Q) E { s with heap := h, toks := tk })
    (done : ∀ (us : List Value) (fs : List Int) n (u : Str → Option Value) h' tk, IntsAre us fs → P ns.length fs → Fr h₀ env.locals h' (openM xi xc stored u m) → News h₀ env.locals h' ((D, listOf us.toArray n) :: rest) → Q .next { s with heap := h', toks := tk }) :
    wpAny (model prog w) A (pyIter xv) (fun it s₂ => PairAt3 prog w A h₀ env xi xc body Q E it s₂) E s := by
  refine S.at env rfl xi xc body Q (fun i m₁ nx => ∃ us fs n, nx = (D, listOf (List.toArray us) n) :: rest ∧ IntsAre us fs ∧ P i fs ∧ ∀ z, z ≠ xi → z ≠ xc → stored.contains z = false → m₁ z = m z) ⟨us₀, fs₀, n₀, rfl, hi, h0, fun _ _ _ _ => rfl⟩ ?_ ?_
  · rintro i a t v m₁ news₁ s₁ own ⟨h, tk, rfl⟩ hn hk ⟨us, fs, n, rfl, hi', hP, hm⟩ _ hown F₁ N₁
    obtain ⟨ta, rfl⟩ := ItemKind.int_is hk
    have e : (fun y => if y = xc then some (Value.int a ta) else if y = xi then some (Value.int i t) else m₁ y) = fun y => if y = xc then some (Value.int a ta) else if y = xi then some (Value.int i t) else if stored.contains y then m₁ y else m y := by
      funext y
      by_cases h1 : y = xc
      · rw [if_pos h1, if_pos h1]
      · rw [if_neg h1, if_neg h1]
        by_cases h2 : y = xi
        · rw [if_pos h2, if_pos h2]
        · rw [if_neg h2, if_neg h2]
          cases h3 : stored.contains y with
          | true => simp
          | false => simp only [Bool.false_eq_true, if_false]; exact hm y h2 h1 h3
    have hf := ints_get_facts hn
    have hoff : OwnOff own (D :: rest.map (·.1)) := by
      intro p hp b hb
      rcases List.mem_cons.mp hb with rfl | hb
      · exact hown p hp (_, _) (.head _)
      · obtain ⟨q, hq, rfl⟩ := List.mem_map.mp hb
        exact hown p hp q (.tail _ hq)
    refine wpAny_mono (turn i a t ta us fs n m₁ h tk own hn hf.1 (List.mem_of_getElem? hn) hi' hP hoff (e ▸ F₁) ?_) (fun f s₂ p => ?_) fun _ _ x => x
    · intro p hp
      refine N₁ p ?_
      rcases List.mem_cons.mp hp with rfl | hp
      · exact List.mem_append_right _ (.head _)
      · rcases List.mem_append.mp hp with hp | hp
        · exact List.mem_append_right _ (.tail _ hp)
        · exact List.mem_append_left _ hp
    · have fin : EnumEnd h₀ env.locals D rest own xi xc stored m (P (i + 1)) { s with heap := h, toks := tk } s₂ → LoopStep2 h₀ env.locals own ((D, listOf us.toArray n) :: rest) (fun m₁ nx => ∃ us fs n, nx = (D, listOf (List.toArray us) n) :: rest ∧ IntsAre us fs ∧ P (i + 1) fs ∧ ∀ z, z ≠ xi → z ≠ xc → stored.contains z = false → m₁ z = m z) { s with heap := h, toks := tk } .next s₂ := by
        rintro ⟨h', tk', m', news', us', fs', n', rfl, F', N', hD, hr, ho, hi2, hm2, hp2⟩
        refine ⟨rfl, h', tk', m', (D, listOf us'.toArray n') :: rest, rfl, F', ?_, rfl, us', fs', n', rfl, hi2, hp2, hm2⟩
        intro p hp
        refine N' p ?_
        rcases List.mem_append.mp hp with hp | hp
        · exact ho p hp
        · rcases List.mem_cons.mp hp with rfl | hp
          · exact hD
          · exact hr p hp
      cases f with
      | ret v => exact p
      | brk => exact p
      | next => exact fin p
      | cont => exact fin p
  · rintro h' tk m' news' F' N' _ ⟨us, fs, n, rfl, hi', hP, hm⟩
    exact done us fs n m' h' tk hi' hP (openM_of hm ▸ F') N'
end

/-- two lists of ints, as the ledger holds them -/
structure L2 where
  us : List Value
  fs : List Int
  n : Nat
  vs : List Value
  gs : List Int
  k : Nat
noncomputable def DownEnd (h₀ : Heap) (L D D2 : Addr) (own : List (Addr × Obj)) (x : Str) (stored : List Str) (m : Str → Option Value) (P : List Int → List Int → Prop) (s s₂ : Shared) : Prop :=
  ∃ (h' : Heap) (tk : Nat) (m' : Str → Option Value) (news' : List (Addr × Obj)) (c : L2), s₂ = { s with heap := h', toks := tk } ∧ Fr h₀ L h' m' ∧ News h₀ L h' news' ∧ (D, listOf c.us.toArray c.n) ∈ news' ∧ (D2, listOf c.vs.toArray c.k) ∈ news' ∧
    (∀ p ∈ own, p ∈ news') ∧ IntsAre c.us c.fs ∧ IntsAre c.vs c.gs ∧ (∀ z, z ≠ x → stored.contains z = false → m' z = m z) ∧ P c.fs c.gs
theorem DownEnd.intro {h₀ : Heap} {L D D2 : Addr} {own : List (Addr × Obj)} {x : Str} {stored : List Str} {m : Str → Option Value} {P : List Int → List Int → Prop} {s : Shared} {h' : Heap} {tk : Nat} {m' : Str → Option Value} {news' : List (Addr × Obj)} {us vs : List Value} {fs gs : List Int} {n k : Nat}
    (F : Fr h₀ L h' m') (N : News h₀ L h' news') (hD : (D, listOf us.toArray n) ∈ news') (hD2 : (D2, listOf vs.toArray k) ∈ news') (ho : ∀ p ∈ own, p ∈ news') (hi : IntsAre us fs) (hi2 : IntsAre vs gs) (hm : ∀ z, z ≠ x → stored.contains z = false → m' z = m z) (hp : P fs gs) :
    DownEnd h₀ L D D2 own x stored m P s { s with heap := h', toks := tk } := ⟨h', tk, m', news', ⟨us, fs, n, vs, gs, k⟩, rfl, F, N, hD, hD2, ho, hi, hi2, hm, hp⟩
noncomputable def DownPost (h₀ : Heap) (L D D2 : Addr) (own : List (Addr × Obj)) (x : Str) (stored : List Str) (m : Str → Option Value) (P : List Int → List Int → Prop) (s : Shared) (Q : Flow → Shared → Prop) (f : Flow) (s₂ : Shared) : Prop :=
  match f with
  | .ret v => Q (.ret v) s₂
  | .brk => Q .next s₂
  | _ => DownEnd h₀ L D D2 own x stored m P s s₂
section
variable {prog : Program} {w : World} {A : Around} {E : Value → Shared → Prop} {s : Shared} {env : Env} {h₀ : Heap} {m : Str → Option Value} {x : Str} {body : List Stmt} {Q : Flow → Shared → Prop}
theorem down_st {r D D2 : Addr} {a₀ : Int} {t₀ u₀ v₀ : Tok} {us₀ vs₀ : List Value} {fs₀ gs₀ : List Int} {n₀ k₀ : Nat} {news : List (Addr × Obj)} (N : Nat) (stored : List Str) (P : Nat → List Int → List Int → Prop)
    (hh : A.handled = none) (hr : IsRange s.heap r a₀ (-1) (-1) t₀ u₀ v₀) (hN : N = (a₀ + 1).toNat) (hs0 : -1000 ≤ a₀) (hs1 : a₀ < 1000) (F : Fr h₀ env.locals s.heap m) (hn : News h₀ env.locals s.heap news) (hD : (D, listOf us₀.toArray n₀) ∈ news) (hD2 : (D2, listOf vs₀.toArray k₀) ∈ news)
    (hi : IntsAre us₀ fs₀) (hi2 : IntsAre vs₀ gs₀) (h0 : P 0 fs₀ gs₀)
    (turn : ∀ (i : Nat) (k : Int) t (us : List Value) (fs : List Int) n (vs : List Value) (gs : List Int) kk (u : Str → Option Value) h tk own, k = a₀ - (i : Int) → i < N → IntsAre us fs → IntsAre vs gs → P i fs gs → OwnOff own [D, D2] →
      Fr h₀ env.locals h (fun y => if y = x then some (.int k t) else if stored.contains y then u y else m y) → News h₀ env.locals h ((D, listOf us.toArray n) :: (D2, listOf vs.toArray kk) :: own) →
      wpAny (model prog w) A (execs body env) (DownPost h₀ env.locals D D2 own x stored m (P (i + 1)) { s with heap := h, toks := tk } Q) E { s with heap := h, toks := tk })
    (done : ∀ (us : List Value) (fs : List Int) n (vs : List Value) (gs : List Int) kk (u : Str → Option Value) h' tk, IntsAre us fs → IntsAre vs gs → P N fs gs → Fr h₀ env.locals h' (fun y => if y = x then u y else if stored.contains y then u y else m y) → News h₀ env.locals h' [(D, listOf us.toArray n), (D2, listOf vs.toArray kk)] → Q .next { s with heap := h', toks := tk }) :
    wpAny (model prog w) A (pyIter (.ref r)) (fun it s₂ => LoopAtV prog w A h₀ env x body Q E it s₂) E s := by
  refine kst_rangeD (σ := L2) (n := N) (fun c => [(D, listOf c.us.toArray c.n), (D2, listOf c.vs.toArray c.k)]) (fun _ => []) (fun c => IntsAre c.us c.fs ∧ IntsAre c.vs c.gs) stored (fun pre c => P pre.length c.fs c.gs) ⟨us₀, fs₀, n₀, vs₀, gs₀, k₀⟩
    hh hr (small_down (by omega) (by omega) (by omega) (by omega)) (by rw [rangeSize_downNat]; omega) F (kst_newsOf hn (by
      intro p hp
      rcases List.mem_cons.mp hp with rfl | hp
      · exact hD
      · rw [List.mem_singleton.mp hp]; exact hD2)) ⟨hi, hi2⟩ (fun _ hp => nomatch hp) h0 ?_ ?_
  · rintro ⟨us, fs, n, vs, gs, kk⟩ pre k t u h tk own hk hlt hoff ⟨g1, g2⟩ hP F₁ N₁
    refine wpAny_mono (turn pre.length k t us fs n vs gs kk u h tk own hk hlt g1 g2 hP hoff F₁ N₁) (fun f s₂ p => ?_) fun _ _ x => x
    have fin : DownEnd h₀ env.locals D D2 own x stored m (P (pre.length + 1)) { s with heap := h, toks := tk } s₂ → InvEndN h₀ env.locals (KstS (fun c : L2 => [(D, listOf c.us.toArray c.n), (D2, listOf c.vs.toArray c.k)]) (fun _ => []) (fun c => IntsAre c.us c.fs ∧ IntsAre c.vs c.gs) x stored m (fun pre c => P pre.length c.fs c.gs) (pre ++ [k])) own [D, D2] { s with heap := h, toks := tk } s₂ := by
      rintro ⟨h', tk', m', news', c, rfl, F', N', q1, q2, ho, i1, i2, hm, hp⟩
      refine kst_end c F' N' (by
        intro p hp
        rcases List.mem_cons.mp hp with rfl | hp
        · exact q1
        · rw [List.mem_singleton.mp hp]; exact q2) ho rfl ⟨i1, i2⟩ (fun _ hp => nomatch hp) (fun z hz _ hs => hm z hz hs) (by rw [List.length_append]; exact hp)
    cases f with
    | ret v => exact p
    | brk => exact p
    | next => exact fin p
    | cont => exact fin p
  · rintro ⟨us, fs, n, vs, gs, kk⟩ u h tk ⟨g1, g2⟩ hP F₁ N₁
    rw [downKs_length] at hP
    exact done us fs n vs gs kk u h tk g1 g2 hP F₁ N₁
end
/-- a list that stood before the call, or one that it has made -/
inductive LK where
  | base
  | new (n : Nat)
noncomputable def LK.led (k : LK) (D : Addr) (us : List Value) : List (Addr × Obj) := match k with
  | .base => []
  | .new n => [(D, listOf us.toArray n)]
noncomputable def LK.fact (k : LK) (h₀ : Heap) (D : Addr) (us : List Value) : Prop := match k with
  | .base => h₀.IsList D us.toArray
  | .new _ => True
noncomputable def HasL (h₀ : Heap) (nx : List (Addr × Obj)) (D : Addr) (us : List Value) : Prop := ∃ k : LK, k.fact h₀ D us ∧ ∀ p ∈ k.led D us, p ∈ nx
theorem HasL.ofBase {h₀ : Heap} {nx : List (Addr × Obj)} {D : Addr} {us : List Value} (h : h₀.IsList D us.toArray) : HasL h₀ nx D us := ⟨.base, h, fun _ hp => nomatch hp⟩
theorem HasL.ofNew {h₀ : Heap} {nx : List (Addr × Obj)} {D : Addr} {us : List Value} {n : Nat} (h : (D, listOf us.toArray n) ∈ nx) : HasL h₀ nx D us := ⟨.new n, trivial, fun p hp => by rw [List.mem_singleton.mp hp]; exact h⟩
noncomputable def GwEnd (h₀ : Heap) (L : Addr) (x1 x2 : Str) (m : Str → Option Value) (P : List Int → List Int → Prop) (M : Nat) (s s₂ : Shared) : Prop :=
  ∃ (h' : Heap) (tk : Nat) (m' : Str → Option Value) (nx : List (Addr × Obj)) (D1 D2 : Addr) (us1 us2 : List Value) (fs1 fs2 : List Int), s₂ = { s with heap := h', toks := tk } ∧ Fr h₀ L h' m' ∧ News h₀ L h' nx ∧ m' x1 = some (.ref D1) ∧ m' x2 = some (.ref D2) ∧ (∀ z, z ≠ x1 → z ≠ x2 → m' z = m z) ∧
    HasL h₀ nx D1 us1 ∧ HasL h₀ nx D2 us2 ∧ IntsAre us1 fs1 ∧ IntsAre us2 fs2 ∧ P fs1 fs2 ∧ fs2.length < M
theorem GwEnd.intro {h₀ : Heap} {L : Addr} {x1 x2 : Str} {m : Str → Option Value} {P : List Int → List Int → Prop} {M : Nat} {s : Shared} {h' : Heap} {tk : Nat} {m' : Str → Option Value} {nx : List (Addr × Obj)} {D1 D2 : Addr} {us1 us2 : List Value} {fs1 fs2 : List Int}
    (F : Fr h₀ L h' m') (N : News h₀ L h' nx) (h1 : m' x1 = some (.ref D1)) (h2 : m' x2 = some (.ref D2)) (hm : ∀ z, z ≠ x1 → z ≠ x2 → m' z = m z) (a1 : HasL h₀ nx D1 us1) (a2 : HasL h₀ nx D2 us2) (i1 : IntsAre us1 fs1) (i2 : IntsAre us2 fs2) (hp : P fs1 fs2 ∧ fs2.length < M) :
    GwEnd h₀ L x1 x2 m P M s { s with heap := h', toks := tk } := ⟨h', tk, m', nx, D1, D2, us1, us2, fs1, fs2, rfl, F, N, h1, h2, hm, a1, a2, i1, i2, hp.1, hp.2⟩
noncomputable def GwPost (h₀ : Heap) (L : Addr) (x1 x2 : Str) (m : Str → Option Value) (P : List Int → List Int → Prop) (M : Nat) (s : Shared) (Q : Flow → Shared → Prop) (f : Flow) (s₂ : Shared) : Prop :=
  match f with
  | .ret v => Q (.ret v) s₂
  | .brk => Q .next s₂
  | _ => GwEnd h₀ L x1 x2 m P M s s₂
section
variable {prog : Program} {w : World} {A : Around} {E : Value → Shared → Prop} {Q : Flow → Shared → Prop} {s : Shared} {env : Env} {h₀ : Heap} {L : Addr}
theorem gw_while {x1 x2 : Str} {test : PySem.Expr} {body : List Stmt} {pos : Pos} {m : Str → Option Value} {news : List (Addr × Obj)} {D1 D2 : Addr} {us1 us2 : List Value} {fs1 fs2 : List Int} (P : List Int → List Int → Prop)
    (F : Fr h₀ L s.heap m) (N : News h₀ L s.heap news) (h1 : m x1 = some (.ref D1)) (h2 : m x2 = some (.ref D2)) (a1 : HasL h₀ news D1 us1) (a2 : HasL h₀ news D2 us2) (i1 : IntsAre us1 fs1) (i2 : IntsAre us2 fs2) (hp : P fs1 fs2)
    (turn : ∀ (k1 k2 : LK) (D1 D2 : Addr) (us1 us2 : List Value) (fs1 fs2 : List Int) h tk, k1.fact h₀ D1 us1 → k2.fact h₀ D2 us2 → IntsAre us1 fs1 → IntsAre us2 fs2 → P fs1 fs2 →
      Fr h₀ L h (fun y => if y = x1 then some (.ref D1) else if y = x2 then some (.ref D2) else m y) → News h₀ L h (k2.led D2 us2 ++ k1.led D1 us1) →
      wpAny (model prog w) A (isTrue test env (eval test env)) (fun b s₂ =>
        if b = true then wpAny (model prog w) A (execs body env) (GwPost h₀ L x1 x2 m P fs2.length s Q) E s₂ else Q .next s₂) E { s with heap := h, toks := tk })
    (hE : PassesOwn (model prog w) A env E) :
    wpAny (model prog w) A (exec (.While test body [] pos) env) Q E s := by
  refine While_inv2 (fun n m' nx => ∃ (D1 D2 : Addr) (us1 us2 : List Value) (fs1 fs2 : List Int), m' x1 = some (.ref D1) ∧ m' x2 = some (.ref D2) ∧ (∀ z, z ≠ x1 → z ≠ x2 → m' z = m z) ∧ HasL h₀ nx D1 us1 ∧ HasL h₀ nx D2 us2 ∧ IntsAre us1 fs1 ∧ IntsAre us2 fs2 ∧ P fs1 fs2 ∧ n = fs2.length) F N
    ⟨D1, D2, us1, us2, fs1, fs2, h1, h2, fun _ _ _ => rfl, a1, a2, i1, i2, hp, rfl⟩ ?_ hE
  rintro n m₁ nx h tk F₁ N₁ ⟨D1, D2, us1, us2, fs1, fs2, g1, g2, gm, ⟨k1, b1, c1⟩, ⟨k2, b2, c2⟩, j1, j2, hp', rfl⟩
  have em : (fun y => if y = x1 then some (Value.ref D1) else if y = x2 then some (Value.ref D2) else m y) = m₁ := by
    funext y
    by_cases e1 : y = x1
    · rw [if_pos e1, e1, g1]
    · rw [if_neg e1]
      by_cases e2 : y = x2
      · rw [if_pos e2, e2, g2]
      · rw [if_neg e2]; exact (gm y e1 e2).symm
  refine wpAny_mono (turn k1 k2 D1 D2 us1 us2 fs1 fs2 h tk b1 b2 j1 j2 hp' (em ▸ F₁) ?_) (fun b s₂ p => ?_) fun _ _ x => x
  · intro p hp
    rcases List.mem_append.mp hp with hp | hp
    · exact N₁ p (c2 p hp)
    · exact N₁ p (c1 p hp)
  · cases b with
    | false => simpa using p
    | true =>
      simp only [if_true] at p ⊢
      refine wpAny_mono p (fun f s₃ q => ?_) fun _ _ x => x
      cases f with
      | ret v => exact q
      | brk => exact q
      | next =>
        obtain ⟨h', tk', m', nx', D1', D2', us1', us2', fs1', fs2', rfl, F', N', q1, q2, qm, r1, r2, t1, t2, hp9, hl9⟩ := q
        exact ⟨h', tk', m', nx', fs2'.length, rfl, F', N', hl9, D1', D2', us1', us2', fs1', fs2', q1, q2, qm, r1, r2, t1, t2, hp9, rfl⟩
      | cont =>
        obtain ⟨h', tk', m', nx', D1', D2', us1', us2', fs1', fs2', rfl, F', N', q1, q2, qm, r1, r2, t1, t2, hp9, hl9⟩ := q
        exact ⟨h', tk', m', nx', fs2'.length, rfl, F', N', hl9, D1', D2', us1', us2', fs1', fs2', q1, q2, qm, r1, r2, t1, t2, hp9, rfl⟩
end

/-- what stands behind a turn of a for loop whose names are bound anew; I: the iterator -/
noncomputable def AEnd {σ : Type} (h₀ : Heap) (L : Addr) (Led : σ → List (Addr × Obj)) (ps : σ → List (Str × Value)) (stored : List Str) (x : Str) (m : Str → Option Value) (P : σ → Prop) (I : Addr) (oI : Obj) (s s₂ : Shared) : Prop :=
  ∃ (c : σ) (h' : Heap) (tk : Nat) (m' : Str → Option Value) (nx : List (Addr × Obj)), s₂ = { s with heap := h', toks := tk } ∧ Fr h₀ L h' m' ∧ News h₀ L h' nx ∧ (∀ p ∈ Led c, p ∈ nx) ∧ (I, oI) ∈ nx ∧ (∀ p ∈ Led c, p.1 ≠ I) ∧ (∀ p ∈ ps c, m' p.1 = some p.2) ∧
    (∀ z, z ≠ x → (∀ p ∈ ps c, z ≠ p.1) → stored.contains z = false → m' z = m z) ∧ P c
theorem AEnd.intro {σ : Type} {h₀ : Heap} {L : Addr} {Led : σ → List (Addr × Obj)} {ps : σ → List (Str × Value)} {stored : List Str} {x : Str} {m : Str → Option Value} {P : σ → Prop} {I : Addr} {oI : Obj} {s : Shared} (c : σ) {h' : Heap} {tk : Nat} {m' : Str → Option Value} {nx : List (Addr × Obj)}
    (F : Fr h₀ L h' m') (N : News h₀ L h' nx) (hl : ∀ p ∈ Led c, p ∈ nx) (hI : (I, oI) ∈ nx) (hne : ∀ p ∈ Led c, p.1 ≠ I) (hk : ∀ p ∈ ps c, m' p.1 = some p.2) (hm : ∀ z, z ≠ x → (∀ p ∈ ps c, z ≠ p.1) → stored.contains z = false → m' z = m z) (hp : P c) :
    AEnd h₀ L Led ps stored x m P I oI s { s with heap := h', toks := tk } := ⟨c, h', tk, m', nx, rfl, F, N, hl, hI, hne, hk, hm, hp⟩
noncomputable def APost {σ : Type} (h₀ : Heap) (L : Addr) (Led : σ → List (Addr × Obj)) (ps : σ → List (Str × Value)) (stored : List Str) (x : Str) (m : Str → Option Value) (P : σ → Prop) (I : Addr) (oI : Obj) (s : Shared) (Q : Flow → Shared → Prop) (f : Flow) (s₂ : Shared) : Prop :=
  match f with
  | .ret v => Q (.ret v) s₂
  | .brk => Q .next s₂
  | _ => AEnd h₀ L Led ps stored x m P I oI s s₂
section
variable {prog : Program} {w : World} {A : Around} {E : Value → Shared → Prop} {s : Shared} {env : Env} {h₀ : Heap} {x : Str} {body : List Stmt} {Q : Flow → Shared → Prop}
theorem loopA {σ : Type} {I : Addr} {fp : List Addr} {n : Nat} {Pv : Nat → Value → Prop} {St : Nat → Heap → Prop} {m₀ : Str → Option Value} (Led : σ → List (Addr × Obj)) (ps : σ → List (Str × Value)) (stored : List Str) (P : Nat → σ → Prop) (c₀ : σ)
    (W : Walks prog w A I fp [I] n Pv St) (hLf : env.locals ∉ fp) (hI : h₀.get? I = none) (hst : St 0 s.heap) (F : Fr h₀ env.locals s.heap m₀) (N : News h₀ env.locals s.heap (Led c₀)) (hoff : ∀ p ∈ Led c₀, p.1 ≠ I) (hk : ∀ p ∈ ps c₀, m₀ p.1 = some p.2) (hp : P 0 c₀)
    (hfp : ∀ b ∈ fp, b ≠ I → h₀.get? b = none → ∃ o, ∀ c, (b, o) ∈ Led c) (hsee : ∀ i h, St i h → ∃ o, h.get? I = some o)
    (turn : ∀ (c : σ) (i : Nat) v (u : Str → Option Value) h tk oI, i < n → Pv i v → P i c → (∀ p ∈ Led c, p.1 ≠ I) →
      Fr h₀ env.locals h (fun y => if y = x then some v else kstB (fun z => if stored.contains z then u z else m₀ z) (ps c) y) → News h₀ env.locals h (Led c ++ [(I, oI)]) →
      wpAny (model prog w) A (execs body env) (APost h₀ env.locals Led ps stored x m₀ (P (i + 1)) I oI { s with heap := h, toks := tk } Q) E { s with heap := h, toks := tk })
    (done : ∀ (c : σ) (u : Str → Option Value) h tk, P n c → Fr h₀ env.locals h (fun y => if y = x then u y else kstB (fun z => if stored.contains z then u z else m₀ z) (ps c) y) → News h₀ env.locals h (Led c) → Q .next { s with heap := h, toks := tk }) :
    LoopAtV prog w A h₀ env x body Q E (.ref I) s := by
  refine ⟨I, fp, [I], n, Pv, St, m₀, Led c₀, (fun i m nx => ∃ c, nx = Led c ∧ P i c ∧ (∀ p ∈ ps c, m p.1 = some p.2) ∧ ∀ z, z ≠ x → (∀ p ∈ ps c, z ≠ p.1) → stored.contains z = false → m z = m₀ z), rfl, W, hLf, ?_, ?_, hst, F, N, ⟨c₀, rfl, hp, hk, fun _ _ _ _ => rfl⟩, ?_, ?_⟩
  · intro b hb
    rw [List.mem_singleton.mp hb]
    exact hI
  · intro p hp hm
    exact hoff p hp (List.mem_singleton.mp hm)
  · rintro i v m₁ news₁ s₁ own ⟨h, tk, rfl⟩ hin hP ⟨c, rfl, hc, h1, h2⟩ hnw hown hget hall hst₁ F₁ N₁
    obtain ⟨oI, ho⟩ := hsee _ _ hst₁
    have hIown : (I, oI) ∈ own := hall I (W.sub I (.head _)) hI oI ho
    have hneI : ∀ p ∈ Led c, p.1 ≠ I := fun p hp e => hnw p hp (by rw [e]; exact .head _)
    refine wpAny_mono (turn c i v m₁ h tk oI hin hP hc hneI (kst_fr h1 h2 F₁) ?_) (fun f s₂ q => ?_) fun _ _ x => x
    · intro p hp
      rcases List.mem_append.mp hp with hp | hp
      · exact N₁ p (List.mem_append_right _ hp)
      · rw [List.mem_singleton.mp hp]
        exact N₁ _ (List.mem_append_left _ hIown)
    · have fin : AEnd h₀ env.locals Led ps stored x m₀ (P (i + 1)) I oI { s with heap := h, toks := tk } s₂ → LoopStepU h₀ env.locals [I] own (fun m nx => ∃ c, nx = Led c ∧ P (i + 1) c ∧ (∀ p ∈ ps c, m p.1 = some p.2) ∧ ∀ z, z ≠ x → (∀ p ∈ ps c, z ≠ p.1) → stored.contains z = false → m z = m₀ z) { s with heap := h, toks := tk } .next s₂ := by
        rintro ⟨c', h', tk', m', nx, rfl, F', N', q1, q2, q3, q4, q5, q6⟩
        refine ⟨rfl, h', tk', m', Led c', rfl, F', ?_, fun p hp hm => q3 p hp (List.mem_singleton.mp hm), c', rfl, q6, q4, q5⟩
        intro p hp
        rcases List.mem_append.mp hp with hp | hp
        · have hg : h.get? p.1 = some p.2 := hget p hp
          by_cases e : p.1 = I
          · have : p = (I, oI) := by
              rw [e] at hg
              have ho' : h.get? I = some oI := ho
              rw [ho'] at hg
              cases p
              simp only at e hg
              rw [e, Option.some.inj hg]
            rw [this]
            exact N' _ q2
          · obtain ⟨o, hb⟩ := hfp p.1 (hown p hp) e (N₁ p (List.mem_append_left _ hp)).2.2
            have h3 := (N₁ _ (List.mem_append_right _ (hb c))).1
            have h3' : h.get? p.1 = some o := h3
            rw [hg] at h3'
            have : p = (p.1, o) := by rw [← Option.some.inj h3']
            rw [this]
            exact N' _ (q1 _ (hb c'))
        · exact N' p (q1 p hp)
      cases f with
      | ret v => exact .ret q
      | brk => exact .brk q
      | next => exact .next (fin q)
      | cont => exact .cont (fin q)
  · rintro h' tk m' news' F' N' _ ⟨c, rfl, hc, h1, h2⟩
    exact done c m' h' tk hc (kst_frOut h1 h2 F') N'
theorem rangeA {σ : Type} {r : Addr} {a₀ b₀ : Int} {t₀ u₀ v₀ : Tok} {n : Nat} {m₀ : Str → Option Value} (Led : σ → List (Addr × Obj)) (ps : σ → List (Str × Value)) (stored : List Str) (P : Nat → σ → Prop) (c₀ : σ)
    (hh : A.handled = none) (hr : IsRange s.heap r a₀ b₀ 1 t₀ u₀ v₀) (hn : n = (b₀ - a₀).toNat) (hs0 : -1000 ≤ a₀) (hs1 : a₀ < 1000) (hs2 : -1000 ≤ b₀) (hs3 : b₀ < 1000) (F : Fr h₀ env.locals s.heap m₀) (N : News h₀ env.locals s.heap (Led c₀)) (hk : ∀ p ∈ ps c₀, m₀ p.1 = some p.2) (hp : P 0 c₀)
    (turn : ∀ (c : σ) (i : Nat) (k : Int) t (u : Str → Option Value) h tk (I : Addr) oI, k = a₀ + (i : Int) → i < n → P i c → (∀ p ∈ Led c, p.1 ≠ I) →
      Fr h₀ env.locals h (fun y => if y = x then some (.int k t) else kstB (fun z => if stored.contains z then u z else m₀ z) (ps c) y) → News h₀ env.locals h (Led c ++ [(I, oI)]) →
      wpAny (model prog w) A (execs body env) (APost h₀ env.locals Led ps stored x m₀ (P (i + 1)) I oI { s with heap := h, toks := tk } Q) E { s with heap := h, toks := tk })
    (done : ∀ (c : σ) (u : Str → Option Value) h tk, P n c → Fr h₀ env.locals h (fun y => if y = x then u y else kstB (fun z => if stored.contains z then u z else m₀ z) (ps c) y) → News h₀ env.locals h (Led c) → Q .next { s with heap := h, toks := tk }) :
    wpAny (model prog w) A (pyIter (.ref r)) (fun it s₂ => LoopAtV prog w A h₀ env x body Q E it s₂) E s := by
  have hsz : Builtin.Range.rangeSize a₀ b₀ 1 = (n : Int) := by rw [rangeSize_nat]; omega
  refine wpAny_pyIter_range hr (small_one (by omega) (by omega) (by omega) (by omega)) ?_
  have W : Walks prog w A s.heap.objs.size [s.heap.objs.size] [s.heap.objs.size] n (fun i v => i < n ∧ ∃ t, v = .int (a₀ + i * 1) t)
      (fun i h => IsRangeIter h s.heap.objs.size (a₀ + (i : Nat) * 1) ((n : Int) - (i : Nat)) 1) := (Walks.range hh _ a₀ 1 n).bound
  refine loopA Led ps stored P c₀ W ?_ (next_is_new F) (by show IsRangeIter _ _ _ _ _; rw [hsz]; simpa using Heap.get?_push_size _ rfl) (F.push _) (fun p hp => ⟨Heap.get?_push_of_some _ (N p hp).1, (N p hp).2⟩) ?_ hk hp ?_ ?_ ?_ ?_
  · intro hm
    exact absurd F.ns.lt ((List.mem_singleton.mp hm) ▸ Nat.lt_irrefl _)
  · intro p hp e
    exact absurd (Heap.lt_size (N p hp).1) (e ▸ Nat.lt_irrefl _)
  · intro b hb hne
    exact absurd (List.mem_singleton.mp hb) hne
  · intro i h hs
    exact ⟨_, hs⟩
  · rintro c i v u h tk oI hi ⟨_, t, rfl⟩ hP hne F₁ N₁
    have e1 : a₀ + (i : Int) * 1 = a₀ + (i : Int) := by omega
    rw [e1] at F₁
    exact turn c i _ t u h tk _ oI rfl hi hP hne F₁ N₁
  · intro c u h tk hP F₁ N₁
    exact done c u h tk hP F₁ N₁
theorem listA {σ : Type} {l : Addr} {vs : List Value} {ns : List Int} {nn : Nat} {m₀ : Str → Option Value} (Led : σ → List (Addr × Obj)) (ps : σ → List (Str × Value)) (stored : List Str) (P : Nat → σ → Prop) (c₀ : σ)
    (hh : A.handled = none) (hl : ∀ c : σ, (l, listOf vs.toArray nn) ∈ Led c) (hi : IntsAre vs ns) (F : Fr h₀ env.locals s.heap m₀) (N : News h₀ env.locals s.heap (Led c₀)) (hk : ∀ p ∈ ps c₀, m₀ p.1 = some p.2) (hp : P 0 c₀)
    (turn : ∀ (c : σ) (i : Nat) (k : Int) t (u : Str → Option Value) h tk (I : Addr) oI, ns[i]? = some k → i < ns.length → k ∈ ns → P i c → (∀ p ∈ Led c, p.1 ≠ I) →
      Fr h₀ env.locals h (fun y => if y = x then some (.int k t) else kstB (fun z => if stored.contains z then u z else m₀ z) (ps c) y) → News h₀ env.locals h (Led c ++ [(I, oI)]) →
      wpAny (model prog w) A (execs body env) (APost h₀ env.locals Led ps stored x m₀ (P (i + 1)) I oI { s with heap := h, toks := tk } Q) E { s with heap := h, toks := tk })
    (done : ∀ (c : σ) (u : Str → Option Value) h tk, P ns.length c → Fr h₀ env.locals h (fun y => if y = x then u y else kstB (fun z => if stored.contains z then u z else m₀ z) (ps c) y) → News h₀ env.locals h (Led c) → Q .next { s with heap := h, toks := tk }) :
    wpAny (model prog w) A (pyIter (.ref l)) (fun it s₂ => LoopAtV prog w A h₀ env x body Q E it s₂) E s := by
  have hol : s.heap.get? l = some (listOf vs.toArray nn) := (N _ (hl c₀)).1
  have hls : s.heap.IsList l vs.toArray := ⟨_, hol, rfl, nn, rfl⟩
  have hne : l ≠ s.heap.objs.size := Nat.ne_of_lt (Heap.lt_size hol)
  refine wpAny_pyIter_list hls ?_
  have W := Walks.list (prog := prog) (w := w) hh s.heap.objs.size l hne vs.toArray
  have hlen : vs.toArray.size = ns.length := by simp [hi.length]
  rw [hlen] at W
  refine loopA Led ps stored P c₀ W ?_ (next_is_new F) ⟨⟨_, Heap.get?_push_size _ rfl, rfl, rfl⟩, hls.at fun o e => Heap.get?_push_of_some _ e⟩ (F.push _) (fun p hp => ⟨Heap.get?_push_of_some _ (N p hp).1, (N p hp).2⟩) ?_ hk hp ?_ ?_ ?_ ?_
  · intro hm
    rcases List.mem_cons.mp hm with e | hm
    · exact absurd F.ns.lt (e ▸ Nat.lt_irrefl _)
    · exact (N _ (hl c₀)).2.1 ((List.mem_singleton.mp hm).symm)
  · intro p hp e
    exact absurd (Heap.lt_size (N p hp).1) (e ▸ Nat.lt_irrefl _)
  · intro b hb hne' _
    rcases List.mem_cons.mp hb with e | hb
    · exact absurd e hne'
    · rw [List.mem_singleton.mp hb]
      exact ⟨_, hl⟩
  · rintro i h ⟨⟨o, ho, _⟩, _⟩
    exact ⟨o, ho⟩
  · rintro c i v u h tk oI hin hP hc hneI F₁ N₁
    have hlt' : i < ns.length := hin
    obtain ⟨t, hx⟩ := hi.get i ns[i] (by simp [hlt'])
    have hv : v = .int ns[i] t := by
      have hP' : vs[i]? = some v := by simpa using hP
      rw [hx] at hP'; exact (Option.some.inj hP').symm
    subst hv
    exact turn c i ns[i] t u h tk _ oI (by simp [hlt']) hlt' (List.getElem_mem _) hc hneI F₁ N₁
  · intro c u h tk hP F₁ N₁
    exact done c u h tk hP F₁ N₁
end

structure L1 where
  d : Addr
  us : List Value
  fs : List Int
  n : Nat
noncomputable def NEnd (h₀ : Heap) (L l : Addr) (lo : Obj) (x y : Str) (stored : List Str) (m : Str → Option Value) (P : List Int → Prop) (I : Addr) (oI : Obj) (s s₂ : Shared) : Prop :=
  ∃ (h' : Heap) (tk : Nat) (m' : Str → Option Value) (nx : List (Addr × Obj)) (c : L1), s₂ = { s with heap := h', toks := tk } ∧ Fr h₀ L h' m' ∧ News h₀ L h' nx ∧ (c.d, listOf c.us.toArray c.n) ∈ nx ∧ (l, lo) ∈ nx ∧ (I, oI) ∈ nx ∧ c.d ≠ I ∧ m' y = some (.ref c.d) ∧ (∀ z, z ≠ x → z ≠ y → stored.contains z = false → m' z = m z) ∧ IntsAre c.us c.fs ∧ P c.fs
theorem NEnd.intro {h₀ : Heap} {L l : Addr} {lo : Obj} {x y : Str} {stored : List Str} {m : Str → Option Value} {P : List Int → Prop} {I : Addr} {oI : Obj} {s : Shared} {h' : Heap} {tk : Nat} {m' : Str → Option Value} {nx : List (Addr × Obj)} {D : Addr} {us : List Value} {fs : List Int} {n : Nat}
    (F : Fr h₀ L h' m') (N : News h₀ L h' nx) (hy : m' y = some (.ref D)) (hD : (D, listOf us.toArray n) ∈ nx) (hl : (l, lo) ∈ nx) (hI : (I, oI) ∈ nx) (hne : D ≠ I) (hm : ∀ z, z ≠ x → z ≠ y → stored.contains z = false → m' z = m z) (hi : IntsAre us fs) (hp : P fs) :
    NEnd h₀ L l lo x y stored m P I oI s { s with heap := h', toks := tk } := ⟨h', tk, m', nx, ⟨D, us, fs, n⟩, rfl, F, N, hD, hl, hI, hne, hy, hm, hi, hp⟩
noncomputable def NPost (h₀ : Heap) (L l : Addr) (lo : Obj) (x y : Str) (stored : List Str) (m : Str → Option Value) (P : List Int → Prop) (I : Addr) (oI : Obj) (s : Shared) (Q : Flow → Shared → Prop) (f : Flow) (s₂ : Shared) : Prop :=
  match f with
  | .ret v => Q (.ret v) s₂
  | .brk => Q .next s₂
  | _ => NEnd h₀ L l lo x y stored m P I oI s s₂
section
variable {prog : Program} {w : World} {A : Around} {E : Value → Shared → Prop} {s : Shared} {env : Env} {h₀ : Heap} {x y : Str} {body : List Stmt} {Q : Flow → Shared → Prop}
theorem newlist_st {l D : Addr} {vs us₀ : List Value} {ns fs₀ : List Int} {nn n₀ : Nat} {m : Str → Option Value} {news : List (Addr × Obj)} (stored : List Str) (P : Nat → List Int → Prop)
    (hh : A.handled = none) (F : Fr h₀ env.locals s.heap m) (N : News h₀ env.locals s.heap news) (hl : (l, listOf vs.toArray nn) ∈ news) (hi : IntsAre vs ns) (_hxy : y ≠ x) (hy : m y = some (.ref D)) (hD : (D, listOf us₀.toArray n₀) ∈ news) (hi0 : IntsAre us₀ fs₀) (h0 : P 0 fs₀)
    (turn : ∀ (i : Nat) (k : Int) t (D : Addr) (us : List Value) (fs : List Int) n (u : Str → Option Value) h tk (I : Addr) oI, ns[i]? = some k → i < ns.length → k ∈ ns → IntsAre us fs → P i fs → D ≠ I → l ≠ I →
      Fr h₀ env.locals h (fun z => if z = x then some (.int k t) else if z = y then some (.ref D) else if stored.contains z then u z else m z) → News h₀ env.locals h [(D, listOf us.toArray n), (l, listOf vs.toArray nn), (I, oI)] →
      wpAny (model prog w) A (execs body env) (NPost h₀ env.locals l (listOf vs.toArray nn) x y stored m (P (i + 1)) I oI { s with heap := h, toks := tk } Q) E { s with heap := h, toks := tk })
    (done : ∀ (D : Addr) (us : List Value) (fs : List Int) n (u : Str → Option Value) h' tk, IntsAre us fs → P ns.length fs → Fr h₀ env.locals h' (fun z => if z = x then u z else if z = y then some (.ref D) else if stored.contains z then u z else m z) → News h₀ env.locals h' [(D, listOf us.toArray n), (l, listOf vs.toArray nn)] → Q .next { s with heap := h', toks := tk }) :
    wpAny (model prog w) A (pyIter (.ref l)) (fun it s₂ => LoopAtV prog w A h₀ env x body Q E it s₂) E s := by
  refine listA (σ := L1) (fun c => [(c.d, listOf c.us.toArray c.n), (l, listOf vs.toArray nn)]) (fun c => [(y, .ref c.d)]) stored (fun i c => IntsAre c.us c.fs ∧ P i c.fs) ⟨D, us₀, fs₀, n₀⟩ hh (fun c => .tail _ (.head _)) hi F (kst_newsOf N (by
      intro p hp
      rcases List.mem_cons.mp hp with rfl | hp
      · exact hD
      · rw [List.mem_singleton.mp hp]; exact hl)) (fun p hp => by rw [List.mem_singleton.mp hp]; exact hy) ⟨hi0, h0⟩ ?_ ?_
  · rintro ⟨D, us, fs, n⟩ i k t u h tk I oI hn hlt hmem ⟨g1, hP⟩ hne F₁ N₁
    refine wpAny_mono (turn i k t D us fs n u h tk I oI hn hlt hmem g1 hP (hne _ (.head _)) (hne _ (.tail _ (.head _))) F₁ N₁) (fun f s₂ p => ?_) fun _ _ x => x
    have fin : NEnd h₀ env.locals l (listOf vs.toArray nn) x y stored m (P (i + 1)) I oI { s with heap := h, toks := tk } s₂ → AEnd h₀ env.locals (fun c : L1 => [(c.d, listOf c.us.toArray c.n), (l, listOf vs.toArray nn)]) (fun c => [(y, .ref c.d)]) stored x m (fun c => IntsAre c.us c.fs ∧ P (i + 1) c.fs) I oI { s with heap := h, toks := tk } s₂ := by
      rintro ⟨h', tk', m', nx, c, rfl, F', N', q1, q2, q3, q4, q5, q6, q7, q8⟩
      refine AEnd.intro c F' N' ?_ q3 ?_ ?_ ?_ ⟨q7, q8⟩
      · intro p hp
        rcases List.mem_cons.mp hp with rfl | hp
        · exact q1
        · rw [List.mem_singleton.mp hp]; exact q2
      · intro p hp
        rcases List.mem_cons.mp hp with rfl | hp
        · exact q4
        · rw [List.mem_singleton.mp hp]; exact hne _ (.tail _ (.head _))
      · intro p hp
        rw [List.mem_singleton.mp hp]; exact q5
      · intro z hz hz2 hz3
        exact q6 z hz (hz2 _ (.head _)) hz3
    cases f with
    | ret v => exact p
    | brk => exact p
    | next => exact fin p
    | cont => exact fin p
  · rintro ⟨D, us, fs, n⟩ u h tk ⟨g1, hP⟩ F₁ N₁
    exact done D us fs n u h tk g1 hP F₁ N₁
end

/-- a turn's end: a loop over a range whose name is a cell; one list D is changed -/
noncomputable def CEnd (h₀ : Heap) (L D cx : Addr) (oc : Obj) (rest : List (Addr × Obj)) (m : Str → Option Value) (P : List Int → Prop) (I : Addr) (oI : Obj) (s s₂ : Shared) : Prop :=
  ∃ (h' : Heap) (tk : Nat) (nx : List (Addr × Obj)) (us : List Value) (fs : List Int) (n : Nat), s₂ = { s with heap := h', toks := tk } ∧ Fr h₀ L h' m ∧ News h₀ L h' nx ∧ (D, listOf us.toArray n) ∈ nx ∧ (cx, oc) ∈ nx ∧ (∀ p ∈ rest, p ∈ nx) ∧ (I, oI) ∈ nx ∧ IntsAre us fs ∧ P fs
theorem CEnd.intro {h₀ : Heap} {L D cx : Addr} {oc : Obj} {rest : List (Addr × Obj)} {m : Str → Option Value} {P : List Int → Prop} {I : Addr} {oI : Obj} {s : Shared} {h' : Heap} {tk : Nat} {nx : List (Addr × Obj)} {us : List Value} {fs : List Int} {n : Nat}
    (F : Fr h₀ L h' m) (N : News h₀ L h' nx) (hD : (D, listOf us.toArray n) ∈ nx) (hc : (cx, oc) ∈ nx) (hr : ∀ p ∈ rest, p ∈ nx) (hI : (I, oI) ∈ nx) (hi : IntsAre us fs) (hp : P fs) : CEnd h₀ L D cx oc rest m P I oI s { s with heap := h', toks := tk } :=
  ⟨h', tk, nx, us, fs, n, rfl, F, N, hD, hc, hr, hI, hi, hp⟩
noncomputable def CPost (h₀ : Heap) (L D cx : Addr) (oc : Obj) (rest : List (Addr × Obj)) (m : Str → Option Value) (P : List Int → Prop) (I : Addr) (oI : Obj) (s : Shared) (Q : Flow → Shared → Prop) (f : Flow) (s₂ : Shared) : Prop :=
  match f with
  | .ret v => Q (.ret v) s₂
  | .brk => Q .next s₂
  | _ => CEnd h₀ L D cx oc rest m P I oI s s₂
section
variable {prog : Program} {w : World} {A : Around} {E : Value → Shared → Prop} {s : Shared} {env : Env} {h₀ : Heap} {x : Str} {px : Pos} {body : List Stmt} {Q : Flow → Shared → Prop}
theorem cellrange_st {r D cx : Addr} {a₀ b₀ : Int} {t₀ u₀ v₀ : Tok} {us₀ : List Value} {fs₀ : List Int} {n₀ : Nat} {oc₀ : Obj} {vc : Option Value} {m : Str → Option Value} {news rest : List (Addr × Obj)} (N : Nat) (P : Nat → List Int → Prop)
    (hh : A.handled = none) (hk : env.scope.kind = .function) (hx : env.kindOf x = some .cell) (hc : env.cells.lookup x = some cx) (hr : IsRange s.heap r a₀ b₀ 1 t₀ u₀ v₀) (hN : N = (b₀ - a₀).toNat) (hs0 : -1000 ≤ a₀) (hs1 : a₀ < 1000) (hs2 : -1000 ≤ b₀) (hs3 : b₀ < 1000)
    (F : Fr h₀ env.locals s.heap m) (hn : News h₀ env.locals s.heap news) (hD : (D, listOf us₀.toArray n₀) ∈ news) (hcx : (cx, oc₀) ∈ news) (hoc : oc₀.data = .cell vc) (hrest : ∀ p ∈ rest, p ∈ news) (hne : D ≠ cx) (hre : ∀ p ∈ rest, p.1 ≠ cx) (hi : IntsAre us₀ fs₀) (h0 : P 0 fs₀)
    (turn : ∀ (i : Nat) (k : Int) t (us : List Value) (fs : List Int) n oc h tk (I : Addr) oI, k = a₀ + (i : Int) → i < N → IntsAre us fs → P i fs → oc.data = .cell (some (.int k t)) → (∀ p ∈ (D, listOf us.toArray n) :: (cx, oc) :: rest, p.1 ≠ I) → Fr h₀ env.locals h m → News h₀ env.locals h ((D, listOf us.toArray n) :: (cx, oc) :: (rest ++ [(I, oI)])) →
      wpAny (model prog w) A (execs body env) (CPost h₀ env.locals D cx oc rest m (P (i + 1)) I oI { s with heap := h, toks := tk } Q) E { s with heap := h, toks := tk })
    (done : ∀ (us : List Value) (fs : List Int) n oc vc h' tk, IntsAre us fs → P N fs → oc.data = .cell vc → Fr h₀ env.locals h' m → News h₀ env.locals h' ((D, listOf us.toArray n) :: (cx, oc) :: rest) → Q .next { s with heap := h', toks := tk })
    (hE : PassesOwn (model prog w) A env E) :
    wpAny (model prog w) A (pyIter (.ref r)) (fun it s₂ => codeAny (model prog w) A (.forLoop (.Name x px) it body [] env) (fun r s' => match r with | .ok f => Q f s' | .error e => cameBackBy (model prog w) A env E e s') s₂) E s := by
  have hsz : Builtin.Range.rangeSize a₀ b₀ 1 = (N : Int) := by rw [rangeSize_nat]; omega
  refine wpAny_pyIter_range hr (small_one (by omega) (by omega) (by omega) (by omega)) ?_
  have W : Walks prog w A s.heap.objs.size [s.heap.objs.size] [s.heap.objs.size] N (fun i v => i < N ∧ ∃ t, v = .int (a₀ + i * 1) t)
      (fun i h => IsRangeIter h s.heap.objs.size (a₀ + (i : Nat) * 1) ((N : Int) - (i : Nat)) 1) := (Walks.range hh _ a₀ 1 N).bound
  have hLI : env.locals ≠ s.heap.objs.size := fun e => absurd F.ns.lt (by rw [e]; exact Nat.lt_irrefl _)
  have hnI : h₀.get? s.heap.objs.size = none := next_is_new F
  have hall : ∀ p ∈ news, p.1 ≠ s.heap.objs.size := fun p hp e => absurd (Heap.lt_size (hn p hp).1) (e ▸ Nat.lt_irrefl _)
  have hDI : D ≠ s.heap.objs.size := hall _ hD
  have hcI : cx ≠ s.heap.objs.size := hall _ hcx
  refine codeAny_forLoop
    (fun k s' => ∃ h' tk us fs n oc vc i, s' = { s with heap := h', toks := tk } ∧ IsRangeIter h' s.heap.objs.size (a₀ + (i : Nat) * 1) ((N : Int) - (i : Nat)) 1 ∧ Fr h₀ env.locals h' m ∧ News h₀ env.locals h' ((D, listOf us.toArray n) :: (cx, oc) :: rest) ∧ oc.data = .cell vc ∧ IntsAre us fs ∧ P i fs ∧ i ≤ N ∧ k = N + 1 - i) ?_ (N + 1)
    ⟨_, s.toks, us₀, fs₀, n₀, oc₀, vc, 0, rfl, by show IsRangeIter _ _ _ _ _; rw [hsz]; simpa using Heap.get?_push_size _ rfl, F.push _, fun p hp => ?_, hoc, hi, h0, Nat.zero_le _, rfl⟩
  · rintro k s' ⟨h', tk, us, fs, n, oc, vc', i, rfl, hst, F', N', hoc', hi', hP, hle, rfl⟩
    have next : ∀ h₁ : Heap, (∀ b o, b ∉ [s.heap.objs.size] → h'.get? b = some o → h₁.get? b = some o) → Fr h₀ env.locals h₁ m ∧ News h₀ env.locals h₁ ((D, listOf us.toArray n) :: (cx, oc) :: rest) := fun h₁ hk₁ =>
      ⟨⟨F'.ns.at' fun o e => hk₁ _ o (fun q => hLI (List.mem_singleton.mp q)) e, fun b o e => hk₁ b o (fun q => by rw [List.mem_singleton.mp q, hnI] at e; cases e) (F'.keep b o e), F'.above⟩, fun p hp => ⟨hk₁ _ _ (fun q => by
        have hq := List.mem_singleton.mp q
        rcases List.mem_cons.mp hp with rfl | hp
        · exact hDI hq
        · rcases List.mem_cons.mp hp with rfl | hp
          · exact hcI hq
          · exact hall _ (hrest p hp) hq) (N' p hp).1, (N' p hp).2⟩⟩
    by_cases hlt : i < N
    · refine W.item i _ _ _ hlt hst fun v h₁ tk₁ hPv hst₁ hk₁ => ?_
      obtain ⟨_, t, rfl⟩ := hPv
      obtain ⟨F₁, N₁⟩ := next h₁ hk₁
      have hcell : h₁.IsCell cx vc' := ⟨oc, (N₁ _ (.tail _ (.head _))).1, hoc'⟩
      refine wpAny_assign_Name (wpAny_storeName_cell hk hx hc hcell (fun h₂ hcell₂ hs₂ => ?_))
      obtain ⟨oc₂, ho₂, hd₂⟩ := hcell₂
      have hcxL : cx ≠ env.locals := (N₁ _ (.tail _ (.head _))).2.1
      have F₂ : Fr h₀ env.locals h₂ m := ⟨F₁.ns.sameBut hs₂ (Ne.symm hcxL), fun b o e => (hs₂.2 b (fun q => by rw [q, (N₁ _ (.tail _ (.head _))).2.2] at e; cases e)).trans (F₁.keep b o e), F₁.above⟩
      have hst₂ : h₂.get? s.heap.objs.size = h₁.get? s.heap.objs.size := hs₂.2 _ (Ne.symm hcI)
      have e1 : a₀ + (i : Int) * 1 = a₀ + (i : Int) := by omega
      rw [e1] at hd₂
      have hst₁' : h₂.get? s.heap.objs.size = some _ := hst₂.trans hst₁
      refine wpAny_mono (wpAny_passesOwn hE (turn i _ t us fs n oc₂ h₂ _ s.heap.objs.size (itR (a₀ + ((i + 1 : Nat) : Int) * 1) ((N : Int) - ((i + 1 : Nat) : Int))) rfl hlt hi' hP hd₂ ?_ F₂ ?_)) (fun f s₃ h₃ => ?_) fun _ _ e => e
      · intro p hp
        rcases List.mem_cons.mp hp with rfl | hp
        · exact hDI
        · rcases List.mem_cons.mp hp with rfl | hp
          · exact hcI
          · exact hall _ (hrest p hp)
      · intro p hp
        rcases List.mem_cons.mp hp with rfl | hp
        · have q := N₁ _ (.head _)
          exact ⟨(hs₂.2 _ hne).trans q.1, q.2⟩
        · rcases List.mem_cons.mp hp with rfl | hp
          · have q := N₁ _ (.tail _ (.head _))
            exact ⟨ho₂, q.2⟩
          · rcases List.mem_append.mp hp with hp | hp
            · have q := N₁ p (.tail _ (.tail _ hp))
              exact ⟨(hs₂.2 _ (hre p hp)).trans q.1, q.2⟩
            · rw [List.mem_singleton.mp hp]
              exact ⟨hst₁', Ne.symm hLI, hnI⟩
      · have fin : CEnd h₀ env.locals D cx oc₂ rest m (P (i + 1)) s.heap.objs.size (itR (a₀ + ((i + 1 : Nat) : Int) * 1) ((N : Int) - ((i + 1 : Nat) : Int))) { s with heap := h₂, toks := tk₁ } s₃ → ∃ m_1, m_1 < N + 1 - i ∧ ∃ h' tk us fs n oc vc i_1, s₃ = { s with heap := h', toks := tk } ∧ IsRangeIter h' s.heap.objs.size (a₀ + (i_1 : Nat) * 1) ((N : Int) - (i_1 : Nat)) 1 ∧ Fr h₀ env.locals h' m ∧ News h₀ env.locals h' ((D, listOf us.toArray n) :: (cx, oc) :: rest) ∧ oc.data = .cell vc ∧ IntsAre us fs ∧ P i_1 fs ∧ i_1 ≤ N ∧ m_1 = N + 1 - i_1 := by
          rintro ⟨h3, tk3, nx, us3, fs3, n3, rfl, F3, N3, q1, q2, q3, q4, q5, q6⟩
          refine ⟨N + 1 - (i + 1), by omega, h3, tk3, us3, fs3, n3, oc₂, _, i + 1, rfl, (N3 _ q4).1, F3, ?_, hd₂, q5, q6, hlt, rfl⟩
          intro p hp
          rcases List.mem_cons.mp hp with rfl | hp
          · exact N3 _ q1
          · rcases List.mem_cons.mp hp with rfl | hp
            · exact N3 _ q2
            · exact N3 p (q3 p hp)
        cases f with
        | ret v => exact h₃
        | brk => exact h₃
        | next => exact fin h₃
        | cont => exact fin h₃
    · have hin : i = N := by omega
      subst hin
      refine W.done _ _ _ hst fun h₁ tk₁ hk₁ => wpAny_execs_nil ?_
      obtain ⟨F₁, N₁⟩ := next h₁ hk₁
      exact done us fs n oc vc' h₁ tk₁ hi' hP hoc' F₁ N₁
  · rcases List.mem_cons.mp hp with rfl | hp
    · exact ⟨Heap.get?_push_of_some _ (hn _ hD).1, (hn _ hD).2⟩
    · rcases List.mem_cons.mp hp with rfl | hp
      · exact ⟨Heap.get?_push_of_some _ (hn _ hcx).1, (hn _ hcx).2⟩
      · exact ⟨Heap.get?_push_of_some _ (hn _ (hrest p hp)).1, (hn _ (hrest p hp)).2⟩
end

noncomputable def PopEnd (h₀ : Heap) (L D : Addr) (rest : List (Addr × Obj)) (m : Str → Option Value) (P : List Int → Prop) (M : Nat) (s s₂ : Shared) : Prop :=
  ∃ (h' : Heap) (tk : Nat) (nx : List (Addr × Obj)) (us : List Value) (fs : List Int) (n : Nat), s₂ = { s with heap := h', toks := tk } ∧ Fr h₀ L h' m ∧ News h₀ L h' nx ∧ (D, listOf us.toArray n) ∈ nx ∧ (∀ p ∈ rest, p ∈ nx) ∧ IntsAre us fs ∧ P fs ∧ fs.length < M
theorem PopEnd.intro {h₀ : Heap} {L D : Addr} {rest : List (Addr × Obj)} {m : Str → Option Value} {P : List Int → Prop} {M : Nat} {s : Shared} {h' : Heap} {tk : Nat} {nx : List (Addr × Obj)} {us : List Value} {fs : List Int} {n : Nat}
    (F : Fr h₀ L h' m) (N : News h₀ L h' nx) (hD : (D, listOf us.toArray n) ∈ nx) (hr : ∀ p ∈ rest, p ∈ nx) (hi : IntsAre us fs) (hp : P fs ∧ fs.length < M) : PopEnd h₀ L D rest m P M s { s with heap := h', toks := tk } := ⟨h', tk, nx, us, fs, n, rfl, F, N, hD, hr, hi, hp.1, hp.2⟩
noncomputable def PopPost (h₀ : Heap) (L D : Addr) (rest : List (Addr × Obj)) (m : Str → Option Value) (P : List Int → Prop) (M : Nat) (s : Shared) (Q : Flow → Shared → Prop) (f : Flow) (s₂ : Shared) : Prop :=
  match f with
  | .ret v => Q (.ret v) s₂
  | .brk => Q .next s₂
  | _ => PopEnd h₀ L D rest m P M s s₂
section
variable {prog : Program} {w : World} {A : Around} {E : Value → Shared → Prop} {Q : Flow → Shared → Prop} {s : Shared} {env : Env} {h₀ : Heap} {L : Addr}
theorem pop_while {D : Addr} {us₀ : List Value} {fs₀ : List Int} {n₀ : Nat} {test : PySem.Expr} {body : List Stmt} {pos : Pos} {m : Str → Option Value} {news : List (Addr × Obj)} (rest : List (Addr × Obj)) (P : List Int → Prop)
    (F : Fr h₀ L s.heap m) (N : News h₀ L s.heap news) (hD : (D, listOf us₀.toArray n₀) ∈ news) (hr : ∀ p ∈ rest, p ∈ news) (hi : IntsAre us₀ fs₀) (hp : P fs₀)
    (turn : ∀ (us : List Value) (fs : List Int) n h tk, IntsAre us fs → P fs → Fr h₀ L h m → News h₀ L h ((D, listOf us.toArray n) :: rest) →
      wpAny (model prog w) A (isTrue test env (eval test env)) (fun b s₂ =>
        if b = true then wpAny (model prog w) A (execs body env) (PopPost h₀ L D rest m P fs.length s Q) E s₂ else Q .next s₂) E { s with heap := h, toks := tk })
    (hE : PassesOwn (model prog w) A env E) :
    wpAny (model prog w) A (exec (.While test body [] pos) env) Q E s := by
  refine While_inv2 (fun k m' nx => ∃ (us : List Value) (fs : List Int) (n : Nat), m' = m ∧ (D, listOf us.toArray n) ∈ nx ∧ (∀ p ∈ rest, p ∈ nx) ∧ IntsAre us fs ∧ P fs ∧ k = fs.length) F N ⟨us₀, fs₀, n₀, rfl, hD, hr, hi, hp, rfl⟩ ?_ hE
  rintro k m₁ nx h tk F₁ N₁ ⟨us, fs, n, rfl, q1, q2, q3, q4, rfl⟩
  refine wpAny_mono (turn us fs n h tk q3 q4 F₁ ?_) (fun b s₂ p => ?_) fun _ _ x => x
  · intro p hp
    rcases List.mem_cons.mp hp with rfl | hp
    · exact N₁ _ q1
    · exact N₁ p (q2 p hp)
  · cases b with
    | false => simpa using p
    | true =>
      simp only [if_true] at p ⊢
      refine wpAny_mono p (fun f s₃ q => ?_) fun _ _ x => x
      cases f with
      | ret v => exact q
      | brk => exact q
      | next =>
        obtain ⟨h', tk', nx', us', fs', n', rfl, F', N', r1, r2, r3, r4, r5⟩ := q
        exact ⟨h', tk', _, nx', fs'.length, rfl, F', N', r5, us', fs', n', rfl, r1, r2, r3, r4, rfl⟩
      | cont =>
        obtain ⟨h', tk', nx', us', fs', n', rfl, F', N', r1, r2, r3, r4, r5⟩ := q
        exact ⟨h', tk', _, nx', fs'.length, rfl, F', N', r5, us', fs', n', rfl, r1, r2, r3, r4, rfl⟩
end
end Mine
end
section
open PySem PySem.W PyProof.Rows
set_option Elab.async false
set_option maxRecDepth 100000
namespace Mine
/-- a part h₀ of the heap h at which B stands off: what a call that changes B alone leaves as it is -/
structure Off (h₀ h : Heap) (B : Addr) : Prop where
  sub : ∀ b o, h₀.get? b = some o → h.get? b = some o
  sz : h₀.objs.size = h.objs.size
  no : h₀.get? B = none
  all : ∀ b o, b ≠ B → h.get? b = some o → h₀.get? b = some o
theorem Off.mk' (h : Heap) (B : Addr) : Off (h.hide B) h B :=
  ⟨fun b o e => Heap.of_hide e, Heap.hide_size h B, Heap.hide_self h B, fun b o hb e => (Heap.hide_ne h hb).trans e⟩
theorem enterB {w : World} {A : Around} {s : Shared} {K : Frag} {Q E : Value → Shared → Prop} {h₀ : Heap} {B : Addr} {oB : Obj}
    {name qual : Str} {params : Arguments} {body : List Stmt} {scope : Scope} {dV kV doc pm cdv ct oc : Value} {an od : Option Addr} {osl : Array (Option Value)} {f : Addr} {args : List Value} {binds : List (Str × Value)}
    (X : K.In h₀) (hlim : h₀.NoLimit) (O : Off h₀ s.heap B) (hB : s.heap.get? B = some oB)
    (ho : K.lookup f = some ⟨oc, od, .func (fnOf name qual params body scope dV kV doc pm an cdv ct), osl⟩) (hcd : codeIn K cdv qual = true) (hroom : A.depth < recursionLimit)
    (hbind : BindsTo s (fnOf name qual params body scope dV kV doc pm an cdv ct) ⟨args, []⟩ binds) (hloc : ∀ y ∈ binds, scope.names.lookup y.1 = some .local)
    (h : ∀ h₁, Fr h₀ s.heap.objs.size h₁ (fun y => binds.reverse.lookup y) → News h₀ s.heap.objs.size h₁ [(B, oB)] →
      wpAny (model PySem.Challenge.rw_tk0026_01.row.prog w) (A.deeper (envOf qual scope s.heap.objs.size f cdv)) (execs body (envOf qual scope s.heap.objs.size f cdv))
        (fun fl s' => Q (match fl with | .ret v => v | _ => .none) s') (fun _ _ => False)
        { s with heap := h₁, toks := s.toks + binds.length })
    (hco : scope.isCoroutine = false) (hgen : scope.isGenerator = false) (hk : scope.kind = .function)
    (hcell : ∀ x ∈ scope.names, x.2 ≠ .cell) : wpAny (model PySem.Challenge.rw_tk0026_01.row.prog w) A (call (.ref f) args) Q E s := by
  have X' : K.In s.heap := X.keeps O.sub
  refine wpAny_call ?_
  refine codeAny_call_def (fd := fnOf name qual params body scope dV kV doc pm an cdv ct) (body := body) (binds := binds) hroom (X' _ _ ho) rfl (hlim.keeps O.sub) (codeRec_of X' hcd) rfl hbind hcell hloc (fun h₁ hns hk₁ => ?_) hco hgen hk
  refine wpAny_mono (h h₁ ⟨hns, fun b o e => hk₁ b o (O.sub b o e), Nat.le_of_eq O.sz⟩ fun p hp => ?_) (fun _ _ x => x) fun _ _ x => x.elim
  rw [List.mem_singleton.mp hp]
  exact ⟨hk₁ _ _ hB, Nat.ne_of_lt (Heap.lt_size hB), O.no⟩
/-- the call draws an int of 0 .. many - 1; the box alone is changed -/
noncomputable def BT (w : World) (d u : Nat) (f : Addr) (args : List Value) (s : Shared) (B SL : Addr) (k many : Int) : Prop :=
  ∀ Q E : Value → Shared → Prop, (∀ (h' : Heap) (x : Int) (tx t : Tok) (n tk : Nat), (∀ b o, b ≠ B → s.heap.get? b = some o → h'.get? b = some o) → h'.get? B = some (listOf #[.ref SL, .int k t] n) → 0 ≤ x → x < many → Q (.int x tx) { s with heap := h', toks := tk }) →
    wpAny (model PySem.Challenge.rw_tk0026_01.row.prog w) (ar d u) (call (.ref f) args) Q E s
theorem newsB {base h h' : Heap} {L B : Addr} {oB oB' : Obj} {m : Str → Option Value} {news : List (Addr × Obj)} (F : Fr base L h m) (N : News base L h news) (hB : (B, oB) ∈ news)
    (hk : ∀ b o, b ≠ B → h.get? b = some o → h'.get? b = some o) (hr : h'.get? B = some oB') : Fr base L h' m ∧ ∀ news', Upd B oB oB' news news' → News base L h' news' := by
  have hBn : base.get? B = none := (N _ hB).2.2
  have hBL : B ≠ L := (N _ hB).2.1
  refine ⟨⟨F.ns.at' fun o q => hk _ o (Ne.symm hBL) q, fun b o e => hk b o (fun z => by rw [z, hBn] at e; cases e) (F.keep b o e), F.above⟩, fun news' U => ?_⟩
  obtain ⟨pre, post, rfl, rfl, a, b⟩ := U.split
  intro p hp
  rcases List.mem_append.mp hp with hp | hp
  · have z := N p (List.mem_append_left _ hp)
    exact ⟨hk _ _ (a p hp) z.1, z.2⟩
  · rcases List.mem_cons.mp hp with rfl | hp
    · exact ⟨hr, hBL, hBn⟩
    · have z := N p (List.mem_append_right _ (.tail _ hp))
      exact ⟨hk _ _ (b p hp) z.1, z.2⟩
theorem Ok.off {w : World} {base h : Heap} {L B : Addr} {oB : Obj} {m : Str → Option Value} {news : List (Addr × Obj)} (O : Ok w base) (F : Fr base L h m) (N : News base L h news) (hB : (B, oB) ∈ news) : Ok w (h.hide B) :=
  O.keeps fun b o e => (Heap.hide_ne h fun z => by rw [z, (N _ hB).2.2] at e; cases e).trans (F.keep b o e)
theorem IsList.off {h : Heap} {B l : Addr} {a : Array Value} (hl : h.IsList l a) (hne : @Ne Nat l B) : (h.hide B).IsList l a := hl.at fun o e => (Heap.hide_ne h hne).trans e
theorem BT.use {w : World} {d u : Nat} {f : Addr} {args : List Value} {s : Shared} {A : Around} {base : Heap} {L B SL : Addr} {k k' many : Int} {t : Tok} {n : Nat} {m : Str → Option Value} {news : List (Addr × Obj)} {vs : List Value} {Q E : Value → Shared → Prop}
    (C : Ok w (s.heap.hide B) → Off (s.heap.hide B) s.heap B → s.heap.get? B = some (listOf #[.ref SL, .int k t] n) → (s.heap.hide B).IsList SL vs.toArray → BT w d u f args s B SL k' many) (O : Ok w base) (F : Fr base L s.heap m) (N : News base L s.heap news) (hB : (B, listOf #[.ref SL, .int k t] n) ∈ news)
    (hl : s.heap.IsList SL vs.toArray) (hne : @Ne Nat SL B) (hh : A.handled = none) (hd : A.depth ≤ d) (hu : A.units ≤ u)
    (h : ∀ x tx t2 n2 h' tk, 0 ≤ x → x < many → Fr base L h' m → (∀ news', Upd B (listOf #[.ref SL, .int k t] n) (listOf #[.ref SL, .int k' t2] n2) news news' → News base L h' news') → Q (.int x tx) { s with heap := h', toks := tk }) :
    wpAny (model PySem.Challenge.rw_tk0026_01.row.prog w) A (call (.ref f) args) Q E s := by
  refine weaken hh hd hu (C (O.off F N hB) (Off.mk' _ _) (N _ hB).1 (IsList.off hl hne) Q E fun h' x tx t2 n2 tk hk hr h0 h1 => ?_)
  obtain ⟨F', N'⟩ := newsB F N hB hk hr
  exact h x tx t2 n2 h' tk h0 h1 F' N'
theorem BT.ret {s : Shared} {B SL : Addr} {k many : Int} {Q : Value → Shared → Prop} {h₀ : Heap} (O : Off h₀ s.heap B)
    (hQ : ∀ (h' : Heap) (x : Int) (tx t : Tok) (n tk : Nat), (∀ b o, b ≠ B → s.heap.get? b = some o → h'.get? b = some o) → h'.get? B = some (listOf #[.ref SL, .int k t] n) → 0 ≤ x → x < many → Q (.int x tx) { s with heap := h', toks := tk }) :
    ∀ (L : Addr) (h' : Heap) (m : Str → Option Value) (news : List (Addr × Obj)) (k2 x : Int) (tx t : Tok) (n tk : Nat), Fr h₀ L h' m → News h₀ L h' news → (B, listOf #[.ref SL, .int k2 t] n) ∈ news → k2 = k → 0 ≤ x ∧ x < many → Q (.int x tx) { s with heap := h', toks := tk } := by
  intro L h' m news k2 x tx t n tk F N hm e hx
  subst e
  exact hQ h' x tx t n tk (fun b o hb q => F.keep b o (O.all b o hb q)) (N _ hm).1 hx.1 hx.2
/-- the call hands back a new list, an arrangement; of what stood the box alone is changed -/
noncomputable def BA (w : World) (d u : Nat) (f : Addr) (args : List Value) (s : Shared) (B SL : Addr) (k : Int) (P : List Int → Prop) : Prop :=
  ∀ Q E : Value → Shared → Prop, (∀ (h' : Heap) (r : Addr) (us : List Value) (fs : List Int) (n' : Nat) (t : Tok) (n tk : Nat), (∀ b o, b ≠ B → s.heap.get? b = some o → h'.get? b = some o) → h'.get? B = some (listOf #[.ref SL, .int k t] n) →
      h'.get? r = some (listOf us.toArray n') → s.heap.get? r = none → r ≠ B → IntsAre us fs → P fs → Q (.ref r) { s with heap := h', toks := tk }) →
    wpAny (model PySem.Challenge.rw_tk0026_01.row.prog w) (ar d u) (call (.ref f) args) Q E s
theorem BA.use {w : World} {d u : Nat} {f : Addr} {args : List Value} {s : Shared} {A : Around} {base : Heap} {L B SL : Addr} {k k' : Int} {P : List Int → Prop} {t : Tok} {n : Nat} {m : Str → Option Value} {news : List (Addr × Obj)} {vs : List Value} {Q E : Value → Shared → Prop}
    (C : Ok w (s.heap.hide B) → Off (s.heap.hide B) s.heap B → s.heap.get? B = some (listOf #[.ref SL, .int k t] n) → (s.heap.hide B).IsList SL vs.toArray → BA w d u f args s B SL k' P) (O : Ok w base) (F : Fr base L s.heap m) (N : News base L s.heap news) (hB : (B, listOf #[.ref SL, .int k t] n) ∈ news)
    (hl : s.heap.IsList SL vs.toArray) (hne : @Ne Nat SL B) (hh : A.handled = none) (hd : A.depth ≤ d) (hu : A.units ≤ u)
    (h : ∀ r us fs n' t2 n2 h' tk, IntsAre us fs → P fs → (∀ p ∈ news, p.1 ≠ r) → Fr base L h' m → (∀ news', Upd B (listOf #[.ref SL, .int k t] n) (listOf #[.ref SL, .int k' t2] n2) news news' → News base L h' ((r, listOf us.toArray n') :: news')) → Q (.ref r) { s with heap := h', toks := tk }) :
    wpAny (model PySem.Challenge.rw_tk0026_01.row.prog w) A (call (.ref f) args) Q E s := by
  refine weaken hh hd hu (C (O.off F N hB) (Off.mk' _ _) (N _ hB).1 (IsList.off hl hne) Q E fun h' r us fs n' t2 n2 tk hk hb hr hn hrB hi hP => ?_)
  obtain ⟨F', N'⟩ := newsB F N hB hk hb
  refine h r us fs n' t2 n2 h' tk hi hP (news_ne N hn) F' fun news' U p hp => ?_
  rcases List.mem_cons.mp hp with rfl | hp
  · refine ⟨hr, fun e => ?_, ?_⟩
    · obtain ⟨o, _, _, ho, _⟩ := F.ns
      rw [← e, hn] at ho
      cases ho
    · cases q : base.get? r with
      | none => rfl
      | some o => rw [F.keep _ _ q] at hn; cases hn
  · exact N' news' U p hp
theorem BA.ret {s : Shared} {B SL : Addr} {k : Int} {P : List Int → Prop} {Q : Value → Shared → Prop} {h₀ : Heap} {oB : Obj} (O : Off h₀ s.heap B) (hB : s.heap.get? B = some oB)
    (hQ : ∀ (h' : Heap) (r : Addr) (us : List Value) (fs : List Int) (n' : Nat) (t : Tok) (n tk : Nat), (∀ b o, b ≠ B → s.heap.get? b = some o → h'.get? b = some o) → h'.get? B = some (listOf #[.ref SL, .int k t] n) →
      h'.get? r = some (listOf us.toArray n') → s.heap.get? r = none → r ≠ B → IntsAre us fs → P fs → Q (.ref r) { s with heap := h', toks := tk }) :
    ∀ (L : Addr) (h' : Heap) (m : Str → Option Value) (news : List (Addr × Obj)) (r : Addr) (us : List Value) (fs : List Int) (k2 : Int) (t : Tok) (n n' tk : Nat), Fr h₀ L h' m → News h₀ L h' news → (B, listOf #[.ref SL, .int k2 t] n) ∈ news → (r, listOf us.toArray n') ∈ news → @Ne Nat r B → k2 = k → IntsAre us fs → P fs → Q (.ref r) { s with heap := h', toks := tk } := by
  intro L h' m news r us fs k2 t n n' tk F N hm hr hrB e hi hP
  subst e
  refine hQ h' r us fs n' t n tk (fun b o hb q => F.keep b o (O.all b o hb q)) (N _ hm).1 (N _ hr).1 ?_ hrB hi hP
  cases q : s.heap.get? r with
  | none => rfl
  | some o => have z := (N _ hr).2.2; rw [O.all _ _ hrB q] at z; cases z
theorem BT.useW {w : World} {d u : Nat} {f : Addr} {args : List Value} {s : Shared} {A : Around} {base : Heap} {L B SL : Addr} {k k' many : Int} {t : Tok} {n : Nat} {m : Str → Option Value} {news : List (Addr × Obj)} {vs : List Value} {Q E : Value → Shared → Prop}
    (F : Fr base L s.heap m) (N : News base L s.heap news) (hB : (B, listOf #[.ref SL, .int k t] n) ∈ news) (O : Ok w base) (hl : s.heap.IsList SL vs.toArray)
    (C : Ok w (s.heap.hide B) → Off (s.heap.hide B) s.heap B → s.heap.get? B = some (listOf #[.ref SL, .int k t] n) → (s.heap.hide B).IsList SL vs.toArray → BT w d u f args s B SL k' many) (hne : @Ne Nat SL B) (hh : A.handled = none) (hd : A.depth ≤ d) (hu : A.units ≤ u)
    (h : ∀ x tx t2 n2 h' tk, 0 ≤ x → x < many → Fr base L h' m → (∀ news', Upd B (listOf #[.ref SL, .int k t] n) (listOf #[.ref SL, .int k' t2] n2) news news' → News base L h' news') → Q (.int x tx) { s with heap := h', toks := tk }) :
    wpAny (model PySem.Challenge.rw_tk0026_01.row.prog w) A (call (.ref f) args) Q E s := BT.use C O F N hB hl hne hh hd hu h
theorem BA.useW {w : World} {d u : Nat} {f : Addr} {args : List Value} {s : Shared} {A : Around} {base : Heap} {L B SL : Addr} {k k' : Int} {P : List Int → Prop} {t : Tok} {n : Nat} {m : Str → Option Value} {news : List (Addr × Obj)} {vs : List Value} {Q E : Value → Shared → Prop}
    (F : Fr base L s.heap m) (N : News base L s.heap news) (hB : (B, listOf #[.ref SL, .int k t] n) ∈ news) (O : Ok w base) (hl : s.heap.IsList SL vs.toArray)
    (C : Ok w (s.heap.hide B) → Off (s.heap.hide B) s.heap B → s.heap.get? B = some (listOf #[.ref SL, .int k t] n) → (s.heap.hide B).IsList SL vs.toArray → BA w d u f args s B SL k' P) (hne : @Ne Nat SL B) (hh : A.handled = none) (hd : A.depth ≤ d) (hu : A.units ≤ u)
    (h : ∀ r us fs n' t2 n2 h' tk, IntsAre us fs → P fs → (∀ p ∈ news, p.1 ≠ r) → Fr base L h' m → (∀ news', Upd B (listOf #[.ref SL, .int k t] n) (listOf #[.ref SL, .int k' t2] n2) news news' → News base L h' ((r, listOf us.toArray n') :: news')) → Q (.ref r) { s with heap := h', toks := tk }) :
    wpAny (model PySem.Challenge.rw_tk0026_01.row.prog w) A (call (.ref f) args) Q E s := BA.use C O F N hB hl hne hh hd hu h
end Mine
end
section
open PySem PySem.W PyProof.Rows PySem.Calls PySem.Spec PyProof.Rows.LCg
set_option autoImplicit false
namespace Mine
/-- f over the places and ints of a list -/
noncomputable def mapI (f : Nat → Int → Int) (ns : List Int) : List Int := ns.zipIdx.map fun x => f x.2 x.1
theorem mapI_snoc {f : Nat → Int → Int} {ns : List Int} {i : Nat} {x : Int} (h : ns[i]? = some x) : mapI f (ns.take (i + 1)) = mapI f (ns.take i) ++ [f i x] := by
  unfold mapI
  rw [List.take_add_one, h]
  have hi : i < ns.length := (List.getElem?_eq_some_iff.mp h).1
  simp [List.zipIdx_append, List.length_take, Nat.min_eq_left (Nat.le_of_lt hi)]
section
variable {prog : Program} {w : World} {A : Around} {E : Value → Shared → Prop} {s : Shared} {h₀ : Heap} {L : Addr} {m : Str → Option Value} {env : Env}
/-- an enumerate of a list of ints, fresh, and what is to be done with it -/
inductive EnumSrc (prog : Program) (w : World) (A : Around) (h₀ : Heap) (L : Addr) (m : Str → Option Value) (env : Env) (elt : PySem.Expr) (a b : Str) (scope : Scope) (cl : List (Str × Addr)) (Q : Value → Shared → Prop) (xv : Value) (s₁ : Shared) : Prop
  | mk (e it l : Addr) (vs : List Value) (ns : List Int) (f : Nat → Int → Int) (news : List (Addr × Obj)) : xv = .ref e → A.handled = none → Fr h₀ L s₁.heap m → News h₀ L s₁.heap news → IsEnum s₁.heap e it 0 .none → s₁.heap.IsListIter it l 0 → s₁.heap.IsList l vs.toArray → IntsAre vs ns → ns.length ≤ 1000 →
    e ≠ it → l ≠ e → l ≠ it → L ≠ e → L ≠ it → (∀ p ∈ news, p.1 ≠ e ∧ p.1 ≠ it) → h₀.get? e = none → h₀.get? it = none →
    (∀ C i x t tx s₃ m₃ E', ns[i]? = some x → i < ns.length → x ∈ ns → s₃.heap.Ns C m₃ → m₃ a = some (.int (i : Nat) t) → m₃ b = some (.int x tx) → Fr h₀ L s₃.heap m → News h₀ L s₃.heap news → 
      wpAny (model prog w) A (eval elt (compEnvC scope cl C env)) (fun y s₄ => (∃ t, y = .int (f i x) t) ∧ Keeps s₃ s₄) E' s₃) →
    (∀ D h' tk ys, Fr h₀ L h' m → News h₀ L h' ((D, lst ys) :: news) → (∀ p ∈ news, p.1 ≠ D) → IntsAre ys (mapI f ns) → Q (.ref D) { s₁ with heap := h', toks := tk }) → EnumSrc prog w A h₀ L m env elt a b scope cl Q xv s₁
/-- between two turns: i items drawn, their values in the new list, the rest kept -/
noncomputable def CompI (s₁ : Shared) (e it l : Addr) (vs : List Value) (ns : List Int) (f : Nat → Int → Int) (C : Addr) (k : Nat) (s' : Shared) : Prop :=
  ∃ h' tk i ys m', s' = { s₁ with heap := h', toks := tk } ∧ k = ns.length + 1 - i ∧ i ≤ ns.length ∧ ys.length = i ∧ ((∃ old, IsEnum h' e it ((i : Nat) : Int) old) ∧ h'.IsListIter it l i ∧ h'.IsList l vs.toArray) ∧ h'.Ns C m' ∧ h'.get? s₁.heap.objs.size = some (lst ys) ∧ IntsAre ys (mapI f (ns.take i)) ∧
    (∀ c o, c ≠ e → c ≠ it → s₁.heap.get? c = some o → h'.get? c = some o)
theorem CompI.elim {s₁ : Shared} {e it l : Addr} {vs : List Value} {ns : List Int} {f : Nat → Int → Int} {C : Addr} {k : Nat} {s' : Shared} {X : Prop} (h : CompI s₁ e it l vs ns f C k s')
    (g : ∀ h' tk i ys m', s' = { s₁ with heap := h', toks := tk } → k = ns.length + 1 - i → i ≤ ns.length → ys.length = i → ((∃ old, IsEnum h' e it ((i : Nat) : Int) old) ∧ h'.IsListIter it l i ∧ h'.IsList l vs.toArray) → h'.Ns C m' → h'.get? s₁.heap.objs.size = some (lst ys) → IntsAre ys (mapI f (ns.take i)) →
      (∀ c o, c ≠ e → c ≠ it → s₁.heap.get? c = some o → h'.get? c = some o) → X) : X := by
  obtain ⟨h', tk, i, ys, m', h1, h2, h3, h4, h5, h6, h7, h8, h9⟩ := h
  exact g h' tk i ys m' h1 h2 h3 h4 h5 h6 h7 h8 h9
theorem exT {vs : List Value} {ns : List Int} {i : Nat} {vals : Array Value} {X : Prop} (h : ∃ t x, vs.toArray[i]? = some x ∧ vals = #[.int i t, x]) (hi : IntsAre vs ns) (hlt : i < ns.length)
    (g : ∀ t x n tx, vals = #[.int i t, x] → ns[i]? = some n → x = .int n tx → X) : X := by
  obtain ⟨t, x, hx, hv⟩ := h
  have hx' : vs[i]? = some x := by simpa using hx
  have hn9 : ns[i]? = some ns[i] := by simp [hlt]
  obtain ⟨tx, hxx⟩ := hi.get i _ hn9
  rw [hx'] at hxx
  exact g t x _ tx hv hn9 (Option.some.inj hxx)
theorem takeAll {ys : List Value} {ns : List Int} {f : Nat → Int → Int} {i : Nat} (h : i = ns.length) (hys : IntsAre ys (mapI f (ns.take i))) : IntsAre ys (mapI f ns) := by
  rw [h, List.take_length] at hys
  exact hys
theorem comp_enum {elt iter : PySem.Expr} {a b : Str} {pa pb tp : Pos} {kk : Nat} {scope : Scope} {cl : List (Str × Addr)} {pos : Pos} {Q : Value → Shared → Prop}
    (_F₀ : Fr h₀ L s.heap m) (hclos : closureFor scope env = pure cl) (hcell : ∀ y ∈ scope.names, y.2 ≠ .cell) (hkind : scope.kind = .function)
    (hnames : ∀ y ∈ scope.names, y.2 = .local → scope.names.lookup y.1 = some .local) (hxa : scope.names.lookup a = some .local) (hxb : scope.names.lookup b = some .local) (hab : ¬ a = b)
    (h : wpAny (model prog w) A (eval iter env) (EnumSrc prog w A h₀ L m env elt a b scope cl Q) E s)
    (hs : ∀ x, foldedSetIterable iter env x = pure x) :
    wpAny (model prog w) A (eval (.ListComp elt [⟨.Tuple [.Name a pa, .Name b pb] kk tp, iter, [], 0⟩] scope pos) env) Q E s := by
  rw [eval_ListComp]
  refine wpAny_comprehension_free (use := none) rfl hs hclos hkind hnames (wpAny_mono h (fun xv s₁ h₁ => ?_) fun _ _ e => e)
  cases h₁ with | mk e it l vs ns f news ex hh F N he hit hl hi hlen hei hle hli hLe hLit hoff hne hnit helt hfin => ?_
  subst ex
  have hvl : vs.toArray.size = ns.length := by simp [hi.length]
  have W := WalksT.enumerate (prog := prog) (w := w) (A := A) hh e it l hei hle hli vs.toArray
  rw [hvl] at W
  have st0 : (∃ old, IsEnum s₁.heap e it ((0 : Nat) : Int) old) ∧ s₁.heap.IsListIter it l 0 ∧ s₁.heap.IsList l vs.toArray := ⟨⟨_, he⟩, hit, hl⟩
  refine W.self 0 _ _ _ st0 ?_
  refine wpAny_newObj_type (wpAny_newFunctionEnv hcell (by intro y hy; simp at hy) (fun h₁ hns₁ hsb₁ => ?_) hkind)
  dsimp only at hns₁ hsb₁ ⊢
  generalize hH2 : s₁.heap.push { cls := .type "list", dict := none, data := .seq ([] : List Value).toArray } = H2 at hns₁ hsb₁ ⊢
  have hC : H2.objs.size = s₁.heap.objs.size + 1 := by rw [← hH2, Heap.size_push]
  have hDC : s₁.heap.objs.size ≠ H2.objs.size := by rw [hC]; exact Nat.ne_of_lt (Nat.lt_succ_self _)
  have below : ∀ b, b < s₁.heap.objs.size → b ≠ H2.objs.size ∧ b ≠ s₁.heap.objs.size := fun b hb => ⟨by rw [hC]; exact Nat.ne_of_lt (Nat.lt_succ_of_lt hb), Nat.ne_of_lt hb⟩
  have old : ∀ b o, s₁.heap.get? b = some o → h₁.get? b = some o := fun b o e => hsb₁.extBut b o (below b (Heap.lt_size e)).1 (Heap.get?_push_of_some _ (hH2 ▸ Heap.get?_push_of_some _ e))
  have hacc : h₁.get? s₁.heap.objs.size = some (lst []) := hsb₁.extBut _ _ hDC (Heap.get?_push_of_some _ (hH2 ▸ Heap.get?_push_size _ rfl))
  have fresh : ∀ a, s₁.heap.objs.size ≤ a → s₁.heap.get? a = none := fun a ha => by
    cases e : s₁.heap.get? a with
    | none => rfl
    | some o' => exact absurd (Heap.lt_size e) (Nat.not_lt.mpr ha)
  have fresh₀ : ∀ a, s₁.heap.objs.size ≤ a → h₀.get? a = none := fun a ha => by
    cases e : h₀.get? a with
    | none => rfl
    | some o' => have := F.keep a o' e; rw [fresh a ha] at this; cases this
  have hD₀ : h₀.get? s₁.heap.objs.size = none := fresh₀ _ (Nat.le_refl _)
  have hC₀ : h₀.get? H2.objs.size = none := fresh₀ _ (by rw [hC]; exact Nat.le_succ _)
  have hLlt : L < s₁.heap.objs.size := F.ns.lt
  have helt' : e < s₁.heap.objs.size := Heap.lt_size he
  have hitlt : it < s₁.heap.objs.size := by obtain ⟨_, x, _⟩ := hit; exact Heap.lt_size x
  have hDL : s₁.heap.objs.size ≠ L := Ne.symm (below L hLlt).2
  have hCL : H2.objs.size ≠ L := Ne.symm (below L hLlt).1
  -- what every heap of the loop keeps
  have loop : ∀ s₃ : Shared, s₃ = { s₁ with heap := h₁, toks := s₁.toks + ([] : List (Str × Value)).length } →
      codeAny (model prog w) A (.compLoop (.ListComp elt [⟨.Tuple [.Name a pa, .Name b pb] kk tp, iter, [], 0⟩] scope pos) 0 (.ref e) (.ref s₁.heap.objs.size) (compEnvC scope cl H2.objs.size env))
        (compPost (model prog w) A E none Q (.ref s₁.heap.objs.size) H2.objs.size) s₃ := by
    rintro s₃ rfl
    refine kcp_loop
      (CompI s₁ e it l vs ns f H2.objs.size) ?_ (ns.length + 1)
      ⟨h₁, _, 0, [], _, rfl, rfl, Nat.zero_le _, rfl, W.frame 0 _ _ st0 (fun b _ o e => old b o e), hns₁, hacc, IntsAre.nil, fun c o _ _ q => old c o q⟩
    refine fun k s' hci => hci.elim fun h' tk i ys m' es ek hi' hyl hst hn' hD' hys hk => ?_
    subst es ek
    clear hci
    by_cases hlt : i < ns.length
    · refine W.item i _ _ _ hlt hst fun T vals h₂ tk₂ hPt _ hT hMid hk₂ => ?_
      refine exT hPt (hi := hi) (hlt := hlt) fun t x n tx ev hn9 hxe => ?_
      subst ev hxe
      refine W.go _ _ _ i T _ _ _ hMid fun h₃ hst₃ hk₃ => ?_
      have hT₃ : h₃.IsTuple T #[.int i t, .int n tx] := hT.at fun o q => hk₃ T o (W.apart i T h₂ hMid) q
      have up₃ : ∀ c o, c ≠ e → c ≠ it → h'.get? c = some o → h₃.get? c = some o := fun c o h1 h2 q => hk₃ c o (by simp [h1, h2]) (hk₂ c o (by simp [h1, h2]) q)
      have hCe : H2.objs.size ≠ e := Ne.symm (below e helt').1
      have hCit : H2.objs.size ≠ it := Ne.symm (below it hitlt).1
      refine kcp_assign (env := compEnvC scope cl H2.objs.size env) hh hT₃ (lookup_relabel_local hxa) (lookup_relabel_local hxb) (by simp [compEnvC, relabel, hkind]) (hn'.at' fun o q => up₃ _ o hCe hCit q) fun h₄ tk₄ hn₄ hs₄ => ?_
      have up : ∀ c o, c ≠ e → c ≠ it → c ≠ H2.objs.size → h'.get? c = some o → h₄.get? c = some o := fun c o h1 h2 h3 q => hs₄ c o h3 (up₃ c o h1 h2 q)
      have full : ∀ c o, c ≠ e → c ≠ it → s₁.heap.get? c = some o → h₄.get? c = some o := fun c o h1 h2 q => up c o h1 h2 (below c (Heap.lt_size q)).1 (hk c o h1 h2 q)
      have F₄ : Fr h₀ L h₄ m := ⟨F.ns.at' fun o q => full _ o hLe hLit q, fun c o q => full c o (fun z => by rw [z, hne] at q; cases q) (fun z => by rw [z, hnit] at q; cases q) (F.keep c o q), F.above⟩
      have N₄ : News h₀ L h₄ news := fun p hp => ⟨full _ _ (hoff p hp).1 (hoff p hp).2 (N p hp).1, (N p hp).2⟩
      refine wpAny_mono (helt H2.objs.size i n t tx _ _ _ hn9 hlt (List.mem_of_getElem? hn9) hn₄ (by simp [hab]) (by simp) F₄ N₄) (fun y s₅ h₅ => ?_) fun _ _ q => q
      obtain ⟨⟨ty, rfl⟩, h₅, tk₅, rfl, hk₅⟩ := h₅
      have hDe : s₁.heap.objs.size ≠ e := Ne.symm (below e helt').2
      have hDit : s₁.heap.objs.size ≠ it := Ne.symm (below it hitlt).2
      have zD : h₅.get? s₁.heap.objs.size = some (lst ys) := hk₅ _ _ (up _ _ hDe hDit hDC hD')
      refine append_at (hsz := by show ys.toArray.size ≤ sizeLine; rw [List.size_toArray, hyl]; exact Nat.le_trans hi' (Nat.le_trans hlen (by decide))) zD fun h₆ hs₆ hD₆ => ?_
      refine ⟨ns.length + 1 - (i + 1), by omega, h₆, tk₅, i + 1, ys ++ [.int (f i n) ty], _, rfl, rfl, hlt, by rw [List.length_append, List.length_singleton, hyl], ?_, (hn₄.keeps hk₅).sameBut hs₆ (Ne.symm hDC), ?_, ?_, ?_⟩
      · refine W.frame (i + 1) _ _ hst₃ fun b hb o q => ?_
        have hblt : b ≠ s₁.heap.objs.size ∧ b ≠ H2.objs.size := by
          have hl' : l < s₁.heap.objs.size := by obtain ⟨_, z, _⟩ := hl; exact Heap.lt_size z
          have : b = e ∨ b = it ∨ b = l := by simpa using hb
          rcases this with rfl | rfl | rfl
          · exact ⟨(below _ helt').2, (below _ helt').1⟩
          · exact ⟨(below _ hitlt).2, (below _ hitlt).1⟩
          · exact ⟨(below _ hl').2, (below _ hl').1⟩
        exact hs₆.extBut b o hblt.1 (hk₅ b o (hs₄ b o hblt.2 q))
      · exact hD₆.trans (congrArg some (lst_snoc ys _))
      · rw [mapI_snoc hn9]
        exact IntsAre.append hys (IntsAre.cons _ _ IntsAre.nil)
      · intro c o h1 h2 q
        exact hs₆.extBut c o (below c (Heap.lt_size q)).2 (hk₅ c o (full c o h1 h2 q))
    · have hin : i = ns.length := Nat.le_antisymm hi' (Nat.not_lt.mp hlt)
      refine W.done _ _ _ (hin ▸ hst) fun h₂ tk₂ hk₂ => ?_
      have full : ∀ c o, c ≠ e → c ≠ it → s₁.heap.get? c = some o → h₂.get? c = some o := fun c o h1 h2 q => hk₂ c o (by simp [h1, h2]) (hk c o h1 h2 q)
      have hCe : H2.objs.size ≠ e := Ne.symm (below e helt').1
      have hCit : H2.objs.size ≠ it := Ne.symm (below it hitlt).1
      have hDe : s₁.heap.objs.size ≠ e := Ne.symm (below e helt').2
      have hDit : s₁.heap.objs.size ≠ it := Ne.symm (below it hitlt).2
      refine ⟨m', hn'.at' fun o q => hk₂ _ o (by simp [hCe, hCit]) q, fun h₃ hs₃ => ?_⟩
      have full₃ : ∀ c o, c ≠ e → c ≠ it → s₁.heap.get? c = some o → h₃.get? c = some o := fun c o h1 h2 q => hs₃.extBut c o (below c (Heap.lt_size q)).1 (full c o h1 h2 q)
      refine hfin s₁.heap.objs.size h₃ _ ys ⟨F.ns.at' fun o q => full₃ _ o hLe hLit q, fun c o q => full₃ c o (fun z => by rw [z, hne] at q; cases q) (fun z => by rw [z, hnit] at q; cases q) (F.keep c o q), F.above⟩ (fun p hp => ?_) (fun p hp q => ?_) (takeAll hin hys)
      · rcases List.mem_cons.mp hp with rfl | hp
        · exact ⟨hs₃.extBut _ _ hDC (hk₂ _ _ (by simp [hDe, hDit]) hD'), hDL, hD₀⟩
        · exact ⟨full₃ _ _ (hoff p hp).1 (hoff p hp).2 (N p hp).1, (N p hp).2⟩
      · exact (below _ (Heap.lt_size (N p hp).1)).2 q
  refine codeAny_compStart_list (loop _ rfl) ?_
  exact W.self 0 _ _ _ (W.frame 0 _ _ st0 (fun b _ o e => old b o e)) (loop _ rfl)
theorem enum_src {elt : PySem.Expr} {a b : Str} {scope : Scope} {cl : List (Str × Addr)} {Q : Value → Shared → Prop} {l : Addr} {vs : List Value} {ns : List Int} {news : List (Addr × Obj)} (f : Nat → Int → Int)
    (hh : A.handled = none) (hl : h₀.IsList l vs.toArray) (hi : IntsAre vs ns) (hlen : ns.length ≤ 1000) (F : Fr h₀ L s.heap m) (N : News h₀ L s.heap news)
    (helt : ∀ C i x t tx s₃ m₃ E', ns[i]? = some x → i < ns.length → x ∈ ns → s₃.heap.Ns C m₃ → m₃ a = some (.int (i : Nat) t) → m₃ b = some (.int x tx) → Fr h₀ L s₃.heap m → News h₀ L s₃.heap news → 
      wpAny (model prog w) A (eval elt (compEnvC scope cl C env)) (fun y s₄ => (∃ t, y = .int (f i x) t) ∧ Keeps s₃ s₄) E' s₃)
    (hfin : ∀ D h' tk ys, Fr h₀ L h' m → News h₀ L h' ((D, lst ys) :: news) → (∀ p ∈ news, p.1 ≠ D) → IntsAre ys (mapI f ns) → Q (.ref D) { s with heap := h', toks := tk }) :
    wpAny (model prog w) A (call (.type "enumerate") [.ref l]) (EnumSrc prog w A h₀ L m env elt a b scope cl Q) E s := by
  have hls : s.heap.IsList l vs.toArray := hl.at fun o e => F.keep l o e
  obtain ⟨ol, hol, _⟩ := id hl
  have hlt : l < h₀.objs.size := Heap.lt_size hol
  have hLs : L < s.heap.objs.size := F.ns.lt
  have hab : h₀.objs.size ≤ L := F.above
  have hl2 : l < s.heap.objs.size := Nat.lt_trans (Nat.lt_of_lt_of_le hlt hab) hLs
  refine call_enumerate_list hls fun h' he hit hsz hk => ?_
  refine ⟨_, _, l, vs, ns, f, news, rfl, hh, F.keeps hk, fun p hp => ⟨hk _ _ (N p hp).1, (N p hp).2⟩, he, hit, hls.at fun o e => hk l o e, hi, hlen, Nat.succ_ne_self _, Nat.ne_of_lt (Nat.lt_succ_of_lt hl2), Nat.ne_of_lt hl2, Nat.ne_of_lt (Nat.lt_succ_of_lt hLs), Nat.ne_of_lt hLs, fun p hp => ?_,
    Heap.get?_none_of_le (Nat.le_trans hab (Nat.le_of_lt (Nat.lt_succ_of_lt hLs))), Heap.get?_none_of_le (Nat.le_trans hab (Nat.le_of_lt hLs)), helt, fun D h'' tk ys F' N' hne hi' => hfin D h'' tk ys F' N' hne hi'⟩
  have hq1 : p.1 < s.heap.objs.size := Heap.lt_size (N p hp).1
  exact ⟨Nat.ne_of_lt (Nat.lt_succ_of_lt hq1), Nat.ne_of_lt hq1⟩
end
end Mine
end
section
open PySem PySem.W PyProof.Rows
set_option Elab.async false
set_option maxRecDepth 100000
set_option linter.unusedVariables false
namespace Mine
structure B1 where
  d : Addr
  us : List Value
  fs : List Int
  n : Nat
  j : Int
  t : Tok
  nb : Nat
noncomputable def BEnd (h₀ : Heap) (L B SL : Addr) (kk : Int) (x y : Str) (stored : List Str) (m : Str → Option Value) (P : List Int → Prop) (I : Addr) (oI : Obj) (s s₂ : Shared) : Prop :=
  ∃ (h' : Heap) (tk : Nat) (m' : Str → Option Value) (nx : List (Addr × Obj)) (c : B1), s₂ = { s with heap := h', toks := tk } ∧ Fr h₀ L h' m' ∧ News h₀ L h' nx ∧ (c.d, listOf c.us.toArray c.n) ∈ nx ∧ (B, listOf #[.ref SL, .int c.j c.t] c.nb) ∈ nx ∧ c.j = kk ∧ (I, oI) ∈ nx ∧ @Ne Nat c.d I ∧ @Ne Nat c.d B ∧ m' y = some (.ref c.d) ∧ (∀ z, z ≠ x → z ≠ y → stored.contains z = false → m' z = m z) ∧ IntsAre c.us c.fs ∧ P c.fs
theorem BEnd.intro {h₀ : Heap} {L B SL : Addr} {kk j : Int} {x y : Str} {stored : List Str} {m : Str → Option Value} {P : List Int → Prop} {I : Addr} {oI : Obj} {s : Shared} {h' : Heap} {tk : Nat} {m' : Str → Option Value} {nx : List (Addr × Obj)} {D : Addr} {us : List Value} {fs : List Int} {n : Nat} {t : Tok} {nb : Nat}
    (F : Fr h₀ L h' m') (N : News h₀ L h' nx) (hy : m' y = some (.ref D)) (hD : (D, listOf us.toArray n) ∈ nx) (hB : (B, listOf #[.ref SL, .int j t] nb) ∈ nx) (hj : j = kk) (hI : (I, oI) ∈ nx) (hne : @Ne Nat D I) (hnB : @Ne Nat D B) (hm : ∀ z, z ≠ x → z ≠ y → stored.contains z = false → m' z = m z) (hi : IntsAre us fs) (hp : P fs) :
    BEnd h₀ L B SL kk x y stored m P I oI s { s with heap := h', toks := tk } := ⟨h', tk, m', nx, ⟨D, us, fs, n, j, t, nb⟩, rfl, F, N, hD, hB, hj, hI, hne, hnB, hy, hm, hi, hp⟩
noncomputable def BPost (h₀ : Heap) (L B SL : Addr) (kk : Int) (x y : Str) (stored : List Str) (m : Str → Option Value) (P : List Int → Prop) (I : Addr) (oI : Obj) (s : Shared) (Q : Flow → Shared → Prop) (f : Flow) (s₂ : Shared) : Prop :=
  match f with
  | .ret v => Q (.ret v) s₂
  | .brk => Q .next s₂
  | _ => BEnd h₀ L B SL kk x y stored m P I oI s s₂
section
variable {prog : Program} {w : World} {A : Around} {E : Value → Shared → Prop} {s : Shared} {env : Env} {h₀ : Heap} {x y : Str} {body : List Stmt} {Q : Flow → Shared → Prop}
theorem boxrange_st {r D B SL : Addr} {a₀ b₀ k₀ : Int} {t₀ u₀ v₀ tb₀ : Tok} {us₀ : List Value} {fs₀ : List Int} {n₀ nb₀ : Nat} {m : Str → Option Value} {news : List (Addr × Obj)} (N : Nat) (stored : List Str) (P : Nat → List Int → Prop)
    (hh : A.handled = none) (hr : IsRange s.heap r a₀ b₀ 1 t₀ u₀ v₀) (hN : N = (b₀ - a₀).toNat) (hs0 : -1000 ≤ a₀) (hs1 : a₀ < 1000) (hs2 : -1000 ≤ b₀) (hs3 : b₀ < 1000)
    (F : Fr h₀ env.locals s.heap m) (hn : News h₀ env.locals s.heap news) (hy : m y = some (.ref D)) (hD : (D, listOf us₀.toArray n₀) ∈ news) (hB : (B, listOf #[.ref SL, .int k₀ tb₀] nb₀) ∈ news) (hDB : @Ne Nat D B) (hi0 : IntsAre us₀ fs₀) (h0 : P 0 fs₀)
    (turn : ∀ (i : Nat) (k : Int) t (D : Addr) (us : List Value) (fs : List Int) n tb nb (u : Str → Option Value) h tk (I : Addr) oI, k = a₀ + (i : Int) → i < N → IntsAre us fs → P i fs → @Ne Nat D I → @Ne Nat B I → @Ne Nat D B →
      Fr h₀ env.locals h (fun z => if z = x then some (.int k t) else if z = y then some (.ref D) else if stored.contains z then u z else m z) → News h₀ env.locals h [(D, listOf us.toArray n), (B, listOf #[.ref SL, .int (k₀ + (i : Int)) tb] nb), (I, oI)] →
      wpAny (model prog w) A (execs body env) (BPost h₀ env.locals B SL (k₀ + ((i + 1 : Nat) : Int)) x y stored m (P (i + 1)) I oI { s with heap := h, toks := tk } Q) E { s with heap := h, toks := tk })
    (done : ∀ (D : Addr) (us : List Value) (fs : List Int) n tb nb (u : Str → Option Value) h' tk, IntsAre us fs → P N fs → @Ne Nat D B → Fr h₀ env.locals h' (fun z => if z = x then u z else if z = y then some (.ref D) else if stored.contains z then u z else m z) → News h₀ env.locals h' [(D, listOf us.toArray n), (B, listOf #[.ref SL, .int (k₀ + (N : Int)) tb] nb)] → Q .next { s with heap := h', toks := tk }) :
    wpAny (model prog w) A (pyIter (.ref r)) (fun it s₂ => LoopAtV prog w A h₀ env x body Q E it s₂) E s := by
  refine rangeA (σ := B1) (fun c => [(c.d, listOf c.us.toArray c.n), (B, listOf #[.ref SL, .int c.j c.t] c.nb)]) (fun c => [(y, .ref c.d)]) stored (fun i c => IntsAre c.us c.fs ∧ c.j = k₀ + (i : Int) ∧ @Ne Nat c.d B ∧ P i c.fs) ⟨D, us₀, fs₀, n₀, k₀, tb₀, nb₀⟩ hh hr hN hs0 hs1 hs2 hs3 F (kst_newsOf hn (by
      intro p hp
      rcases List.mem_cons.mp hp with rfl | hp
      · exact hD
      · rw [List.mem_singleton.mp hp]; exact hB)) (fun p hp => by rw [List.mem_singleton.mp hp]; exact hy) ⟨hi0, by simp, hDB, h0⟩ ?_ ?_
  · rintro ⟨D, us, fs, n, j, tb, nb⟩ i k t u h tk I oI hk hlt ⟨g1, g2, g3, hP⟩ hne F₁ N₁
    dsimp only at g1 g2 g3 hP
    subst g2
    refine wpAny_mono (turn i k t D us fs n tb nb u h tk I oI hk hlt g1 hP (hne _ (.head _)) (hne _ (.tail _ (.head _))) g3 F₁ N₁) (fun f s₂ p => ?_) fun _ _ x => x
    have hBI : @Ne Nat B I := hne (B, _) (.tail _ (.head _))
    have fin : BEnd h₀ env.locals B SL (k₀ + ((i + 1 : Nat) : Int)) x y stored m (P (i + 1)) I oI { s with heap := h, toks := tk } s₂ → AEnd h₀ env.locals (fun c : B1 => [(c.d, listOf c.us.toArray c.n), (B, listOf #[.ref SL, .int c.j c.t] c.nb)]) (fun c => [(y, .ref c.d)]) stored x m (fun c => IntsAre c.us c.fs ∧ c.j = k₀ + ((i + 1 : Nat) : Int) ∧ @Ne Nat c.d B ∧ P (i + 1) c.fs) I oI { s with heap := h, toks := tk } s₂ := by
      rintro ⟨h', tk', m', nx, c, rfl, F', N', q1, q2, qj, q3, q4, q4b, q5, q6, q7, q8⟩
      refine AEnd.intro c F' N' ?_ q3 ?_ ?_ ?_ ⟨q7, qj, q4b, q8⟩
      · intro p hp
        rcases List.mem_cons.mp hp with rfl | hp
        · exact q1
        · rw [List.mem_singleton.mp hp]; exact q2
      · intro p hp
        rcases List.mem_cons.mp hp with rfl | hp
        · exact q4
        · rw [List.mem_singleton.mp hp]; exact hBI
      · intro p hp
        rw [List.mem_singleton.mp hp]; exact q5
      · intro z hz hz2 hz3
        exact q6 z hz (hz2 _ (.head _)) hz3
    cases f with
    | ret v => exact p
    | brk => exact p
    | next => exact fin p
    | cont => exact fin p
  · rintro ⟨D, us, fs, n, j, tb, nb⟩ u h tk ⟨g1, g2, g3, hP⟩ F₁ N₁
    dsimp only at g1 g2 g3 hP
    subst g2
    exact done D us fs n tb nb u h tk g1 hP g3 F₁ N₁
end
end Mine
end
section
set_option autoImplicit false
namespace Mine
/-- an arrangement of 0 .. i - 1 -/
noncomputable def Arr (i : Nat) (fs : List Int) : Prop := fs.length = i ∧ (∀ x ∈ fs, 0 ≤ x ∧ x < (i : Int)) ∧ fs.Nodup
theorem arr_0 : Arr 0 [] := ⟨rfl, fun _ h => (nomatch h), List.Pairwise.nil⟩
theorem arr_len {i : Nat} {fs : List Int} (h : Arr i fs) : fs.length = i := h.1
theorem arr_step {i : Nat} {fs : List Int} {k : Int} (h : Arr i fs) (hk : k = 0 + (i : Int)) (n : Nat) : Arr (i + 1) (fs.take n ++ [k] ++ fs.drop n) := by
  have e : (fs.take n ++ [k] ++ fs.drop n).Perm (k :: fs) := by
    rw [List.append_assoc]
    refine List.perm_middle.trans ?_
    show (k :: (fs.take n ++ fs.drop n)).Perm _
    rw [List.take_append_drop]
  obtain ⟨h1, h2, h3⟩ := h
  refine ⟨by rw [e.length_eq, List.length_cons, h1], fun x hx => ?_, e.nodup_iff.mpr (List.nodup_cons.mpr ⟨fun hm => ?_, h3⟩)⟩
  · rcases List.mem_cons.mp (e.mem_iff.mp hx) with rfl | hx
    · omega
    · have := h2 x hx
      omega
  · have := h2 k hm
    omega
/-- x^p - x -/
noncomputable def divF (p : Int) : List Int := [0, p - 1] ++ (List.replicate (p - 2).toNat [0]).flatten ++ [1]
theorem arr_lenI {p : Int} {fs : List Int} (hp : Pr p) (h : Arr p.toNat fs) : (fs.length : Int) = p := by
  rw [h.1]
  have := hp.two
  omega
theorem arr_sm {p : Int} {fs : List Int} (hp : Pr p) (h : Arr p.toNat fs) : Sm p fs := fun x hx => by
  have := h.2.1 x hx
  have := hp.two
  omega
theorem divF_nm {p : Int} (hp : Pr p) : Nm p (divF p) := by
  rcases hp with rfl | rfl | rfl <;> (refine ⟨?_, .inr ?_⟩ <;> (unfold divF; try unfold Sm) <;> decide)
theorem divF_len {p : Int} (hp : Pr p) : ((divF p).length : Int) = p + 1 := by
  rcases hp with rfl | rfl | rfl <;> (unfold divF; decide)
theorem polyF_nm {p : Int} {row : List Int} (hp : Pr p) : Nm p (polyF row p) := trimF_nm (Sm.cons (fmod_bd _ hp.pos) (Sm.map fun _ _ => fmod_bd _ hp.pos))
theorem polyF_len {p : Int} {row : List Int} (hp : Pr p) : ((polyF row p).length : Int) ≤ p - 1 := by
  have h := trimF_len (polyRaw row p)
  have h2 : (polyRaw row p).length = 1 + (p.toNat - 2) := by unfold polyRaw; simp; omega
  have := hp.two
  unfold polyF
  omega
theorem polyF_lt {p : Int} {row : List Int} (hp : Pr p) : (polyF row p).length < 7 := by
  have h := polyF_len (row := row) hp
  have := hp.le7
  omega
theorem polyF_lt100 {p : Int} {row : List Int} (hp : Pr p) : (polyF row p).length < 100 := Nat.lt_of_lt_of_le (polyF_lt hp) (by decide)
theorem divF_lt100 {p : Int} (hp : Pr p) : (divF p).length < 100 := by
  have := divF_len hp
  have := hp.le7
  omega
theorem divF_pos {p : Int} (hp : Pr p) : 0 < (divF p).length := by
  have := divF_len hp
  have := hp.two
  omega
theorem restF_lt100 {p : Int} {a : List Int} (hp : Pr p) : (restF a (divF p) p).length < 100 := Nat.lt_of_le_of_lt restF_len (by have := divF_lt100 hp; omega)
theorem mulF_lt400 {p : Int} {a b : List Int} (ha : a.length < 100) (hb : b.length < 100) : (mulF a b p).length < 400 := Nat.lt_of_le_of_lt mulF_len (by omega)
/-- the power t of f, less what x^p - x takes -/
noncomputable def powS (f : List Int) (p : Int) : Nat → List Int
  | 0 => [1]
  | t + 1 => restF (mulF (powS f p t) f p) (divF p) p
noncomputable def risenF (g : List Int) (p : Int) : List Int := restF (mulF [0, 1] g p) (divF p) p
noncomputable def topF (g : List Int) (p : Int) : Int := if ((risenF g p).length : Int) = p then (risenF g p).getD (p - 1).toNat 0 else 0
noncomputable def toldS (f : List Int) (p : Int) : Nat → List Int
  | 0 => (List.replicate (p - 1).toNat [0]).flatten
  | t + 1 => (toldS f p t).set (p - 1 - (1 + (t : Int))).toNat (topF (powS f p (t + 1)) p)
noncomputable def LawI (f : List Int) (p : Int) (i : Nat) (fs gs : List Int) : Prop := fs = powS f p i ∧ gs = toldS f p i
theorem lawI_0 {f : List Int} {p : Int} : LawI f p 0 [1] (List.replicate (p - 1).toNat [0]).flatten := ⟨rfl, rfl⟩
theorem one_nm {p : Int} (hp : Pr p) : Nm p [1] := by
  have := hp.two
  exact ⟨Sm.cons ⟨by decide, by omega⟩ Sm.nil, .inr (by decide)⟩
theorem x_sm {p : Int} (hp : Pr p) : Sm p [0, 1] := by
  have := hp.two
  exact Sm.cons ⟨by decide, by omega⟩ (Sm.cons ⟨by decide, by omega⟩ Sm.nil)
theorem lawI_nm {f fs gs : List Int} {p : Int} {i : Nat} (hp : Pr p) (h : LawI f p i fs gs) : Nm p fs := by
  rw [h.1]
  cases i with
  | zero => exact one_nm hp
  | succ i => exact restF_nm hp.pos (mulF_nm hp.pos).1
theorem lawI_len {f fs gs : List Int} {p : Int} {i : Nat} (hp : Pr p) (h : LawI f p i fs gs) : fs.length < 100 := by
  rw [h.1]
  cases i with
  | zero => exact (by decide : ([1] : List Int).length < 100)
  | succ i => exact restF_lt100 hp
theorem toldS_len {f : List Int} {p : Int} : ∀ i, (toldS f p i).length = (p - 1).toNat
  | 0 => by unfold toldS; simp
  | i + 1 => by unfold toldS; rw [List.length_set]; exact toldS_len i
theorem lawI_told {f fs gs : List Int} {p : Int} {i : Nat} (h : LawI f p i fs gs) : gs.length = (p - 1).toNat := by rw [h.2]; exact toldS_len i
end Mine
end
section
set_option autoImplicit false
namespace Mine
/-- the value of a list of numbers, as a polynomial -/
noncomputable def ev : List Int → Int → Int
  | [], _ => 0
  | a :: l, x => a + x * ev l x
theorem ev_nil (x : Int) : ev [] x = 0 := rfl
theorem ev_cons (a : Int) (l : List Int) (x : Int) : ev (a :: l) x = a + x * ev l x := rfl
theorem ev_ext : ∀ (l m : List Int) (x : Int), (∀ i, l.getD i 0 = m.getD i 0) → ev l x = ev m x
  | [], [], _, _ => rfl
  | [], b :: m, x, h => by
    have h0 := h 0
    have ih := ev_ext [] m x fun i => by have := h (i + 1); simpa using this
    simp at h0
    rw [ev_cons, ← h0, ← ih]
    simp [ev]
  | a :: l, [], x, h => by
    have h0 := h 0
    have ih := ev_ext l [] x fun i => by have := h (i + 1); simpa using this
    simp at h0
    rw [ev_cons, h0, ih]
    simp [ev]
  | a :: l, b :: m, x, h => by
    have h0 := h 0
    have ih := ev_ext l m x fun i => by have := h (i + 1); simpa using this
    simp at h0
    rw [ev_cons, ev_cons, h0, ih]
theorem ev_trimF (l : List Int) (x : Int) : ev (trimF l) x = ev l x := ev_ext _ _ _ (trimF_getD l)
theorem ev_zero (l : List Int) (x : Int) (h : ∀ i, l.getD i 0 = 0) : ev l x = 0 := ev_ext l [] x fun i => by rw [h i]; rfl
theorem ev_replicate (n : Nat) (x : Int) : ev (List.replicate n 0) x = 0 := by
  induction n with
  | zero => rfl
  | succ n ih => rw [List.replicate_succ, ev_cons, ih]; simp
theorem ev_set (x v : Int) : ∀ (l : List Int) (i : Nat), i < l.length → ev (l.set i v) x = ev l x + (v - l.getD i 0) * x ^ i
  | [], _, h => absurd h (Nat.not_lt_zero _)
  | a :: l, 0, _ => by simp [ev]; omega
  | a :: l, i + 1, h => by
    rw [List.set_cons_succ, ev_cons, ev_cons, ev_set x v l i (by simpa using h), List.getD_cons_succ]
    grind
/-- the list c x^i -/
noncomputable def mono (i : Nat) (c : Int) : List Int := List.replicate i 0 ++ [c]
theorem ev_mono (i : Nat) (c x : Int) : ev (mono i c) x = c * x ^ i := by
  unfold mono
  induction i with
  | zero => simp [ev]
  | succ i ih => rw [List.replicate_succ, List.cons_append, ev_cons, ih]; grind
noncomputable def padd : List Int → List Int → List Int
  | [], b => b
  | a :: l, [] => a :: l
  | a :: l, b :: m => (a + b) :: padd l m
theorem ev_padd (x : Int) : ∀ a b : List Int, ev (padd a b) x = ev a x + ev b x
  | [], b => by simp [padd, ev]
  | a :: l, [] => by simp [padd, ev]
  | a :: l, b :: m => by simp only [padd, ev, ev_padd x l m]; grind
theorem padd_getD : ∀ (a b : List Int) (i : Nat), (padd a b).getD i 0 = a.getD i 0 + b.getD i 0
  | [], b, i => by simp [padd]
  | a :: l, [], i => by simp [padd]
  | a :: l, b :: m, 0 => by simp [padd]
  | a :: l, b :: m, i + 1 => by simp only [padd, List.getD_cons_succ]; exact padd_getD l m i
theorem padd_len : ∀ (a b : List Int), (padd a b).length = max a.length b.length
  | [], b => by simp [padd]
  | a :: l, [] => by simp [padd]
  | a :: l, b :: m => by simp only [padd, List.length_cons, padd_len l m]; omega
noncomputable def pscale (c : Int) (l : List Int) : List Int := l.map fun x => c * x
theorem ev_pscale (c x : Int) (l : List Int) : ev (pscale c l) x = c * ev l x := by
  induction l with
  | nil => simp [pscale, ev]
  | cons a l ih =>
    have : pscale c (a :: l) = (c * a) :: pscale c l := rfl
    rw [this, ev_cons, ev_cons, ih]; grind
theorem pscale_getD (c : Int) (l : List Int) (i : Nat) : (pscale c l).getD i 0 = c * l.getD i 0 := by
  unfold pscale
  rw [List.getD_eq_getElem?_getD, List.getD_eq_getElem?_getD, List.getElem?_map]
  cases l[i]? <;> simp
noncomputable def pm : List Int → List Int → List Int
  | [], _ => []
  | a :: l, b => padd (pscale a b) (0 :: pm l b)
theorem ev_pm (x : Int) : ∀ a b : List Int, ev (pm a b) x = ev a x * ev b x
  | [], b => by simp [pm, ev]
  | a :: l, b => by simp only [pm, ev_padd, ev_pscale, ev_cons, ev_pm x l b]; grind
/-- the same up to p times a polynomial, everywhere -/
noncomputable def PCg (p : Int) (F G : Int → Int) : Prop := ∃ r : List Int, ∀ x, F x = G x + p * ev r x
theorem PCg.rfl' {p : Int} {F : Int → Int} : PCg p F F := ⟨[], fun x => by simp [ev]⟩
theorem PCg.of_eq {p : Int} {F G : Int → Int} (h : ∀ x, F x = G x) : PCg p F G := ⟨[], fun x => by simp [ev, h]⟩
theorem PCg.symm {p : Int} {F G : Int → Int} : PCg p F G → PCg p G F := by
  rintro ⟨r, h⟩
  exact ⟨pscale (-1) r, fun x => by rw [ev_pscale, h x]; grind⟩
theorem PCg.trans {p : Int} {F G H : Int → Int} : PCg p F G → PCg p G H → PCg p F H := by
  rintro ⟨r, h⟩ ⟨t, g⟩
  exact ⟨padd r t, fun x => by rw [ev_padd, h x, g x]; grind⟩
theorem PCg.add {p : Int} {F G H K : Int → Int} : PCg p F G → PCg p H K → PCg p (fun x => F x + H x) (fun x => G x + K x) := by
  rintro ⟨r, h⟩ ⟨t, g⟩
  exact ⟨padd r t, fun x => by dsimp only; rw [ev_padd, h x, g x]; grind⟩
theorem PCg.mul {p : Int} {F G : Int → Int} (l : List Int) : PCg p F G → PCg p (fun x => F x * ev l x) (fun x => G x * ev l x) := by
  rintro ⟨r, h⟩
  exact ⟨pm r l, fun x => by dsimp only; rw [ev_pm, h x]; grind⟩
theorem PCg.smul {p : Int} {F G : Int → Int} (c : Int) : PCg p F G → PCg p (fun x => c * F x) (fun x => c * G x) := by
  rintro ⟨r, h⟩
  exact ⟨pscale c r, fun x => by dsimp only; rw [ev_pscale, h x]; grind⟩
/-- congruent mod p -/
noncomputable def Md (p a b : Int) : Prop := ∃ k, a = b + p * k
theorem Md.rfl' {p a : Int} : Md p a a := ⟨0, by simp⟩
theorem Md.symm {p a b : Int} : Md p a b → Md p b a := by rintro ⟨k, h⟩; exact ⟨-k, by grind⟩
theorem Md.trans {p a b c : Int} : Md p a b → Md p b c → Md p a c := by rintro ⟨k, h⟩ ⟨l, g⟩; exact ⟨k + l, by grind⟩
theorem Md.add {p a b c d : Int} : Md p a b → Md p c d → Md p (a + c) (b + d) := by rintro ⟨k, h⟩ ⟨l, g⟩; exact ⟨k + l, by grind⟩
theorem Md.sub {p a b c d : Int} : Md p a b → Md p c d → Md p (a - c) (b - d) := by rintro ⟨k, h⟩ ⟨l, g⟩; exact ⟨k - l, by grind⟩
theorem Md.mul {p a b c d : Int} : Md p a b → Md p c d → Md p (a * c) (b * d) := by rintro ⟨k, h⟩ ⟨l, g⟩; exact ⟨k * d + b * l + p * k * l, by subst h g; grind⟩
theorem Md.pow {p a b : Int} (h : Md p a b) : ∀ n : Nat, Md p (a ^ n) (b ^ n)
  | 0 => by simpa using Md.rfl'
  | n + 1 => by rw [Int.pow_succ, Int.pow_succ]; exact (Md.pow h n).mul h
theorem fmod_md (a p : Int) : Md p (Int.fmod a p) a := ⟨-(Int.fdiv a p), by have := Int.fmod_def a p; grind⟩
theorem Md.eq {p a b : Int} (h : Md p a b) (ha : 0 ≤ a ∧ a < p) (hb : 0 ≤ b ∧ b < p) : a = b := by
  obtain ⟨k, h⟩ := h
  have e : a % p = b % p := by rw [h, Int.add_mul_emod_self_left]
  rwa [Int.emod_eq_of_lt ha.1 ha.2, Int.emod_eq_of_lt hb.1 hb.2] at e
theorem PCg.at {p : Int} {F G : Int → Int} (h : PCg p F G) (x : Int) : Md p (F x) (G x) := by
  obtain ⟨r, h⟩ := h
  exact ⟨ev r x, h x⟩
theorem ev_md {p x y : Int} (h : Md p x y) : ∀ l : List Int, Md p (ev l x) (ev l y)
  | [] => Md.rfl'
  | a :: l => Md.rfl'.add (h.mul (ev_md h l))
theorem cp_fmod (p : Int) : ∀ l : List Int, PCg p (ev (l.map fun x => Int.fmod x p)) (ev l)
  | [] => PCg.rfl'
  | a :: l => by
    obtain ⟨r, h⟩ := cp_fmod p l
    refine ⟨-(Int.fdiv a p) :: r, fun x => ?_⟩
    rw [List.map_cons, ev_cons, ev_cons, ev_cons, h x, Int.fmod_def]
    grind
/-- a list with small numbers, all of which are 0 mod p, is all 0 -/
theorem ev_range (x : Int) (f : Nat → Int) (l : List Int) (n : Nat) (hn : l.length ≤ n) (h : ∀ i, i < n → f i = l.getD i 0) : ev ((List.range n).map f) x = ev l x := by
  refine ev_ext _ _ _ fun i => ?_
  rw [List.getD_eq_getElem?_getD, List.getElem?_map]
  by_cases hi : i < n
  · rw [List.getElem?_range hi, ← h i hi]; rfl
  · rw [List.getElem?_eq_none (by rw [List.length_range]; omega), List.getD_eq_getElem?_getD, List.getElem?_eq_none (by omega : l.length ≤ i)]; rfl
theorem cp_addF (a b : List Int) (p : Int) : PCg p (ev (addF a b p)) (fun x => ev a x + ev b x) := by
  have e : (List.range (max a.length b.length)).map (fun i => Int.fmod (a.getD i 0 + b.getD i 0) p) = ((List.range (max a.length b.length)).map fun i => a.getD i 0 + b.getD i 0).map fun x => Int.fmod x p := by
    rw [List.map_map]; rfl
  obtain ⟨r, h⟩ := cp_fmod p ((List.range (max a.length b.length)).map fun i => a.getD i 0 + b.getD i 0)
  refine ⟨r, fun x => ?_⟩
  unfold addF
  rw [ev_trimF, e, h x, ev_range x _ (padd a b) _ (by rw [padd_len]; exact Nat.le_refl _) fun i _ => (padd_getD a b i).symm, ev_padd]
theorem cp_negF (a : List Int) (p : Int) : PCg p (ev (negF a p)) (fun x => - ev a x) := by
  have e : negF a p = (pscale (-1) a).map fun x => Int.fmod x p := by
    unfold negF pscale
    rw [List.map_map]
    refine List.map_congr_left fun x _ => ?_
    show _ = Int.fmod (-1 * x) p
    rw [Int.neg_one_mul]
  rw [e]
  refine (cp_fmod p _).trans (PCg.of_eq fun x => ?_)
  rw [ev_pscale]; grind
theorem cp_subF (a b : List Int) (p : Int) : PCg p (ev (subF a b p)) (fun x => ev a x - ev b x) := by
  refine (cp_addF a (negF b p) p).trans ((PCg.add PCg.rfl' (cp_negF b p)).trans (PCg.of_eq fun x => ?_))
  grind
theorem cp_scaleF (a : List Int) (k p : Int) : PCg p (ev (scaleF a k p)) (fun x => k * ev a x) := by
  have e : (a.map fun o => Int.fmod (o * k) p) = (pscale k a).map fun x => Int.fmod x p := by
    unfold pscale
    rw [List.map_map]
    refine List.map_congr_left fun x _ => ?_
    show _ = Int.fmod (k * x) p
    rw [Int.mul_comm]
  obtain ⟨r, h⟩ := cp_fmod p (pscale k a)
  refine ⟨r, fun x => ?_⟩
  unfold scaleF
  rw [ev_trimF, e, h x, ev_pscale]
theorem ev_step (p one x : Int) (at' : Nat) : ∀ (b : List Int) (k : Nat) (f : List Int), at' + k + b.length ≤ f.length →
    ∃ r : List Int, ∀ x, ev ((b.zipIdx k).foldl (mulStep p one at') f) x = ev f x + one * x ^ (at' + k) * ev b x + p * ev r x
  | [], k, f, _ => ⟨[], fun x => by simp [ev]⟩
  | b :: bs, k, f, h => by
    rw [List.length_cons] at h
    obtain ⟨r, hr⟩ := ev_step p one x at' bs (k + 1) (mulStep p one at' f (b, k)) (by unfold mulStep; rw [List.length_set]; omega)
    refine ⟨padd r (mono (at' + k) (-(Int.fdiv (f.getD (at' + k) 0 + one * b) p))), fun x => ?_⟩
    rw [List.zipIdx_cons, List.foldl_cons, hr x]
    have e : ev (mulStep p one at' f (b, k)) x = ev f x + (Int.fmod (f.getD (at' + k) 0 + one * b) p - f.getD (at' + k) 0) * x ^ (at' + k) := ev_set x _ f (at' + k) (by omega)
    rw [e, ev_padd, ev_mono, ev_cons, Int.fmod_def, ← Nat.add_assoc, Int.pow_succ]
    grind
theorem cp_mulInn (p one : Int) (at' : Nat) (b f : List Int) (h : at' + b.length ≤ f.length) : ∃ r : List Int, ∀ x, ev (mulInn p one at' b f) x = ev f x + one * x ^ at' * ev b x + p * ev r x := by
  obtain ⟨r, hr⟩ := ev_step p one 0 at' b 0 f (by omega)
  exact ⟨r, hr⟩
theorem divStep_eq (p num : Int) (at' : Nat) : divStep p num at' = mulStep p (-num) at' := by
  funext f x
  unfold divStep mulStep
  rw [Int.neg_mul, Int.sub_eq_add_neg]
theorem divInn_eq (p num : Int) (at' : Nat) (b f : List Int) : divInn p num at' b f = mulInn p (-num) at' b f := by
  unfold divInn mulInn
  rw [divStep_eq]
theorem cp_mulRaw (p : Int) (b : List Int) : ∀ (a : List Int) (k : Nat) (f : List Int), k + a.length + b.length ≤ f.length + 1 →
    ∃ r : List Int, ∀ x, ev ((a.zipIdx k).foldl (mulTurn p b) f) x = ev f x + x ^ k * ev a x * ev b x + p * ev r x
  | [], k, f, _ => ⟨[], fun x => by simp [ev]⟩
  | a :: l, k, f, h => by
    rw [List.length_cons] at h
    have hl : (mulTurn p b f (a, k)).length = f.length := by
      unfold mulTurn
      split
      · rfl
      · exact mulInn_len
    obtain ⟨r, hr⟩ := cp_mulRaw p b l (k + 1) (mulTurn p b f (a, k)) (by rw [hl]; omega)
    have e : ∃ t : List Int, ∀ x, ev (mulTurn p b f (a, k)) x = ev f x + a * x ^ k * ev b x + p * ev t x := by
      unfold mulTurn
      split
      · rename_i h0
        dsimp only at h0
        exact ⟨[], fun x => by rw [h0]; simp [ev]⟩
      · exact cp_mulInn p a k b f (by omega)
    obtain ⟨t, ht⟩ := e
    refine ⟨padd r t, fun x => ?_⟩
    rw [List.zipIdx_cons, List.foldl_cons, hr x, ht x, ev_padd, ev_cons, Int.pow_succ]
    grind
theorem cp_mulF (a b : List Int) (p : Int) : PCg p (ev (mulF a b p)) (fun x => ev a x * ev b x) := by
  unfold mulF
  split
  · rename_i h
    refine PCg.of_eq fun x => ?_
    rcases h with rfl | rfl <;> simp [ev]
  · obtain ⟨r, hr⟩ := cp_mulRaw p b a 0 (List.replicate (a.length + b.length - 1) 0) (by rw [List.length_replicate]; omega)
    refine ⟨r, fun x => ?_⟩
    rw [ev_trimF]
    unfold mulRaw
    rw [hr x, ev_replicate]
    grind
end Mine
end
section
set_option autoImplicit false
set_option linter.unusedVariables false
namespace Mine
theorem getD_set {l : List Int} {i j : Nat} {v : Int} (h : i < l.length) : (l.set i v).getD j 0 = if j = i then v else l.getD j 0 := by
  rw [List.getD_eq_getElem?_getD, List.getElem?_set, List.getD_eq_getElem?_getD]
  by_cases e : i = j
  · subst e; simp [h]
  · have e2 : ¬ j = i := fun q => e q.symm
    simp [e, e2]
theorem getD_of_le {l : List Int} {i : Nat} (h : l.length ≤ i) : l.getD i 0 = 0 := by
  rw [List.getD_eq_getElem?_getD, List.getElem?_eq_none h]; rfl
theorem divFold_getD (p num : Int) (at' i : Nat) : ∀ (b : List Int) (k : Nat) (f : List Int), at' + k + b.length ≤ f.length →
    ((b.zipIdx k).foldl (divStep p num at') f).getD i 0 = if at' + k ≤ i ∧ i < at' + k + b.length then Int.fmod (f.getD i 0 - num * b.getD (i - at' - k) 0) p else f.getD i 0
  | [], k, f, _ => by
    rw [if_neg (by rw [List.length_nil]; omega)]; rfl
  | b :: bs, k, f, h => by
    rw [List.length_cons] at h
    have hk : at' + k < f.length := by omega
    have hl : (divStep p num at' f (b, k)).length = f.length := by unfold divStep; rw [List.length_set]
    have e : (divStep p num at' f (b, k)).getD i 0 = if i = at' + k then Int.fmod (f.getD (at' + k) 0 - num * b) p else f.getD i 0 := getD_set hk
    rw [List.zipIdx_cons, List.foldl_cons, divFold_getD p num at' i bs (k + 1) _ (by rw [hl]; omega), e, List.length_cons]
    by_cases h1 : i = at' + k
    · subst h1
      rw [if_neg (by omega), if_pos rfl, if_pos (by omega), show at' + k - at' - k = 0 by omega]; rfl
    · rw [if_neg h1]
      by_cases h2 : at' + (k + 1) ≤ i ∧ i < at' + (k + 1) + bs.length
      · rw [if_pos h2, if_pos (by omega), show i - at' - k = (i - at' - (k + 1)) + 1 by omega, List.getD_cons_succ]
      · rw [if_neg h2, if_neg (by omega)]
theorem divInn_getD (p num : Int) (at' i : Nat) (b f : List Int) (h : at' + b.length ≤ f.length) :
    (divInn p num at' b f).getD i 0 = if at' ≤ i ∧ i < at' + b.length then Int.fmod (f.getD i 0 - num * b.getD (i - at') 0) p else f.getD i 0 := by
  have := divFold_getD p num at' i b 0 f (by omega)
  unfold divInn
  simpa using this
theorem fmod_eq0 {p a : Int} (hp : 0 < p) (h : Md p a 0) : Int.fmod a p = 0 := ((fmod_md a p).trans h).eq (fmod_bd a hp) ⟨Int.le_refl _, hp⟩
theorem div_top {p turn r c : Int} (hp : 0 < p) (ht : Md p (turn * c) 1) (hr : 0 ≤ r ∧ r < p) : Int.fmod (r - Int.fmod (r * turn) p * c) p = 0 := by
  refine fmod_eq0 hp ?_
  have h1 : Md p (Int.fmod (r * turn) p * c) (r * turn * c) := (fmod_md _ p).mul Md.rfl'
  have h2 : Md p (r * turn * c) (r * 1) := by rw [Int.mul_assoc]; exact Md.rfl'.mul ht
  have h3 := (Md.rfl' (p := p) (a := r)).sub (h1.trans h2)
  rwa [Int.mul_one, Int.sub_self] at h3
theorem div_top0 {p turn r c : Int} (hp : 0 < p) (ht : Md p (turn * c) 1) (hr : 0 ≤ r ∧ r < p) (h0 : Int.fmod (r * turn) p = 0) : r = 0 := by
  have h := div_top hp ht hr
  rw [h0, Int.zero_mul, Int.sub_zero] at h
  have h2 := (fmod_md r p).symm
  rw [h] at h2
  exact h2.eq hr ⟨Int.le_refl _, hp⟩
theorem d1 {n B R : Nat} (h : n + 1 + B ≤ R + 1) : n + B ≤ R := by omega
theorem d2 {n B j : Nat} (h : n + B - 1 ≤ j) (e : ¬ j = n + B - 1) : n + 1 + B - 1 ≤ j ∧ ¬ (n ≤ j ∧ j < n + B) := by omega
theorem d3 {n B : Nat} (hb : 0 < B) : (n ≤ n + B - 1 ∧ n + B - 1 < n + B) ∧ n + B - 1 - n = B - 1 := by omega
theorem div_main {p turn : Int} {b : List Int} (hp : 0 < p) (hb : 0 < b.length) (ht : Md p (turn * b.getD (b.length - 1) 0) 1) : ∀ (n : Nat) (rq : List Int × List Int), Sm p rq.1 → n ≤ rq.2.length → (n = 0 ∨ n + b.length ≤ rq.1.length + 1) →
    (∀ j, j < n → rq.2.getD j 0 = 0) → (∀ j, n + b.length - 1 ≤ j → rq.1.getD j 0 = 0) →
    (∃ r : List Int, ∀ x, ev (divLoop p turn b n rq).1 x + ev (divLoop p turn b n rq).2 x * ev b x = ev rq.1 x + ev rq.2 x * ev b x + p * ev r x) ∧ (∀ j, b.length - 1 ≤ j → (divLoop p turn b n rq).1.getD j 0 = 0)
  | 0, rq, _, _, _, _, hz => ⟨⟨[], fun x => by simp [divLoop, ev]⟩, fun j hj => hz j (by omega)⟩
  | n + 1, (rest, quot), hs, h1, h2, hq, hz => by
    dsimp only at hs h1 h2 hq hz
    replace h2 := h2.resolve_left (Nat.succ_ne_zero n)
    have hr := hs.getD hp (n + b.length - 1)
    have key : divTurn p turn b (rest, quot) n = (if Int.fmod (rest.getD (n + b.length - 1) 0 * turn) p = 0 then rest else divInn p (Int.fmod (rest.getD (n + b.length - 1) 0 * turn) p) n b rest, quot.set n (Int.fmod (rest.getD (n + b.length - 1) 0 * turn) p)) := rfl
    have A : ∃ r : List Int, ∀ x, ev (divTurn p turn b (rest, quot) n).1 x = ev rest x - Int.fmod (rest.getD (n + b.length - 1) 0 * turn) p * x ^ n * ev b x + p * ev r x := by
      rw [key]
      dsimp only
      split
      · rename_i h0
        exact ⟨[], fun x => by rw [h0]; simp [ev]⟩
      · rw [divInn_eq]
        obtain ⟨r, h⟩ := cp_mulInn p (-(Int.fmod (rest.getD (n + b.length - 1) 0 * turn) p)) n b rest (d1 h2)
        exact ⟨r, fun x => by rw [h x]; grind⟩
    have B : ∀ x, ev (divTurn p turn b (rest, quot) n).2 x = ev quot x + Int.fmod (rest.getD (n + b.length - 1) 0 * turn) p * x ^ n := by
      intro x
      rw [key]
      dsimp only
      rw [ev_set x _ quot n h1, hq n (Nat.lt_succ_self n), Int.sub_zero]
    have L1 : (divTurn p turn b (rest, quot) n).1.length = rest.length := by
      rw [key]; dsimp only; split
      · rfl
      · exact divInn_len
    have L2 : (divTurn p turn b (rest, quot) n).2.length = quot.length := by rw [key]; dsimp only; rw [List.length_set]
    have S1 : Sm p (divTurn p turn b (rest, quot) n).1 := by
      rw [key]; dsimp only; split
      · exact hs
      · exact divInn_sm hp hs
    have Q1 : ∀ j, j < n → (divTurn p turn b (rest, quot) n).2.getD j 0 = 0 := by
      intro j hj
      rw [key]; dsimp only
      rw [getD_set h1, if_neg (Nat.ne_of_lt hj)]
      exact hq j (Nat.lt_succ_of_lt hj)
    have Z1 : ∀ j, n + b.length - 1 ≤ j → (divTurn p turn b (rest, quot) n).1.getD j 0 = 0 := by
      intro j hj
      rw [key]; dsimp only
      split
      · rename_i h0
        by_cases e : j = n + b.length - 1
        · subst e
          exact div_top0 hp ht hr h0
        · exact hz j (d2 hj e).1
      · rw [divInn_getD _ _ _ _ _ _ (d1 h2)]
        by_cases e : j = n + b.length - 1
        · subst e
          rw [if_pos (d3 hb).1, (d3 hb).2]
          exact div_top hp ht hr
        · rw [if_neg (d2 hj e).2]
          exact hz j (d2 hj e).1
    obtain ⟨⟨r, hr1⟩, hr2⟩ := div_main hp hb ht n (divTurn p turn b (rest, quot) n) S1 (by rw [L2]; exact Nat.le_of_succ_le h1) (.inr (by rw [L1]; exact Nat.le_succ_of_le (d1 h2))) Q1 Z1
    obtain ⟨t, ht1⟩ := A
    refine ⟨⟨padd r t, fun x => ?_⟩, hr2⟩
    show ev (divLoop p turn b n (divTurn p turn b (rest, quot) n)).1 x + ev (divLoop p turn b n (divTurn p turn b (rest, quot) n)).2 x * ev b x = _
    rw [hr1 x, ht1 x, B x, ev_padd]
    grind
theorem invF_md {a p : Int} (hp : Pr p) (h : 0 < a ∧ a < p) : Md p (invF a p * a) 1 := by
  obtain ⟨h0, h1⟩ := h
  obtain ⟨n, rfl⟩ := Int.eq_ofNat_of_zero_le (Int.le_of_lt h0)
  have h2 : 0 < n := Int.ofNat_lt.mp h0
  have e : (invF (n : Int) p * n - 1) % p = 0 := by
    rcases hp with rfl | rfl | rfl
    · exact (by decide +kernel : ∀ n : Nat, n < 3 → 0 < n → (invF (n : Int) 3 * n - 1) % 3 = 0) n (Int.ofNat_lt.mp h1) h2
    · exact (by decide +kernel : ∀ n : Nat, n < 5 → 0 < n → (invF (n : Int) 5 * n - 1) % 5 = 0) n (Int.ofNat_lt.mp h1) h2
    · exact (by decide +kernel : ∀ n : Nat, n < 7 → 0 < n → (invF (n : Int) 7 * n - 1) % 7 = 0) n (Int.ofNat_lt.mp h1) h2
  exact ⟨(invF (n : Int) p * n - 1) / p, by have := Int.mul_ediv_add_emod (invF (n : Int) p * n - 1) p; rw [e, Int.add_zero] at this; rw [this]; exact (Int.sub_add_cancel _ _).symm.trans (Int.add_comm _ _)⟩
theorem ev_take (x : Int) (l : List Int) (n : Nat) (h : ∀ j, n ≤ j → l.getD j 0 = 0) : ev (l.take n) x = ev l x := by
  refine ev_ext _ _ _ fun i => ?_
  rw [List.getD_eq_getElem?_getD, List.getElem?_take]
  by_cases hi : i < n
  · rw [if_pos hi, List.getD_eq_getElem?_getD]
  · rw [if_neg hi, h i (by omega)]; rfl
theorem cp_div {a b : List Int} {p : Int} (hp : Pr p) (ha : Sm p a) (hb : Nm p b) (hl : 0 < b.length) : ∃ q : List Int, PCg p (ev a) (fun x => ev q x * ev b x + ev (restF a b p) x) := by
  have hp0 := hp.pos
  obtain ⟨⟨r, h⟩, hz⟩ := div_main (turn := invF (b.getD (b.length - 1) 0) p) (b := b) hp0 hl (invF_md hp (hb.last hl)) (a.length + 1 - b.length) (a, List.replicate (a.length + 1 - b.length) 0)
    ha (by simp) (by dsimp only; omega) (fun j hj => by dsimp only; rw [List.getD_eq_getElem?_getD, List.getElem?_replicate, if_pos hj]; rfl) (fun j hj => getD_of_le (by dsimp only; omega))
  refine ⟨(divRaw a b p).2, PCg.symm ⟨r, fun x => ?_⟩⟩
  unfold restF
  dsimp only
  rw [ev_trimF]
  have e2 := ev_take x _ _ hz
  rw [show (divRaw a b p).1 = (divLoop p (invF (b.getD (b.length - 1) 0) p) b (a.length + 1 - b.length) (a, List.replicate (a.length + 1 - b.length) 0)).1 from rfl, e2]
  have hx := h x
  dsimp only at hx
  rw [ev_replicate] at hx
  unfold divRaw
  grind
theorem nm_ext {p : Int} {l m : List Int} (hl : Nm p l) (hm : Nm p m) (h : ∀ i, l.getD i 0 = m.getD i 0) : l = m := by
  have key : ∀ {l m : List Int}, (m = [] ∨ m.getD (m.length - 1) 0 ≠ 0) → (∀ i, l.getD i 0 = m.getD i 0) → m.length ≤ l.length := by
    intro l m hm h
    rcases hm with rfl | hm
    · exact Nat.zero_le _
    · refine Nat.le_of_not_lt fun hlt => hm ?_
      rw [← h]
      exact getD_of_le (by omega)
  have e : l.length = m.length := Nat.le_antisymm (key hl.2 fun i => (h i).symm) (key hm.2 h)
  refine List.ext_getElem e fun i h1 h2 => ?_
  have := h i
  rw [List.getD_eq_getElem?_getD, List.getD_eq_getElem?_getD, List.getElem?_eq_getElem h1, List.getElem?_eq_getElem h2] at this
  simpa using this
noncomputable def sumP : Nat → (Nat → Int) → Int
  | 0, _ => 0
  | n + 1, F => sumP n F + F n
theorem sumP_congr {F G : Nat → Int} : ∀ (n : Nat), (∀ v, v < n → F v = G v) → sumP n F = sumP n G
  | 0, _ => rfl
  | n + 1, h => by unfold sumP; rw [sumP_congr n fun v hv => h v (by omega), h n (by omega)]
theorem sumP_md {p : Int} {F G : Nat → Int} : ∀ (n : Nat), (∀ v, v < n → Md p (F v) (G v)) → Md p (sumP n F) (sumP n G)
  | 0, _ => Md.rfl'
  | n + 1, h => (sumP_md n fun v hv => h v (by omega)).add (h n (by omega))
theorem Md.of_emod {p a b : Int} (h : (a - b) % p = 0) : Md p a b := ⟨(a - b) / p, by have := Int.mul_ediv_add_emod (a - b) p; omega⟩
theorem Md.emod {p a b : Int} (h : Md p a b) : (a - b) % p = 0 := by
  obtain ⟨k, h⟩ := h
  rw [h, show b + p * k - b = p * k by omega, Int.mul_emod_right]
theorem ev_pad {l : List Int} {n : Nat} (h : l.length ≤ n) (x : Int) : ev l x = ev ((List.range n).map fun i => l.getD i 0) x := (ev_range x _ l n h fun _ _ => rfl).symm
theorem ev_at0 (l : List Int) : ev l 0 = l.getD 0 0 := by cases l <;> simp [ev]
theorem sumP_front (F : Nat → Int) : ∀ n, sumP (n + 1) F = F 0 + sumP n fun v => F (v + 1)
  | 0 => by simp [sumP]
  | n + 1 => by
    have h := sumP_front F n
    have e : sumP (n + 1 + 1) F = sumP (n + 1) F + F (n + 1) := rfl
    have e2 : (sumP (n + 1) fun v => F (v + 1)) = (sumP n fun v => F (v + 1)) + F (n + 1) := rfl
    rw [e, h, e2, Int.add_assoc]
theorem sumP_zero : ∀ n, (sumP n fun _ => (0 : Int)) = 0
  | 0 => rfl
  | n + 1 => by unfold sumP; rw [sumP_zero n]; rfl
theorem sumP_add (F G : Nat → Int) : ∀ n, (sumP n fun v => F v + G v) = sumP n F + sumP n G
  | 0 => rfl
  | n + 1 => by
    unfold sumP
    rw [sumP_add F G n, Int.add_assoc, Int.add_assoc, Int.add_left_comm (F n)]
theorem sumP_mul (c : Int) (F : Nat → Int) : ∀ n, (sumP n fun v => c * F v) = c * sumP n F
  | 0 => (Int.mul_zero c).symm
  | n + 1 => by
    unfold sumP
    rw [sumP_mul c F n, Int.mul_add]
theorem sumP_swap (F : Nat → Nat → Int) (m : Nat) : ∀ n, (sumP n fun i => sumP m (F i)) = sumP m fun j => sumP n fun i => F i j
  | 0 => (sumP_zero m).symm
  | n + 1 => by
    have ih := sumP_swap F m n
    show (sumP n fun i => sumP m (F i)) + sumP m (F n) = sumP m fun j => (sumP n fun i => F i j) + F n j
    rw [ih, ← sumP_add]
theorem sumP_delta (F : Nat → Int) (c : Int) (i : Nat) : ∀ n, (sumP n fun j => F j * if j = i then c else 0) = if i < n then F i * c else 0
  | 0 => rfl
  | n + 1 => by
    show (sumP n fun j => F j * if j = i then c else 0) + (F n * if n = i then c else 0) = _
    rw [sumP_delta F c i n]
    by_cases h : n = i
    · subst h
      rw [if_neg (Nat.lt_irrefl n), if_pos rfl, if_pos (Nat.lt_succ_self n), Int.zero_add]
    · rw [if_neg h, Int.mul_zero, Int.add_zero]
      by_cases h2 : i < n
      · rw [if_pos h2, if_pos (Nat.lt_succ_of_lt h2)]
      · rw [if_neg h2, if_neg fun h3 => h2 (Nat.lt_of_le_of_ne (Nat.le_of_lt_succ h3) fun e => h e.symm)]
theorem ev_sum (x : Int) : ∀ (l : List Int) (n : Nat), l.length ≤ n → ev l x = sumP n fun j => l.getD j 0 * x ^ j
  | [], n, _ => by
    have : (sumP n fun j => ([] : List Int).getD j 0 * x ^ j) = sumP n fun _ => 0 := sumP_congr n fun v _ => Int.zero_mul _
    rw [this, sumP_zero]; rfl
  | a :: l, 0, h => absurd h (Nat.not_succ_le_zero _)
  | a :: l, n + 1, h => by
    rw [sumP_front, ev_cons, ev_sum x l n (Nat.le_of_succ_le_succ h), ← sumP_mul]
    congr 1
    · show a = a * (x ^ 0)
      rw [Int.pow_zero, Int.mul_one]
    · refine sumP_congr n fun v _ => ?_
      show x * (l.getD v 0 * x ^ v) = (a :: l).getD (v + 1) 0 * x ^ (v + 1)
      rw [List.getD_cons_succ, Int.pow_succ, Int.mul_left_comm, Int.mul_comm x]
theorem powsum {p : Int} (hp : Pr p) {i j : Nat} (h1 : 1 ≤ i) (hi : i < p.toNat) (hj : j < p.toNat) : Md p (sumP p.toNat fun v => (v : Int) ^ (j + (p.toNat - 1 - i))) (if j = i then -1 else 0) := by
  refine Md.of_emod ?_
  rcases hp with rfl | rfl | rfl
  · exact (by decide +kernel : ∀ i, i < 3 → 1 ≤ i → ∀ j, j < 3 → ((sumP 3 fun v => (v : Int) ^ (j + (3 - 1 - i))) - (if j = i then -1 else 0)) % 3 = 0) i hi h1 j hj
  · exact (by decide +kernel : ∀ i, i < 5 → 1 ≤ i → ∀ j, j < 5 → ((sumP 5 fun v => (v : Int) ^ (j + (5 - 1 - i))) - (if j = i then -1 else 0)) % 5 = 0) i hi h1 j hj
  · exact (by decide +kernel : ∀ i, i < 7 → 1 ≤ i → ∀ j, j < 7 → ((sumP 7 fun v => (v : Int) ^ (j + (7 - 1 - i))) - (if j = i then -1 else 0)) % 7 = 0) i hi h1 j hj
theorem Pr.toN {p : Int} (hp : Pr p) {i : Nat} (h : (i : Int) < p) : i < p.toNat := by
  rcases hp with rfl | rfl | rfl <;> exact Int.ofNat_lt.mp h
theorem Pr.toI {p : Int} (hp : Pr p) {i : Nat} (h : i < p.toNat) : (i : Int) < p := by
  rcases hp with rfl | rfl | rfl <;> exact Int.ofNat_lt.mpr h
theorem Pr.leN {p : Int} (hp : Pr p) {i : Nat} (h : (i : Int) ≤ p) : i ≤ p.toNat := by
  rcases hp with rfl | rfl | rfl <;> exact Int.ofNat_le.mp h
theorem coefI {p : Int} (hp : Pr p) {l : List Int} (hl : (l.length : Int) ≤ p) {i : Nat} (h1 : 1 ≤ i) (hi : (i : Int) < p) : Md p (l.getD i 0) (0 - sumP p.toNat fun v => ev l v * (v : Int) ^ (p.toNat - 1 - i)) := by
  have hi2 := hp.toN hi
  have e : (sumP p.toNat fun v => ev l v * (v : Int) ^ (p.toNat - 1 - i)) = sumP p.toNat fun j => l.getD j 0 * sumP p.toNat fun v => (v : Int) ^ (j + (p.toNat - 1 - i)) := by
    have e1 : (sumP p.toNat fun v => ev l v * (v : Int) ^ (p.toNat - 1 - i)) = sumP p.toNat fun v => sumP p.toNat fun j => l.getD j 0 * (v : Int) ^ (j + (p.toNat - 1 - i)) := by
      refine sumP_congr _ fun v _ => ?_
      rw [ev_sum (v : Int) l p.toNat (hp.leN hl), Int.mul_comm, ← sumP_mul]
      refine sumP_congr _ fun j _ => ?_
      show (v : Int) ^ (p.toNat - 1 - i) * (l.getD j 0 * (v : Int) ^ j) = _
      rw [Int.pow_add, Int.mul_left_comm, Int.mul_comm ((v : Int) ^ (p.toNat - 1 - i))]
    rw [e1, sumP_swap]
    exact sumP_congr _ fun j _ => sumP_mul _ _ _
  have h2 : Md p (sumP p.toNat fun j => l.getD j 0 * sumP p.toNat fun v => (v : Int) ^ (j + (p.toNat - 1 - i))) (sumP p.toNat fun j => l.getD j 0 * if j = i then -1 else 0) :=
    sumP_md _ fun j hj => Md.rfl'.mul (powsum hp h1 hi2 hj)
  rw [sumP_delta, if_pos hi2] at h2
  have h3 := (Md.rfl' (p := p) (a := 0)).sub h2
  rw [show 0 - l.getD i 0 * -1 = l.getD i 0 by rw [Int.mul_neg, Int.mul_one, Int.zero_sub, Int.neg_neg]] at h3
  rw [e]
  exact h3.symm
theorem nm_eq {p : Int} (hp : Pr p) {l m : List Int} (hl : Nm p l) (hm : Nm p m) (hll : (l.length : Int) ≤ p) (hml : (m.length : Int) ≤ p) (h : ∀ v : Nat, (v : Int) < p → Md p (ev l v) (ev m v)) : l = m := by
  refine nm_ext hl hm fun i => ?_
  by_cases hi : (i : Int) < p
  · by_cases h0 : i = 0
    · subst h0
      have := h 0 (by have := hp.pos; simpa using this)
      rw [← ev_at0, ← ev_at0]
      have e := (ev_at0 l) ▸ (ev_at0 m) ▸ this
      rw [ev_at0, ev_at0]
      exact Md.eq (by simpa [ev_at0] using this) (hl.1.getD hp.pos 0) (hm.1.getD hp.pos 0)
    · refine Md.eq ?_ (hl.1.getD hp.pos i) (hm.1.getD hp.pos i)
      refine (coefI hp hll (by omega) hi).trans (Md.trans ?_ (coefI hp hml (by omega) hi).symm)
      refine Md.rfl'.sub (sumP_md _ fun v hv => (h v ?_).mul Md.rfl')
      have := hp.pos
      omega
  · rw [getD_of_le (by omega), getD_of_le (by omega)]
end Mine
end
section
set_option autoImplicit false
set_option linter.unusedVariables false
namespace Mine
theorem nb {v n : Nat} (h : v < n) : (0 : Int) ≤ (v : Int) ∧ (v : Int) < n := ⟨Int.natCast_nonneg _, Int.ofNat_lt.mpr h⟩
theorem Pr.cast {p : Int} (hp : Pr p) : ((p.toNat : Nat) : Int) = p := Int.toNat_of_nonneg (Int.le_of_lt hp.pos)
theorem Pr.bd {p x : Int} (hp : Pr p) (h : 0 ≤ x ∧ x < (p.toNat : Int)) : 0 ≤ x ∧ x < p := by rw [hp.cast] at h; exact h
theorem Pr.bd' {p x : Int} (hp : Pr p) (h : 0 ≤ x ∧ x < p) : 0 ≤ x ∧ x < (p.toNat : Int) := by rw [hp.cast]; exact h
theorem toNat_bd {x : Int} {n : Nat} (h : 0 ≤ x ∧ x < n) : x.toNat < n := (Int.toNat_lt h.1).mpr h.2
theorem toNat_eq {x y : Int} (hx : 0 ≤ x) (hy : 0 ≤ y) (e : x.toNat = y.toNat) : x = y := by rw [← Int.toNat_of_nonneg hx, e, Int.toNat_of_nonneg hy]
theorem perm_of {l : List Int} : ∀ {m : List Int}, l.Nodup → (∀ x ∈ l, x ∈ m) → m.length ≤ l.length → l.Perm m := by
  induction l with
  | nil =>
    intro m _ _ hl
    rw [List.length_eq_zero_iff.mp (Nat.le_zero.mp hl)]
  | cons a l ih =>
    intro m hn hs hl
    have ha : a ∈ m := hs a (.head _)
    obtain ⟨hna, hn2⟩ := List.nodup_cons.mp hn
    have e := List.perm_cons_erase ha
    refine (List.Perm.cons a (ih hn2 (fun x hx => ?_) ?_)).trans e.symm
    · exact (List.mem_erase_of_ne (fun q : x = a => hna (by rw [← q]; exact hx))).mpr (hs x (.tail _ hx))
    · rw [List.length_erase_of_mem ha]
      rw [List.length_cons] at hl
      omega
theorem sum_perm {l m : List Int} (h : l.Perm m) : l.sum = m.sum := by
  induction h with
  | nil => rfl
  | cons x _ ih => rw [List.sum_cons, List.sum_cons, ih]
  | swap x y l => simp only [List.sum_cons]; omega
  | trans _ _ h1 h2 => rw [h1, h2]
theorem sum_zip (f : Int × Nat → Int) : ∀ (l : List Int) (k : Nat), ((l.zipIdx k).map f).sum = sumP l.length fun v => f (l.getD v 0, k + v)
  | [], k => rfl
  | a :: l, k => by
    rw [List.zipIdx_cons, List.map_cons, List.sum_cons, sum_zip f l (k + 1), List.length_cons, sumP_front]
    congr 1
    refine sumP_congr _ fun v _ => ?_
    rw [List.getD_cons_succ, show k + 1 + v = k + (v + 1) by omega]
theorem sum_list (F : Int → Int) : ∀ (l : List Int), (l.map F).sum = sumP l.length fun v => F (l.getD v 0)
  | [] => rfl
  | a :: l => by
    rw [List.map_cons, List.sum_cons, sum_list F l, List.length_cons, sumP_front]; rfl
noncomputable def rangeI (n : Nat) : List Int := (List.range n).map fun i : Nat => (i : Int)
theorem rangeI_len (n : Nat) : (rangeI n).length = n := by simp [rangeI]
theorem rangeI_getD {n v : Nat} (h : v < n) : (rangeI n).getD v 0 = v := by
  unfold rangeI
  rw [List.getD_eq_getElem?_getD, List.getElem?_map, List.getElem?_range h]; rfl
theorem mem_rangeI {n : Nat} {x : Int} (h : 0 ≤ x ∧ x < n) : x ∈ rangeI n := by
  exact List.mem_map.mpr ⟨x.toNat, List.mem_range.mpr (toNat_bd h), Int.toNat_of_nonneg h.1⟩
theorem arr_perm {n : Nat} {row : List Int} (h : Arr n row) : row.Perm (rangeI n) := perm_of h.2.2 (fun x hx => mem_rangeI (h.2.1 x hx)) (by rw [rangeI_len, h.1]; exact Nat.le_refl _)
theorem arr_sum {n : Nat} {row : List Int} (h : Arr n row) (F : Int → Int) : (sumP n fun v => F (row.getD v 0)) = sumP n fun v => F (v : Int) := by
  have e := sum_perm ((arr_perm h).map F)
  rw [sum_list, sum_list, h.1, rangeI_len] at e
  rw [e]
  exact sumP_congr _ fun v hv => by rw [rangeI_getD hv]
theorem arr_mem {n : Nat} {row : List Int} (h : Arr n row) {x : Int} (hx : 0 ≤ x ∧ x < n) : x ∈ row := (arr_perm h).mem_iff.mpr (mem_rangeI hx)
theorem arr_bd {n : Nat} {row : List Int} (h : Arr n row) {v : Nat} (hv : v < n) : 0 ≤ row.getD v 0 ∧ row.getD v 0 < n := by
  have hv2 : v < row.length := by rw [h.1]; exact hv
  rw [List.getD_eq_getElem?_getD, List.getElem?_eq_getElem hv2]
  exact h.2.1 _ (List.getElem_mem hv2)
theorem arr_inj {n : Nat} {row : List Int} (h : Arr n row) {u v : Nat} (hu : u < n) (hv : v < n) (e : row.getD u 0 = row.getD v 0) : u = v := by
  have hu2 : u < row.length := by rw [h.1]; exact hu
  have hv2 : v < row.length := by rw [h.1]; exact hv
  rw [List.getD_eq_getElem?_getD, List.getElem?_eq_getElem hu2, List.getD_eq_getElem?_getD, List.getElem?_eq_getElem hv2] at e
  have e2 : row[u]? = row[v]? := by
    rw [List.getElem?_eq_getElem hu2, List.getElem?_eq_getElem hv2]
    exact congrArg some e
  exact (List.getElem?_inj hu2 h.2.2).mp e2
theorem idx_lt {n : Nat} {row : List Int} (h : Arr n row) {x : Int} (hx : 0 ≤ x ∧ x < n) : row.idxOf x < n := by
  have := List.idxOf_lt_length_of_mem (arr_mem h hx)
  rwa [h.1] at this
theorem row_idx {n : Nat} {row : List Int} (h : Arr n row) {x : Int} (hx : 0 ≤ x ∧ x < n) : row.getD (row.idxOf x) 0 = x := by
  have h1 := List.idxOf_lt_length_of_mem (arr_mem h hx)
  rw [List.getD_eq_getElem?_getD, List.getElem?_eq_getElem h1]
  exact List.getElem_idxOf h1
theorem idx_row {n : Nat} {row : List Int} (h : Arr n row) {v : Nat} (hv : v < n) : row.idxOf (row.getD v 0) = v :=
  arr_inj h (idx_lt h (arr_bd h hv)) hv (row_idx h (arr_bd h hv))
/-- the arrangement backwards -/
noncomputable def invRow (row : List Int) (n : Nat) : List Int := (List.range n).map fun v : Nat => ((row.idxOf (v : Int) : Nat) : Int)
theorem map_range_getD {f : Nat → Int} {n v : Nat} (hv : v < n) : ((List.range n).map f).getD v 0 = f v := by
  rw [List.getD_eq_getElem?_getD, List.getElem?_map, List.getElem?_range hv]; rfl
theorem nodup_map_range {f : Nat → Int} : ∀ n : Nat, (∀ u v, u < n → v < n → f u = f v → u = v) → ((List.range n).map f).Nodup
  | 0, _ => List.Pairwise.nil
  | n + 1, h => by
    rw [List.range_succ, List.map_append]
    refine List.nodup_append.mpr ⟨nodup_map_range n fun u v hu hv => h u v (Nat.lt_succ_of_lt hu) (Nat.lt_succ_of_lt hv), List.nodup_cons.mpr ⟨fun h => (nomatch h), List.Pairwise.nil⟩, ?_⟩
    intro a ha b hb
    obtain ⟨u, hu, rfl⟩ := List.mem_map.mp ha
    have hb2 : b = f n := by simpa using hb
    subst hb2
    have hu2 := List.mem_range.mp hu
    intro e
    exact absurd (h u n (Nat.lt_succ_of_lt hu2) (Nat.lt_succ_self n) e) (Nat.ne_of_lt hu2)
theorem arr_of {f : Nat → Int} {n : Nat} (hb : ∀ v, v < n → 0 ≤ f v ∧ f v < n) (hi : ∀ u v, u < n → v < n → f u = f v → u = v) : Arr n ((List.range n).map f) := by
  refine ⟨by simp, fun x hx => ?_, nodup_map_range n hi⟩
  obtain ⟨v, hv, rfl⟩ := List.mem_map.mp hx
  exact hb v (List.mem_range.mp hv)
theorem inv_arr {n : Nat} {row : List Int} (h : Arr n row) : Arr n (invRow row n) := by
  refine arr_of (fun v hv => ?_) fun u v hu hv e => ?_
  · exact nb (idx_lt h (x := (v : Int)) (nb hv))
  · have h1 := row_idx h (x := (u : Int)) (nb hu)
    have h2 := row_idx h (x := (v : Int)) (nb hv)
    have h3 : row.idxOf (u : Int) = row.idxOf (v : Int) := Int.ofNat_inj.mp e
    rw [h3] at h1
    exact Int.ofNat_inj.mp (h1.symm.trans h2)
/-- one arrangement behind the other -/
noncomputable def compRow (row other : List Int) (n : Nat) : List Int := (List.range n).map fun v => row.getD (other.getD v 0).toNat 0
theorem comp_arr {n : Nat} {row other : List Int} (h : Arr n row) (g : Arr n other) : Arr n (compRow row other n) := by
  refine arr_of (fun v hv => ?_) fun u v hu hv e => ?_
  · have := arr_bd g hv
    exact arr_bd h (toNat_bd this)
  · have h1 := arr_bd g hu
    have h2 := arr_bd g hv
    have := arr_inj h (toNat_bd h1) (toNat_bd h2) e
    exact arr_inj g hu hv (toNat_eq h1.1 h2.1 this)
/-- the numbers of the polynomial, unreduced -/
noncomputable def coefL (s : Nat → Int) (n : Nat) : List Int := s 0 :: (List.range (n - 2)).map fun i => 0 - sumP n fun v => s v * (v : Int) ^ (n - 2 - i)
theorem polyRaw_eq {row : List Int} {p : Int} (hl : row.length = p.toNat) : polyRaw row p = (coefL (fun v => row.getD v 0) p.toNat).map fun x => Int.fmod x p := by
  unfold polyRaw coefL
  rw [List.map_cons, List.map_map]
  congr 1
  refine List.map_congr_left fun i _ => ?_
  show _ = Int.fmod (0 - _) p
  rw [sum_zip, hl]
  congr 2
  refine sumP_congr _ fun v _ => ?_
  simp
theorem lagr {p : Int} (hp : Pr p) {v w : Nat} (hv : v < p.toNat) (hw : w < p.toNat) :
    Md p (0 - (sumP (p.toNat - 2) fun i => (w : Int) ^ (p.toNat - 2 - i) * (v : Int) ^ (i + 1))) ((if w = v then 1 else 0) + (if w = 0 then -1 else 0) + (v : Int) ^ (p.toNat - 1)) := by
  refine Md.of_emod ?_
  rcases hp with rfl | rfl | rfl
  · exact (by decide +kernel : ∀ v : Nat, v < 3 → ∀ w : Nat, w < 3 → (0 - (sumP (3 - 2) fun i => (w : Int) ^ (3 - 2 - i) * (v : Int) ^ (i + 1)) - ((if w = v then 1 else 0) + (if w = 0 then -1 else 0) + (v : Int) ^ (3 - 1))) % 3 = 0) v hv w hw
  · exact (by decide +kernel : ∀ v : Nat, v < 5 → ∀ w : Nat, w < 5 → (0 - (sumP (5 - 2) fun i => (w : Int) ^ (5 - 2 - i) * (v : Int) ^ (i + 1)) - ((if w = v then 1 else 0) + (if w = 0 then -1 else 0) + (v : Int) ^ (5 - 1))) % 5 = 0) v hv w hw
  · exact (by decide +kernel : ∀ v : Nat, v < 7 → ∀ w : Nat, w < 7 → (0 - (sumP (7 - 2) fun i => (w : Int) ^ (7 - 2 - i) * (v : Int) ^ (i + 1)) - ((if w = v then 1 else 0) + (if w = 0 then -1 else 0) + (v : Int) ^ (7 - 1))) % 7 = 0) v hv w hw
theorem ev_mapr (f : Nat → Int) (x : Int) (n : Nat) : ev ((List.range n).map f) x = sumP n fun i => f i * x ^ i := by
  rw [ev_sum x _ n (by rw [List.length_map, List.length_range]; exact Nat.le_refl n)]
  refine sumP_congr n fun i hi => ?_
  rw [List.getD_eq_getElem?_getD, List.getElem?_map, List.getElem?_range hi]; rfl
theorem coefL_ev {p : Int} (hp : Pr p) {s : Nat → Int} (hs : Md p (sumP p.toNat s) 0) {v : Nat} (hv : (v : Int) < p) : Md p (ev (coefL s p.toNat) v) (s v) := by
  have hv2 := hp.toN hv
  have e : ev (coefL s p.toNat) v = s 0 + sumP p.toNat fun w => s w * (0 - (sumP (p.toNat - 2) fun i => (w : Int) ^ (p.toNat - 2 - i) * (v : Int) ^ (i + 1))) := by
    unfold coefL
    rw [ev_cons, ev_mapr, ← sumP_mul]
    congr 1
    have e1 : (sumP (p.toNat - 2) fun i => (v : Int) * ((0 - sumP p.toNat fun w => s w * (w : Int) ^ (p.toNat - 2 - i)) * (v : Int) ^ i)) = sumP (p.toNat - 2) fun i => sumP p.toNat fun w => s w * ((-1) * ((w : Int) ^ (p.toNat - 2 - i) * (v : Int) ^ (i + 1))) := by
      refine sumP_congr _ fun i _ => ?_
      rw [show (v : Int) * ((0 - sumP p.toNat fun w => s w * (w : Int) ^ (p.toNat - 2 - i)) * (v : Int) ^ i) = (-((v : Int) ^ (i + 1))) * sumP p.toNat fun w => s w * (w : Int) ^ (p.toNat - 2 - i) by rw [Int.pow_succ]; grind, ← sumP_mul]
      refine sumP_congr _ fun w _ => ?_
      show -((v : Int) ^ (i + 1)) * (s w * (w : Int) ^ (p.toNat - 2 - i)) = _
      generalize (v : Int) ^ (i + 1) = a
      generalize (w : Int) ^ (p.toNat - 2 - i) = b
      grind
    rw [e1, sumP_swap]
    refine sumP_congr _ fun w _ => ?_
    show (sumP (p.toNat - 2) fun i => s w * ((-1) * ((w : Int) ^ (p.toNat - 2 - i) * (v : Int) ^ (i + 1)))) = _
    rw [sumP_mul, sumP_mul, Int.neg_one_mul, Int.zero_sub]
  have h2 : Md p (sumP p.toNat fun w => s w * (0 - (sumP (p.toNat - 2) fun i => (w : Int) ^ (p.toNat - 2 - i) * (v : Int) ^ (i + 1)))) (sumP p.toNat fun w => s w * ((if w = v then 1 else 0) + (if w = 0 then -1 else 0) + (v : Int) ^ (p.toNat - 1))) :=
    sumP_md _ fun w hw => Md.rfl'.mul (lagr hp hv2 hw)
  have e3 : (sumP p.toNat fun w => s w * ((if w = v then 1 else 0) + (if w = 0 then -1 else 0) + (v : Int) ^ (p.toNat - 1))) = s v + s 0 * -1 + (v : Int) ^ (p.toNat - 1) * sumP p.toNat s := by
    have e4 : (sumP p.toNat fun w => s w * ((if w = v then 1 else 0) + (if w = 0 then -1 else 0) + (v : Int) ^ (p.toNat - 1))) = sumP p.toNat fun w => (s w * (if w = v then 1 else 0) + s w * (if w = 0 then -1 else 0)) + (v : Int) ^ (p.toNat - 1) * s w :=
      sumP_congr _ fun w _ => by rw [Int.mul_add, Int.mul_add, Int.mul_comm (s w) ((v : Int) ^ (p.toNat - 1))]
    rw [e4, sumP_add, sumP_add, sumP_delta, sumP_delta, sumP_mul, if_pos hv2, if_pos (Nat.lt_of_le_of_lt (Nat.zero_le v) hv2), Int.mul_one]
  rw [e3] at h2
  have h5 := ((Md.rfl' (p := p) (a := s 0)).add h2).trans ((Md.rfl' (p := p) (a := s 0)).add ((Md.rfl' (p := p) (a := s v + s 0 * -1)).add ((Md.rfl' (p := p) (a := (v : Int) ^ (p.toNat - 1))).mul hs)))
  rw [e]
  rwa [show s 0 + (s v + s 0 * -1 + (v : Int) ^ (p.toNat - 1) * 0) = s v by rw [Int.mul_zero, Int.add_zero, Int.mul_neg, Int.mul_one, Int.add_comm (s v), ← Int.add_assoc, Int.add_right_neg, Int.zero_add]] at h5
theorem sum_id {p : Int} (hp : Pr p) : Md p (sumP p.toNat fun v => (v : Int)) 0 := by
  rcases hp with rfl | rfl | rfl
  · exact ⟨1, by decide⟩
  · exact ⟨2, by decide⟩
  · exact ⟨3, by decide⟩
theorem arr_sum0 {p : Int} (hp : Pr p) {row : List Int} (h : Arr p.toNat row) : Md p (sumP p.toNat fun v => row.getD v 0) 0 := by
  rw [arr_sum h fun x => x]
  exact sum_id hp
/-- the polynomial has the arrangement's values -/
theorem polyF_ev {p : Int} (hp : Pr p) {row : List Int} (h : Arr p.toNat row) {v : Nat} (hv : (v : Int) < p) : Md p (ev (polyF row p) v) (row.getD v 0) := by
  unfold polyF
  rw [ev_trimF, polyRaw_eq h.1]
  exact ((cp_fmod p _).at v).trans (coefL_ev hp (arr_sum0 hp h) hv)
theorem polyF_ne {p : Int} {row : List Int} (hp : Pr p) (h : Arr p.toNat row) : polyF row p ≠ [] := by
  intro e
  have hp1 : ((1 : Nat) : Int) < p := Int.lt_of_lt_of_le (by decide) hp.two
  have h0 := polyF_ev hp h (v := 0) hp.pos
  have h1 := polyF_ev hp h (v := 1) hp1
  rw [e] at h0 h1
  have n0 := hp.toN (i := 0) hp.pos
  have n1 := hp.toN hp1
  exact absurd (arr_inj h (u := 0) (v := 1) n0 n1 ((h0.symm.trans h1).eq (hp.bd (arr_bd h n0)) (hp.bd (arr_bd h n1)))) (by decide)
theorem matF_md {p : Int} (hp : 0 < p) (x : Int) (a : List Int) : Md p (matF a x p) (ev a x) ∧ 0 ≤ matF a x p ∧ matF a x p < p := by
  unfold matF
  rw [List.foldl_reverse]
  induction a with
  | nil => exact ⟨Md.rfl', Int.le_refl _, hp⟩
  | cons a l ih =>
    rw [List.foldr_cons, ev_cons]
    refine ⟨(fmod_md _ p).trans ?_, fmod_bd _ hp⟩
    have := (ih.1.mul (Md.rfl' (p := p) (a := x))).add (Md.rfl' (p := p) (a := a))
    rwa [Int.mul_comm (ev l x) x, Int.add_comm (x * ev l x) a] at this
theorem mat_poly {p : Int} (hp : Pr p) {row : List Int} (h : Arr p.toNat row) {v : Nat} (hv : (v : Int) < p) : matF (polyF row p) v p = row.getD v 0 := by
  have hb := arr_bd h (v := v) (hp.toN hv)
  obtain ⟨h1, h2⟩ := matF_md hp.pos v (polyF row p)
  exact (h1.trans (polyF_ev hp h hv)).eq h2 (hp.bd hb)
end Mine
end
section
set_option autoImplicit false
set_option linter.unusedVariables false
namespace Mine
theorem divF_ev {p : Int} (hp : Pr p) {v : Nat} (hv : (v : Int) < p) : Md p (ev (divF p) v) 0 := by
  have hv2 := hp.toN hv
  refine Md.of_emod ?_
  rcases hp with rfl | rfl | rfl
  · exact (by decide +kernel : ∀ v : Nat, v < 3 → (ev (divF 3) v - 0) % 3 = 0) v hv2
  · exact (by decide +kernel : ∀ v : Nat, v < 5 → (ev (divF 5) v - 0) % 5 = 0) v hv2
  · exact (by decide +kernel : ∀ v : Nat, v < 7 → (ev (divF 7) v - 0) % 7 = 0) v hv2
theorem rest_ev {p : Int} (hp : Pr p) {a : List Int} (ha : Sm p a) {v : Nat} (hv : (v : Int) < p) : Md p (ev (restF a (divF p) p) v) (ev a v) := by
  obtain ⟨q, h⟩ := cp_div hp ha (divF_nm hp) (divF_pos hp)
  refine Md.symm ((h.at v).trans ?_)
  have := ((Md.rfl' (p := p) (a := ev q v)).mul (divF_ev hp hv)).add (Md.rfl' (p := p) (a := ev (restF a (divF p) p) v))
  rwa [Int.mul_zero, Int.zero_add] at this
theorem restD_len {p : Int} (hp : Pr p) {a : List Int} : ((restF a (divF p) p).length : Int) ≤ p := by
  have h1 := restF_len (a := a) (b := divF p) (p := p)
  have h2 := divF_len hp
  have h3 := divF_pos hp
  omega
theorem mulr_ev {p : Int} (hp : Pr p) (a b : List Int) {v : Nat} (hv : (v : Int) < p) : Md p (ev (restF (mulF a b p) (divF p) p) v) (ev a v * ev b v) :=
  (rest_ev hp (mulF_nm hp.pos).1 hv).trans ((cp_mulF a b p).at v)
theorem powS_ev {p : Int} (hp : Pr p) (f : List Int) {v : Nat} (hv : (v : Int) < p) : ∀ t, Md p (ev (powS f p t) v) (ev f v ^ t)
  | 0 => by simp [powS, ev]; exact Md.rfl'
  | t + 1 => by
    rw [Int.pow_succ]
    exact (mulr_ev hp _ _ hv).trans ((powS_ev hp f hv t).mul Md.rfl')
theorem powS_nm {p : Int} (hp : Pr p) (f : List Int) (t : Nat) : Nm p (powS f p t) := lawI_nm hp (i := t) (f := f) (gs := toldS f p t) ⟨rfl, rfl⟩
theorem powS_len {p : Int} (hp : Pr p) (f : List Int) : ∀ t, ((powS f p t).length : Int) ≤ p
  | 0 => by have := hp.two; show ((1 : Nat) : Int) ≤ p; omega
  | t + 1 => restD_len hp
theorem Pr.one_le {p : Int} (hp : Pr p) : 1 ≤ p.toNat - 1 := by rcases hp with rfl | rfl | rfl <;> decide
theorem Pr.pred_lt {p : Int} (hp : Pr p) : p.toNat - 1 < p.toNat := by rcases hp with rfl | rfl | rfl <;> decide
theorem Pr.predI {p : Int} (hp : Pr p) : ((p.toNat - 1 : Nat) : Int) = p - 1 := by rcases hp with rfl | rfl | rfl <;> rfl
theorem Pr.predI' {p : Int} (hp : Pr p) : (((p - 1).toNat : Nat) : Int) = p - 1 := by rcases hp with rfl | rfl | rfl <;> rfl
theorem Pr.lastN {p : Int} (hp : Pr p) {n : Nat} (h : (n : Int) = p) : n - 1 = p.toNat - 1 := by rw [← h]; rfl
theorem Pr.short {p : Int} (hp : Pr p) {n : Nat} (h : (n : Int) ≤ p) (e : ¬ (n : Int) = p) : n ≤ p.toNat - 1 := by
  have h1 := hp.toN (Int.lt_iff_le_and_ne.mpr ⟨h, e⟩)
  exact Nat.le_pred_of_lt h1
theorem top_md {p : Int} (hp : Pr p) {l : List Int} (hl : (l.length : Int) ≤ p) : Md p (l.getD (p.toNat - 1) 0) (0 - sumP p.toNat fun v => ev l v) := by
  have := coefI hp hl (i := p.toNat - 1) hp.one_le (hp.toI hp.pred_lt)
  rwa [show (fun v : Nat => ev l v * (v : Int) ^ (p.toNat - 1 - (p.toNat - 1))) = fun v : Nat => ev l v from by funext v; rw [Nat.sub_self, Int.pow_zero, Int.mul_one]] at this
theorem powS_top {p : Int} (hp : Pr p) {row : List Int} (h : Arr p.toNat row) (t : Nat) : Md p ((powS (polyF row p) p t).getD (p.toNat - 1) 0) (0 - sumP p.toNat fun v => (v : Int) ^ t) := by
  refine (top_md hp (powS_len hp _ t)).trans (Md.rfl'.sub ?_)
  have e := arr_sum h fun x => x ^ t
  rw [← e]
  exact sumP_md _ fun v hv => (powS_ev hp _ (hp.toI hv) t).trans ((polyF_ev hp h (hp.toI hv)).pow t)
theorem sum_pow {p : Int} (hp : Pr p) {t : Nat} (h1 : 1 ≤ t) (h2 : (t : Int) < p) : Md p (0 - sumP p.toNat fun v => (v : Int) ^ t) (if (t : Int) = p - 1 then 1 else 0) := by
  have h3 := hp.toN h2
  refine Md.of_emod ?_
  rcases hp with rfl | rfl | rfl
  · exact (by decide +kernel : ∀ t : Nat, t < 3 → 1 ≤ t → ((0 - sumP 3 fun v => (v : Int) ^ t) - (if (t : Int) = 3 - 1 then 1 else 0)) % 3 = 0) t h3 h1
  · exact (by decide +kernel : ∀ t : Nat, t < 5 → 1 ≤ t → ((0 - sumP 5 fun v => (v : Int) ^ t) - (if (t : Int) = 5 - 1 then 1 else 0)) % 5 = 0) t h3 h1
  · exact (by decide +kernel : ∀ t : Nat, t < 7 → 1 ≤ t → ((0 - sumP 7 fun v => (v : Int) ^ t) - (if (t : Int) = 7 - 1 then 1 else 0)) % 7 = 0) t h3 h1
theorem powS_coef {p : Int} (hp : Pr p) {row : List Int} (h : Arr p.toNat row) {t : Nat} (h1 : 1 ≤ t) (h2 : (t : Int) < p) : (powS (polyF row p) p t).getD (p.toNat - 1) 0 = if (t : Int) = p - 1 then 1 else 0 := by
  have hp2 := hp.two
  refine ((powS_top hp h t).trans (sum_pow hp h1 h2)).eq ((powS_nm hp _ t).1.getD hp.pos _) ?_
  split <;> omega
/-- the power t leaves the power p - 1 at t = p - 1 alone -/
theorem powS_len_iff {p : Int} (hp : Pr p) {row : List Int} (h : Arr p.toNat row) {t : Nat} (h1 : 1 ≤ t) (h2 : (t : Int) < p) : ((powS (polyF row p) p t).length : Int) = p ↔ (t : Int) = p - 1 := by
  have hp2 := hp.two
  have hc := powS_coef hp h h1 h2
  have hl := powS_len hp (polyF row p) t
  have hn := powS_nm hp (polyF row p) t
  constructor
  · intro e
    rcases hn.2 with q | q
    · rw [q] at e; exact absurd e.symm (Int.ne_of_gt hp.pos)
    · rw [hp.lastN e, hc] at q
      exact Decidable.byContradiction fun ne => q (if_neg ne)
  · intro e
    rw [if_pos e] at hc
    refine Decidable.byContradiction fun ne => ?_
    rw [getD_of_le (hp.short hl ne)] at hc
    exact absurd hc (by decide)
theorem Pr.pre' {p : Int} (hp : Pr p) : (p - 1).toNat = p.toNat - 1 := by rcases hp with rfl | rfl | rfl <;> rfl
theorem powS_last {p : Int} (hp : Pr p) {row : List Int} (h : Arr p.toNat row) : (powS (polyF row p) p (p - 1).toNat).getD (p.toNat - 1) 0 = 1 := by
  rw [powS_coef hp h (by rw [hp.pre']; exact hp.one_le) (by rw [hp.predI']; exact Int.sub_one_lt_iff.mpr (Int.le_refl p)), if_pos hp.predI']
theorem powLoop_nm {p : Int} (hp : Pr p) : ∀ (fuel n : Nat) (x y : List Int), Nm p x ∧ (x.length : Int) ≤ p → Nm p (powLoop (divF p) p fuel n x y) ∧ ((powLoop (divF p) p fuel n x y).length : Int) ≤ p
  | 0, _, _, _, h => h
  | fuel + 1, n, x, y, h => by
    unfold powLoop
    split
    · exact h
    · refine powLoop_nm hp fuel _ _ _ ?_
      split
      · exact ⟨restF_nm hp.pos (mulF_nm hp.pos).1, restD_len hp⟩
      · exact h
theorem powLoop_ev {p : Int} (hp : Pr p) {v : Nat} (hv : (v : Int) < p) : ∀ (fuel n : Nat) (x y : List Int), n ≤ fuel → Md p (ev (powLoop (divF p) p fuel n x y) v) (ev x v * ev y v ^ n)
  | 0, n, x, y, h => by
    rw [Nat.le_zero.mp h]; simp [powLoop]; exact Md.rfl'
  | fuel + 1, n, x, y, h => by
    unfold powLoop
    split
    · rename_i e
      rw [e]; simp; exact Md.rfl'
    · rename_i hn
      refine (powLoop_ev hp hv fuel _ _ _ (by omega)).trans ?_
      have hx : Md p (ev (if n % 2 = 1 then restF (mulF x y p) (divF p) p else x) v) (ev x v * ev y v ^ (n % 2)) := by
        split
        · rename_i e
          rw [e, Int.pow_one]; exact mulr_ev hp x y hv
        · rename_i e
          rw [show n % 2 = 0 by omega]; simp; exact Md.rfl'
      have hy : Md p (ev (if n / 2 = 0 then y else restF (mulF y y p) (divF p) p) v ^ (n / 2)) (ev y v ^ (2 * (n / 2))) := by
        split
        · rename_i e
          rw [e]; exact Md.rfl'
        · have h2 := (mulr_ev hp y y hv).pow (n / 2)
          rwa [show ev y v * ev y v = ev y v ^ 2 by rw [Int.pow_succ, Int.pow_one], ← Int.pow_mul] at h2
      have := hx.mul hy
      rwa [Int.mul_assoc, ← Int.pow_add, show n % 2 + 2 * (n / 2) = n by omega] at this
theorem powF_eq {p : Int} (hp : Pr p) {f : List Int} (hf : Sm p f) (n : Nat) : powF f n (divF p) p = powS f p n := by
  have h1 : Sm p [1] := (one_nm hp).1
  obtain ⟨a, b⟩ := powLoop_nm hp n n (restF [1] (divF p) p) (restF f (divF p) p) ⟨restF_nm hp.pos h1, restD_len hp⟩
  refine nm_eq hp a (powS_nm hp f n) b (powS_len hp f n) fun v hv => ?_
  refine (powLoop_ev hp hv n n _ _ (Nat.le_refl _)).trans (Md.trans ?_ (powS_ev hp f hv n).symm)
  have := (rest_ev hp h1 hv).mul ((rest_ev hp hf hv).pow n)
  refine this.trans ?_
  simp [ev]; exact Md.rfl'
theorem topF_eq {p : Int} (hp : Pr p) (g : List Int) : topF g p = (risenF g p).getD (p.toNat - 1) 0 := by
  have hp2 := hp.two
  have h : ((risenF g p).length : Int) ≤ p := restD_len hp
  unfold topF
  split
  · rw [hp.pre']
  · rename_i ne
    rw [getD_of_le (hp.short h ne)]
theorem topF_bd {p : Int} (hp : Pr p) (g : List Int) : 0 ≤ topF g p ∧ topF g p < p := by
  rw [topF_eq hp]
  exact (restF_nm hp.pos (mulF_nm hp.pos).1 : Nm p (risenF g p)).1.getD hp.pos _
theorem topF_md {p : Int} (hp : Pr p) (g : List Int) : Md p (topF g p) (0 - sumP p.toNat fun v => (v : Int) * ev g v) := by
  rw [topF_eq hp]
  refine (top_md hp (restD_len hp)).trans (Md.rfl'.sub (sumP_md _ fun v hv => ?_))
  refine (mulr_ev hp [0, 1] g (hp.toI hv)).trans ?_
  simp [ev]; exact Md.rfl'
theorem Pr.pre {p : Int} (hp : Pr p) : (p - 1).toNat = p.toNat - 1 := by rcases hp with rfl | rfl | rfl <;> rfl
theorem Pr.pre2 {p : Int} (hp : Pr p) (t : Nat) : (p - 1 - (1 + (t : Int))).toNat = p.toNat - 1 - (t + 1) := by
  have := hp.two
  omega
theorem toldN {n i t : Nat} (hi : i < n) (h : t + 1 ≤ n) (q : ¬ i = n - (t + 1)) : n - t ≤ i ↔ n - (t + 1) ≤ i := by omega
theorem toldM {n i t : Nat} (h : t + 1 ≤ n) (q : i = n - (t + 1)) : n - i = t + 1 ∧ n - (t + 1) ≤ i ∧ n - (t + 1) < n := by omega
theorem toldS_getD {p : Int} (hp : Pr p) (f : List Int) (i : Nat) (hi : i < p.toNat - 1) : ∀ t, t ≤ p.toNat - 1 → (toldS f p t).getD i 0 = if p.toNat - 1 - t ≤ i then topF (powS f p (p.toNat - 1 - i)) p else 0
  | 0, _ => by
    rw [Nat.sub_zero, if_neg (Nat.not_le_of_lt hi)]
    have e : toldS f p 0 = (List.replicate (p - 1).toNat [0]).flatten := rfl
    rw [e, show (List.replicate (p - 1).toNat [(0 : Int)]).flatten = List.replicate (p - 1).toNat 0 by simp, List.getD_eq_getElem?_getD, List.getElem?_replicate]
    split <;> rfl
  | t + 1, h => by
    have ih := toldS_getD hp f i hi t (Nat.le_of_succ_le h)
    have hl := toldS_len (f := f) (p := p) t
    rw [hp.pre] at hl
    have e : toldS f p (t + 1) = (toldS f p t).set (p - 1 - (1 + (t : Int))).toNat (topF (powS f p (t + 1)) p) := rfl
    generalize hn : p.toNat - 1 = n at hl ih h hi ⊢
    rw [e, hp.pre2, hn, getD_set (by rw [hl]; exact (toldM h rfl).2.2)]
    by_cases q : i = n - (t + 1)
    · obtain ⟨q1, q2, _⟩ := toldM h q
      rw [if_pos q, if_pos q2, q1]
    · rw [if_neg q, ih]
      by_cases q2 : n - t ≤ i
      · rw [if_pos q2, if_pos ((toldN hi h q).mp q2)]
      · rw [if_neg q2, if_neg fun q3 => q2 ((toldN hi h q).mpr q3)]
theorem ext_getD {l m : List Int} (e : l.length = m.length) (h : ∀ i, i < l.length → l.getD i 0 = m.getD i 0) : l = m := by
  refine List.ext_getElem e fun i h1 h2 => ?_
  have := h i h1
  rw [List.getD_eq_getElem?_getD, List.getD_eq_getElem?_getD, List.getElem?_eq_getElem h1, List.getElem?_eq_getElem h2] at this
  simpa using this
theorem inv_getD {row : List Int} {n v : Nat} (hv : v < n) : (invRow row n).getD v 0 = (row.idxOf (v : Int) : Nat) := map_range_getD hv
theorem told_md {p : Int} (hp : Pr p) {row : List Int} (h : Arr p.toNat row) (t : Nat) : Md p (topF (powS (polyF row p) p t) p) (0 - sumP p.toNat fun w => (invRow row p.toNat).getD w 0 * (w : Int) ^ t) := by
  refine (topF_md hp _).trans (Md.rfl'.sub ?_)
  have e := arr_sum h fun x => ((row.idxOf x : Nat) : Int) * x ^ t
  have e2 : (sumP p.toNat fun w => (invRow row p.toNat).getD w 0 * (w : Int) ^ t) = sumP p.toNat fun w => ((row.idxOf (w : Int) : Nat) : Int) * (w : Int) ^ t := sumP_congr _ fun w hw => by rw [inv_getD hw]
  rw [e2, ← e]
  refine sumP_md _ fun v hv => ?_
  rw [idx_row h hv]
  exact Md.rfl'.mul ((powS_ev hp _ (hp.toI hv) t).trans ((polyF_ev hp h (hp.toI hv)).pow t))
theorem fermat {p : Int} (hp : Pr p) {w : Nat} (hw : w < p.toNat) : Md p ((w : Int) ^ (p.toNat - 1)) (1 + if w = 0 then -1 else 0) := by
  refine Md.of_emod ?_
  rcases hp with rfl | rfl | rfl
  · exact (by decide +kernel : ∀ w : Nat, w < 3 → ((w : Int) ^ (3 - 1) - (1 + if w = 0 then -1 else 0)) % 3 = 0) w hw
  · exact (by decide +kernel : ∀ w : Nat, w < 5 → ((w : Int) ^ (5 - 1) - (1 + if w = 0 then -1 else 0)) % 5 = 0) w hw
  · exact (by decide +kernel : ∀ w : Nat, w < 7 → ((w : Int) ^ (7 - 1) - (1 + if w = 0 then -1 else 0)) % 7 = 0) w hw
theorem sum_last {p : Int} (hp : Pr p) {s : Nat → Int} (hs : Md p (sumP p.toNat s) 0) : Md p (0 - sumP p.toNat fun w => s w * (w : Int) ^ (p.toNat - 1)) (s 0) := by
  have h1 : Md p (sumP p.toNat fun w => s w * (w : Int) ^ (p.toNat - 1)) (sumP p.toNat fun w => s w + s w * if w = 0 then -1 else 0) :=
    sumP_md _ fun w hw => by
      have := (Md.rfl' (p := p) (a := s w)).mul (fermat hp hw)
      rwa [Int.mul_add, Int.mul_one] at this
  rw [sumP_add, sumP_delta, if_pos (hp.toN (i := 0) hp.pos)] at h1
  have h2 := (Md.rfl' (p := p) (a := 0)).sub (h1.trans (hs.add Md.rfl'))
  rwa [Int.zero_add, Int.mul_neg, Int.mul_one, Int.sub_neg, Int.zero_add] at h2
theorem Pr.len {p : Int} (hp : Pr p) : 1 + (p.toNat - 2) = p.toNat - 1 := by rcases hp with rfl | rfl | rfl <;> rfl
theorem toldS_eq {p : Int} (hp : Pr p) {row : List Int} (h : Arr p.toNat row) : toldS (polyF row p) p (p - 1).toNat = polyRaw (invRow row p.toNat) p := by
  have hi := inv_arr h
  have hlen : (polyRaw (invRow row p.toNat) p).length = p.toNat - 1 := by
    unfold polyRaw
    rw [List.length_cons, List.length_map, List.length_range, Nat.add_comm]
    exact hp.len
  rw [hp.pre]
  refine ext_getD (by rw [toldS_len, hlen, hp.pre]) fun i hi2 => ?_
  rw [toldS_len, hp.pre] at hi2
  have hb := topF_bd hp (powS (polyF row p) p (p.toNat - 1 - i))
  rw [toldS_getD hp _ i hi2 _ (Nat.le_refl _), if_pos (by rw [Nat.sub_self]; exact Nat.zero_le _)]
  have hm := told_md hp h (p.toNat - 1 - i)
  rw [polyRaw_eq hi.1]
  unfold coefL
  rw [List.map_cons, List.map_map]
  cases i with
  | zero =>
    rw [List.getD_cons_zero]
    refine (hm.trans ((sum_last hp (arr_sum0 hp hi)).trans (fmod_md _ p).symm)).eq hb (fmod_bd _ hp.pos)
  | succ i =>
    rw [List.getD_cons_succ, map_range_getD (by have := hp.len; omega)]
    refine Md.eq (hm.trans (Md.trans ?_ (fmod_md _ p).symm)) hb (fmod_bd _ hp.pos)
    rw [show p.toNat - 1 - (i + 1) = p.toNat - 2 - i by omega]
    exact Md.rfl'
theorem told_eq {p : Int} (hp : Pr p) {row : List Int} (h : Arr p.toNat row) : trimF (toldS (polyF row p) p (p - 1).toNat) = polyF (invRow row p.toNat) p := by
  rw [toldS_eq hp h]; rfl
theorem put_ev {p : Int} (hp : Pr p) (g : List Int) {v : Nat} (hv : (v : Int) < p) (f : List Int) : Md p (ev (putF f g (divF p) p) v) (ev f (ev g v)) := by
  unfold putF
  rw [List.foldl_reverse]
  induction f with
  | nil => exact Md.rfl'
  | cons c l ih =>
    rw [List.foldr_cons, ev_cons]
    refine ((cp_addF _ _ p).at v).trans ?_
    have h1 := (mulr_ev hp (l.foldr (fun x y => putStep g (divF p) p y x) []) g hv).trans (ih.mul Md.rfl')
    have h2 : Md p (ev (scaleF [1] c p) v) c := ((cp_scaleF [1] c p).at v).trans (by simp [ev]; exact Md.rfl')
    have := h1.add h2
    rwa [Int.add_comm (ev l (ev g v) * ev g v) c, Int.mul_comm (ev l (ev g v))] at this
theorem put_nm {p : Int} (hp : Pr p) (f g : List Int) : Nm p (putF f g (divF p) p) ∧ ((putF f g (divF p) p).length : Int) ≤ p := by
  unfold putF
  rw [List.foldl_reverse]
  have hp2 := hp.two
  cases f with
  | nil => exact ⟨⟨Sm.nil, .inl rfl⟩, by simp; omega⟩
  | cons c l =>
    rw [List.foldr_cons]
    refine ⟨addF_nm hp.pos, ?_⟩
    have h1 := addF_len (a := restF (mulF (l.foldr (fun x y => putStep g (divF p) p y x) []) g p) (divF p) p) (b := scaleF [1] c p) (p := p)
    have h2 := restD_len hp (a := mulF (l.foldr (fun x y => putStep g (divF p) p y x) []) g p)
    have h3 := scaleF_len (a := [1]) (k := c) (p := p)
    simp only [List.length_cons, List.length_nil] at h3
    show ((addF _ _ _).length : Int) ≤ p
    omega
theorem x_nm {p : Int} (hp : Pr p) : Nm p [0, 1] := ⟨x_sm hp, .inr (by decide)⟩
theorem put_x {p : Int} (hp : Pr p) {f g : List Int} (h : ∀ v : Nat, (v : Int) < p → Md p (ev f (ev g v)) v) : putF f g (divF p) p = [0, 1] := by
  obtain ⟨a, b⟩ := put_nm hp f g
  have hp2 := hp.two
  refine nm_eq hp a (x_nm hp) b (by simp; omega) fun v hv => ?_
  refine (put_ev hp g hv f).trans ((h v hv).trans ?_)
  simp [ev]; exact Md.rfl'
theorem put_f_told {p : Int} (hp : Pr p) {row : List Int} (h : Arr p.toNat row) : putF (polyF row p) (polyF (invRow row p.toNat) p) (divF p) p = [0, 1] := by
  refine put_x hp fun v hv => ?_
  have hv2 := hp.toN hv
  have h1 := polyF_ev hp (inv_arr h) hv
  rw [inv_getD hv2] at h1
  have hb := idx_lt h (x := (v : Int)) (nb hv2)
  have h2 := polyF_ev hp h (v := row.idxOf (v : Int)) (hp.toI hb)
  rw [row_idx h (nb hv2)] at h2
  exact (ev_md h1 _).trans h2
theorem put_told_f {p : Int} (hp : Pr p) {row : List Int} (h : Arr p.toNat row) : putF (polyF (invRow row p.toNat) p) (polyF row p) (divF p) p = [0, 1] := by
  refine put_x hp fun v hv => ?_
  have hv2 := hp.toN hv
  have h1 := polyF_ev hp h hv
  have hb := arr_bd h hv2
  obtain ⟨u, hu⟩ := Int.eq_ofNat_of_zero_le hb.1
  rw [hu] at hb
  have hu2 : u < p.toNat := Int.ofNat_lt.mp hb.2
  have h2 := polyF_ev hp (inv_arr h) (v := u) (hp.toI hu2)
  rw [inv_getD hu2, ← hu, idx_row h hv2] at h2
  exact (ev_md h1 _).trans h2
theorem put_f_h {p : Int} (hp : Pr p) {row other : List Int} (h : Arr p.toNat row) (g : Arr p.toNat other) : putF (polyF row p) (polyF other p) (divF p) p = polyF (compRow row other p.toNat) p := by
  obtain ⟨a, b⟩ := put_nm hp (polyF row p) (polyF other p)
  have hp2 := hp.two
  refine nm_eq hp a (polyF_nm hp) b (by have := polyF_len hp (row := compRow row other p.toNat); omega) fun v hv => ?_
  refine (put_ev hp _ hv _).trans (Md.trans ?_ (polyF_ev hp (comp_arr h g) hv).symm)
  have hv2 := hp.toN hv
  have h1 := polyF_ev hp g hv
  have hb := arr_bd g hv2
  obtain ⟨u, hu⟩ := Int.eq_ofNat_of_zero_le hb.1
  rw [hu] at hb
  have hu2 : u < p.toNat := Int.ofNat_lt.mp hb.2
  have e : (compRow row other p.toNat).getD v 0 = row.getD u 0 := by
    unfold compRow
    rw [map_range_getD hv2, hu]; rfl
  rw [e]
  rw [hu] at h1
  exact (ev_md h1 _).trans (polyF_ev hp h (hp.toI hu2))
end Mine
end
section
set_option autoImplicit false
set_option linter.unusedVariables false
namespace Mine
theorem ev_zero_id : ∀ l : List Int, (∀ x, ev l x = 0) → ∀ i, l.getD i 0 = 0
  | [], _, i => rfl
  | a :: t, h, i => by
    have h0 : a = 0 := by have := h 0; rw [ev_cons, Int.zero_mul, Int.add_zero] at this; exact this
    have h1 : ∀ x, x ≠ 0 → ev t x = 0 := fun x hx => by
      have := h x
      rw [ev_cons, h0, Int.zero_add] at this
      exact (Int.mul_eq_zero.mp this).resolve_left hx
    have h2 : ev t 0 = 0 := by
      obtain ⟨x, hx, hb1, hb2⟩ : ∃ x : Int, 0 < x ∧ ev t 0 < x ∧ -x < ev t 0 := by
        rcases Int.le_total 0 (ev t 0) with q | q
        · exact ⟨ev t 0 + 1, by omega, by omega, by omega⟩
        · exact ⟨1 - ev t 0, by omega, by omega, by omega⟩
      obtain ⟨k, hk⟩ := ev_md (p := x) (x := 0) (y := x) ⟨-1, by omega⟩ t
      rw [h1 x (by omega), Int.zero_add] at hk
      rcases Int.lt_trichotomy k 0 with q | q | q
      · have : x * k ≤ x * (-1) := Int.mul_le_mul_of_nonneg_left (by omega) (by omega)
        omega
      · rw [hk, q, Int.mul_zero]
      · have : x * 1 ≤ x * k := Int.mul_le_mul_of_nonneg_left (by omega) (by omega)
        omega
    have ih := ev_zero_id t fun x => by
      by_cases e : x = 0
      · rw [e]; exact h2
      · exact h1 x e
    cases i with
    | zero => simpa using h0
    | succ i => rw [List.getD_cons_succ]; exact ih i
theorem cp_coef {p : Int} {l m : List Int} (h : PCg p (ev l) (ev m)) (i : Nat) : Md p (l.getD i 0) (m.getD i 0) := by
  obtain ⟨r, h⟩ := h
  have := ev_zero_id (padd l (pscale (-1) (padd m (pscale p r)))) (fun x => by rw [ev_padd, ev_pscale, ev_padd, ev_pscale, h x]; grind) i
  rw [padd_getD, pscale_getD, padd_getD, pscale_getD] at this
  exact ⟨r.getD i 0, by omega⟩
theorem pm_getD (a : Int) (l b : List Int) (i : Nat) : (pm (a :: l) b).getD i 0 = a * b.getD i 0 + (0 :: pm l b).getD i 0 := by
  show (padd (pscale a b) (0 :: pm l b)).getD i 0 = _
  rw [padd_getD, pscale_getD]
theorem pm_len (b : List Int) (hb : 0 < b.length) : ∀ a : List Int, a ≠ [] → (pm a b).length + 1 ≤ a.length + b.length
  | [], h => absurd rfl h
  | [a], _ => by simp [pm, padd_len, pscale]; omega
  | a :: c :: l, _ => by
    have ih := pm_len b hb (c :: l) (fun e => nomatch e)
    have e : pm (a :: c :: l) b = padd (pscale a b) (0 :: pm (c :: l) b) := rfl
    rw [e, padd_len]
    simp only [pscale, List.length_map, List.length_cons] at ih ⊢
    omega
theorem pm_top (b : List Int) (hb : 0 < b.length) : ∀ a : List Int, a ≠ [] → (pm a b).getD (a.length + b.length - 2) 0 = a.getD (a.length - 1) 0 * b.getD (b.length - 1) 0
  | [], h => absurd rfl h
  | [a], _ => by
    rw [pm_getD]
    have e : (0 :: pm [] b).getD ([a].length + b.length - 2) 0 = 0 := by
      show ([0] : List Int).getD _ 0 = 0
      cases [a].length + b.length - 2 <;> simp
    rw [e, Int.add_zero, show [a].length + b.length - 2 = b.length - 1 by simp; omega]
    rfl
  | a :: c :: l, _ => by
    have ih := pm_top b hb (c :: l) (fun e => nomatch e)
    rw [pm_getD]
    simp only [List.length_cons] at ih ⊢
    rw [getD_of_le (by omega : b.length ≤ l.length + 1 + 1 + b.length - 2), Int.mul_zero, Int.zero_add, show l.length + 1 + 1 + b.length - 2 = (l.length + 1 + b.length - 2) + 1 by omega, List.getD_cons_succ, ih]
    rfl
theorem prime_md {p a b : Int} (hp : Pr p) (h : Md p (a * b) 0) (ha : ¬ Md p a 0) : Md p b 0 := by
  have hb := fmod_bd a hp.pos
  have hm := fmod_md a p
  have h0 : Int.fmod a p ≠ 0 := fun e => ha (by rw [e] at hm; exact hm.symm)
  have hi := invF_md hp (a := Int.fmod a p) ⟨by omega, hb.2⟩
  have h1 : Md p (invF (Int.fmod a p) p * Int.fmod a p * b) (1 * b) := hi.mul Md.rfl'
  have h2 : Md p (invF (Int.fmod a p) p * Int.fmod a p * b) (invF (Int.fmod a p) p * (a * b)) := by
    rw [Int.mul_assoc]
    exact Md.rfl'.mul (hm.mul Md.rfl')
  have h3 : Md p (invF (Int.fmod a p) p * (a * b)) (invF (Int.fmod a p) p * 0) := Md.rfl'.mul h
  rw [Int.one_mul] at h1
  rw [Int.mul_zero] at h3
  exact h1.symm.trans (h2.trans h3)
/-- g goes into a, up to p -/
noncomputable def Dv (p : Int) (g a : List Int) : Prop := ∃ q : List Int, PCg p (ev a) (fun x => ev q x * ev g x)
theorem Dv.zero {p : Int} {g a : List Int} (h : Dv p g a) {x : Int} (hx : Md p (ev g x) 0) : Md p (ev a x) 0 := by
  obtain ⟨q, h⟩ := h
  have := (h.at x).trans (Md.rfl'.mul hx)
  rwa [Int.mul_zero] at this
theorem gcdLoop_inv {p : Int} (hp : Pr p) : ∀ (fuel : Nat) (a b : List Int), b.length < fuel → Nm p a → Nm p b →
    Nm p (gcdLoop p fuel a b) ∧ Dv p (gcdLoop p fuel a b) a ∧ Dv p (gcdLoop p fuel a b) b ∧ (∀ x : Int, Md p (ev a x) 0 → Md p (ev b x) 0 → Md p (ev (gcdLoop p fuel a b) x) 0) ∧ (a ≠ [] ∨ b ≠ [] → gcdLoop p fuel a b ≠ [])
  | 0, _, _, h, _, _ => absurd h (Nat.not_lt_zero _)
  | fuel + 1, a, b, h, ha, hb => by
    unfold gcdLoop
    split
    · rename_i e
      subst e
      refine ⟨ha, ⟨[1], PCg.of_eq fun x => by simp [ev]⟩, ⟨[], PCg.of_eq fun x => by simp [ev]⟩, fun x hx _ => hx, fun hn => hn.resolve_right fun q => q rfl⟩
    · rename_i hne
      have hl : 0 < b.length := List.length_pos_iff.mpr hne
      have hr := restF_len (a := a) (b := b) (p := p)
      obtain ⟨i1, i2, i3, i4, i5⟩ := gcdLoop_inv hp fuel b (restF a b p) (by omega) hb (restF_nm hp.pos ha.1)
      obtain ⟨q, hq⟩ := cp_div hp ha.1 hb hl
      refine ⟨i1, ?_, i2, fun x h1 h2 => i4 x h2 ?_, fun _ => i5 (.inl hne)⟩
      · obtain ⟨s, hs⟩ := i2
        obtain ⟨t, ht⟩ := i3
        have e1 : PCg p (fun x => ev q x * ev b x + ev (restF a b p) x) (fun x => ev b x * ev q x + ev (restF a b p) x) := PCg.of_eq fun x => by grind
        refine ⟨padd (pm s q) t, hq.trans (e1.trans (((PCg.mul q hs).add ht).trans (PCg.of_eq fun x => ?_)))⟩
        rw [ev_padd, ev_pm]; grind
      · have e1 := (hq.at x).symm.trans h1
        have e2 : Md p (ev q x * ev b x) (ev q x * 0) := Md.rfl'.mul h2
        have e3 := e1.sub e2
        rwa [Int.mul_zero, Int.sub_zero, show ev q x * ev b x + ev (restF a b p) x - ev q x * ev b x = ev (restF a b p) x by omega] at e3
end Mine
end
section
set_option autoImplicit false
set_option linter.unusedVariables false
namespace Mine
theorem md0_of {p a : Int} (hp : 0 < p) (hb : 0 ≤ a ∧ a < p) (h : Md p a 0) : a = 0 := h.eq hb ⟨Int.le_refl _, hp⟩
theorem divF_top {p : Int} (hp : Pr p) : (divF p).getD p.toNat 0 = 1 := by
  rcases hp with rfl | rfl | rfl <;> decide
theorem trimF_cp (p : Int) (q : List Int) : PCg p (ev q) (ev (trimF (q.map fun x => Int.fmod x p))) := by
  refine (cp_fmod p q).symm.trans (PCg.of_eq fun x => ?_)
  rw [ev_trimF]
theorem sumP0 {p : Int} {F : Nat → Int} (n : Nat) (h : ∀ v, v < n → Md p (F v) 0) : Md p (sumP n F) 0 := by
  have e : ∀ n, (sumP n fun _ => (0 : Int)) = 0 := fun n => by
    induction n with
    | zero => rfl
    | succ n ih => unfold sumP; rw [ih]; rfl
  have := sumP_md n h
  rwa [e] at this
/-- a list of length p - 1 at most that is 0 at all places but one is 0 -/
theorem few_roots {p : Int} (hp : Pr p) {q : List Int} {u : Nat} (hq : Nm p q) (hne : q ≠ []) (hl : (q.length : Int) ≤ p - 1) (h : ∀ w : Nat, (w : Int) < p → w ≠ u → Md p (ev q w) 0) : False := by
  have hp2 := hp.two
  have hq0 : 0 < q.length := List.length_pos_iff.mpr hne
  have ht := hq.last hq0
  have hlen := pm_len [-(u : Int), 1] (by simp) q hne
  have htop := pm_top [-(u : Int), 1] (by simp) q hne
  simp only [List.length_cons, List.length_nil] at hlen htop
  have hlt : (q.length : Int) < p := Int.lt_of_le_of_lt hl (Int.sub_one_lt_of_le (Int.le_refl p))
  have hlen2 : (pm q [-(u : Int), 1]).length ≤ p.toNat := Nat.le_trans (Nat.le_of_succ_le_succ hlen) (hp.toN hlt)
  have hm := coefI hp (l := pm q [-(u : Int), 1]) (by rw [← hp.cast]; exact Int.ofNat_le.mpr hlen2) (i := q.length) hq0 hlt
  rw [show q.length + (0 + 1 + 1) - 2 = q.length from rfl] at htop
  rw [htop] at hm
  have hz : Md p (sumP p.toNat fun v => ev (pm q [-(u : Int), 1]) v * (v : Int) ^ (p.toNat - 1 - q.length)) 0 := by
    refine sumP0 _ fun w hw => ?_
    have hw2 : Md p (ev (pm q [-(u : Int), 1]) w) 0 := by
      rw [ev_pm]
      by_cases e : w = u
      · subst e
        simp [ev]
        rw [Int.add_left_neg, Int.mul_zero]
        exact Md.rfl'
      · have := (h w (hp.toI hw) e).mul (Md.rfl' (p := p) (a := ev [-(u : Int), 1] w))
        rwa [Int.zero_mul] at this
    have := hw2.mul (Md.rfl' (p := p) (a := (w : Int) ^ (p.toNat - 1 - q.length)))
    rwa [Int.zero_mul] at this
  have h2 := hm.trans (Md.rfl'.sub hz)
  simp at h2
  have ht2 : q.getD (q.length - 1) 0 = q[q.length - 1]?.getD 0 := by rw [List.getD_eq_getElem?_getD]
  rw [ht2] at ht
  exact absurd (md0_of hp.pos ⟨Int.le_of_lt ht.1, ht.2⟩ h2) (Int.ne_of_gt ht.1)
theorem len2 {l : List Int} (h : l.length = 2) : ∃ a b, l = [a, b] := by
  match l, h with
  | [a, b], _ => exact ⟨a, b, rfl⟩
theorem gcd_place {p : Int} (hp : Pr p) {s : List Int} {u : Nat} (hs : Nm p s) (hu : (u : Int) < p) (h0 : Md p (ev s u) 0) (h1 : ∀ w : Nat, (w : Int) < p → w ≠ u → ¬ Md p (ev s w) 0) :
    gcdF s (divF p) p = [Int.fmod (0 - u) p, 1] := by
  have hp2 := hp.two
  obtain ⟨hg, hgs, hgd, hgv, hgn⟩ := gcdLoop_inv hp ((divF p).length + 1) s (divF p) (Nat.lt_succ_self _) hs (divF_nm hp)
  unfold gcdF
  generalize gcdLoop p ((divF p).length + 1) s (divF p) = g at hg hgs hgd hgv hgn ⊢
  have hne : g ≠ [] := hgn (.inr (List.length_pos_iff.mp (divF_pos hp)))
  have hgu := hgv u h0 (divF_ev hp hu)
  have hl0 : 0 < g.length := List.length_pos_iff.mpr hne
  have hlast := hg.last hl0
  have hle : g.length ≤ 2 := by
    refine Nat.le_of_not_lt fun hlt => ?_
    obtain ⟨q, hq⟩ := hgd
    have hq1 : PCg p (ev (divF p)) (ev (pm (trimF (q.map fun x => Int.fmod x p)) g)) := hq.trans (((trimF_cp p q).mul g).trans (PCg.of_eq fun x => by rw [ev_pm]))
    have hqn : Nm p (trimF (q.map fun x => Int.fmod x p)) := trimF_nm (Sm.map fun _ _ => fmod_bd _ hp.pos)
    generalize trimF (q.map fun x => Int.fmod x p) = q' at hq1 hqn
    have hq2 : q' ≠ [] := by
      intro e
      rw [e] at hq1
      have := cp_coef hq1 p.toNat
      rw [divF_top hp] at this
      have := md0_of hp.pos ⟨by decide, Int.lt_of_lt_of_le (by decide) hp2⟩ this
      exact absurd this (by decide)
    have hq3 : 0 < q'.length := List.length_pos_iff.mpr hq2
    have hqt := hqn.last hq3
    have hk := cp_coef hq1 (q'.length + g.length - 2)
    rw [pm_top g hl0 q' hq2] at hk
    have hk2 : q'.length + g.length - 2 ≤ p.toNat := by
      refine Nat.le_of_not_lt fun hlt2 => ?_
      have hdl := divF_len hp
      rw [getD_of_le (by omega)] at hk
      have := prime_md hp hk.symm (fun e => absurd (md0_of hp.pos ⟨Int.le_of_lt hqt.1, hqt.2⟩ e) (Int.ne_of_gt hqt.1))
      exact absurd (md0_of hp.pos ⟨Int.le_of_lt hlast.1, hlast.2⟩ this) (Int.ne_of_gt hlast.1)
    refine few_roots hp (u := u) hqn hq2 (by omega) fun w hw hwu => ?_
    have e1 := (hq1.at w).symm.trans (divF_ev hp hw)
    rw [ev_pm, Int.mul_comm] at e1
    exact prime_md hp e1 fun e => h1 w hw hwu (hgs.zero e)
  have hl2 : g.length = 2 := by
    refine Nat.le_antisymm hle (Nat.le_of_not_lt fun hlt => ?_)
    have e1 : g.length = 1 := by omega
    obtain ⟨c, rfl⟩ := List.length_eq_one_iff.mp e1
    simp [ev] at hgu
    simp at hlast
    exact absurd (md0_of hp.pos ⟨Int.le_of_lt hlast.1, hlast.2⟩ hgu) (Int.ne_of_gt hlast.1)
  obtain ⟨a, b, rfl⟩ := len2 hl2
  simp only [List.length_cons, List.length_nil] at hlast
  have hb : 0 < b ∧ b < p := by simpa using hlast
  have hi := invF_md hp hb
  have e1 : Int.fmod (b * invF b p) p = 1 := by
    refine Md.eq ((fmod_md _ p).trans ?_) (fmod_bd _ hp.pos) ⟨by decide, Int.lt_of_lt_of_le (by decide) hp2⟩
    rw [Int.mul_comm]; exact hi
  have e2 : Int.fmod (a * invF b p) p = Int.fmod (0 - u) p := by
    refine Md.eq ((fmod_md _ p).trans (Md.trans ?_ (fmod_md _ p).symm)) (fmod_bd _ hp.pos) (fmod_bd _ hp.pos)
    have e3 : Md p (a + (u : Int) * b) 0 := by simpa [ev] using hgu
    have e4 := (e3.mul (Md.rfl' (p := p) (a := invF b p))).sub ((Md.rfl' (p := p) (a := (u : Int))).mul hi)
    have e5 : (a + (u : Int) * b) * invF b p - (u : Int) * (invF b p * b) = a * invF b p := by grind
    rw [e5] at e4
    have e6 : 0 * invF b p - (u : Int) * 1 = 0 - u := by rw [Int.zero_mul, Int.mul_one]
    rwa [e6] at e4
  unfold monicF
  rw [if_neg (fun e => nomatch e)]
  unfold scaleF
  show trimF [Int.fmod (a * invF b p) p, Int.fmod (b * invF b p) p] = _
  rw [e1, e2]
  simp [trimF]
theorem gcd_poly {p : Int} (hp : Pr p) {row : List Int} (h : Arr p.toNat row) {v : Int} (hv : 0 ≤ v ∧ v < p) : gcdF (subF (polyF row p) [v] p) (divF p) p = [Int.fmod (0 - ((row.idxOf v : Nat) : Int)) p, 1] := by
  have hi := idx_lt h (x := v) (hp.bd' hv)
  have hev : ∀ w : Nat, (w : Int) < p → Md p (ev (subF (polyF row p) [v] p) w) (row.getD w 0 - v) := fun w hw => by
    have e := ((cp_subF (polyF row p) [v] p).at w).trans ((polyF_ev hp h hw).sub (Md.rfl' (a := ev [v] w)))
    have e2 : ev [v] w = v := by simp [ev]
    rwa [e2] at e
  refine gcd_place hp (subF_nm hp.pos) (hp.toI hi) ?_ fun w hw hwu e => ?_
  · have := hev (row.idxOf v) (hp.toI hi)
    rwa [row_idx h (hp.bd' hv), Int.sub_self] at this
  · have e1 := (hev w hw).symm.trans e
    have e2 := e1.add (Md.rfl' (p := p) (a := v))
    rw [Int.sub_add_cancel, Int.zero_add] at e2
    have hb := arr_bd h (v := w) (hp.toN hw)
    have e3 := e2.eq (hp.bd hb) hv
    exact hwu (by rw [← e3, idx_row h (hp.toN hw)])
end Mine
end
section
open PySem PySem.W PyProof.Rows
set_option Elab.async false
set_option maxRecDepth 100000
set_option linter.unusedVariables false
namespace Mine
/-- a loop over a range: the name y is bound anew to a list, the list T is changed in place, `rest` stands -/
structure W1 where
  d : Addr
  us : List Value
  fs : List Int
  n : Nat
  ws : List Value
  gs : List Int
  nt : Nat
noncomputable def WEnd (h₀ : Heap) (L T : Addr) (rest : List (Addr × Obj)) (x y : Str) (stored : List Str) (m : Str → Option Value) (P : List Int → List Int → Prop) (I : Addr) (oI : Obj) (s s₂ : Shared) : Prop :=
  ∃ (h' : Heap) (tk : Nat) (m' : Str → Option Value) (nx : List (Addr × Obj)) (c : W1), s₂ = { s with heap := h', toks := tk } ∧ Fr h₀ L h' m' ∧ News h₀ L h' nx ∧ (c.d, listOf c.us.toArray c.n) ∈ nx ∧ (T, listOf c.ws.toArray c.nt) ∈ nx ∧ (∀ p ∈ rest, p ∈ nx) ∧ (I, oI) ∈ nx ∧ @Ne Nat c.d I ∧ @Ne Nat c.d T ∧ m' y = some (.ref c.d) ∧ (∀ z, z ≠ x → z ≠ y → stored.contains z = false → m' z = m z) ∧ IntsAre c.us c.fs ∧ IntsAre c.ws c.gs ∧ P c.fs c.gs
theorem WEnd.intro {h₀ : Heap} {L T : Addr} {rest : List (Addr × Obj)} {x y : Str} {stored : List Str} {m : Str → Option Value} {P : List Int → List Int → Prop} {I : Addr} {oI : Obj} {s : Shared} {h' : Heap} {tk : Nat} {m' : Str → Option Value} {nx : List (Addr × Obj)} {D : Addr} {us : List Value} {fs : List Int} {n : Nat} {ws : List Value} {gs : List Int} {nt : Nat}
    (F : Fr h₀ L h' m') (N : News h₀ L h' nx) (hy : m' y = some (.ref D)) (hD : (D, listOf us.toArray n) ∈ nx) (hT : (T, listOf ws.toArray nt) ∈ nx) (hr : ∀ p ∈ rest, p ∈ nx) (hI : (I, oI) ∈ nx) (hne : @Ne Nat D I) (hnT : @Ne Nat D T) (hm : ∀ z, z ≠ x → z ≠ y → stored.contains z = false → m' z = m z) (hi : IntsAre us fs) (hj : IntsAre ws gs) (hp : P fs gs) :
    WEnd h₀ L T rest x y stored m P I oI s { s with heap := h', toks := tk } := ⟨h', tk, m', nx, ⟨D, us, fs, n, ws, gs, nt⟩, rfl, F, N, hD, hT, hr, hI, hne, hnT, hy, hm, hi, hj, hp⟩
noncomputable def WPost (h₀ : Heap) (L T : Addr) (rest : List (Addr × Obj)) (x y : Str) (stored : List Str) (m : Str → Option Value) (P : List Int → List Int → Prop) (I : Addr) (oI : Obj) (s : Shared) (Q : Flow → Shared → Prop) (f : Flow) (s₂ : Shared) : Prop :=
  match f with
  | .ret v => Q (.ret v) s₂
  | .brk => Q .next s₂
  | _ => WEnd h₀ L T rest x y stored m P I oI s s₂
section
variable {prog : Program} {w : World} {A : Around} {E : Value → Shared → Prop} {s : Shared} {env : Env} {h₀ : Heap} {x y : Str} {body : List Stmt} {Q : Flow → Shared → Prop}
theorem twolist_st {r D T : Addr} {a₀ b₀ : Int} {t₀ u₀ v₀ : Tok} {us₀ ws₀ : List Value} {fs₀ gs₀ : List Int} {n₀ nt₀ : Nat} {m : Str → Option Value} {news : List (Addr × Obj)} (rest : List (Addr × Obj)) (N : Nat) (stored : List Str) (P : Nat → List Int → List Int → Prop)
    (hh : A.handled = none) (hr : IsRange s.heap r a₀ b₀ 1 t₀ u₀ v₀) (hN : N = (b₀ - a₀).toNat) (hs0 : -1000 ≤ a₀) (hs1 : a₀ < 1000) (hs2 : -1000 ≤ b₀) (hs3 : b₀ < 1000)
    (F : Fr h₀ env.locals s.heap m) (hn : News h₀ env.locals s.heap news) (hy : m y = some (.ref D)) (hD : (D, listOf us₀.toArray n₀) ∈ news) (hT : (T, listOf ws₀.toArray nt₀) ∈ news) (hrest : ∀ p ∈ rest, p ∈ news) (hDT : @Ne Nat D T) (hi0 : IntsAre us₀ fs₀) (hj0 : IntsAre ws₀ gs₀) (h0 : P 0 fs₀ gs₀)
    (turn : ∀ (i : Nat) (k : Int) t (D : Addr) (us : List Value) (fs : List Int) n (ws : List Value) (gs : List Int) nt (u : Str → Option Value) h tk (I : Addr) oI, k = a₀ + (i : Int) → i < N → IntsAre us fs → IntsAre ws gs → P i fs gs → @Ne Nat D T → (∀ p ∈ (D, listOf us.toArray n) :: (T, listOf ws.toArray nt) :: rest, p.1 ≠ I) →
      Fr h₀ env.locals h (fun z => if z = x then some (.int k t) else if z = y then some (.ref D) else if stored.contains z then u z else m z) → News h₀ env.locals h ((D, listOf us.toArray n) :: (T, listOf ws.toArray nt) :: (rest ++ [(I, oI)])) →
      wpAny (model prog w) A (execs body env) (WPost h₀ env.locals T rest x y stored m (P (i + 1)) I oI { s with heap := h, toks := tk } Q) E { s with heap := h, toks := tk })
    (done : ∀ (D : Addr) (us : List Value) (fs : List Int) n (ws : List Value) (gs : List Int) nt (u : Str → Option Value) h' tk, IntsAre us fs → IntsAre ws gs → P N fs gs → @Ne Nat D T → Fr h₀ env.locals h' (fun z => if z = x then u z else if z = y then some (.ref D) else if stored.contains z then u z else m z) → News h₀ env.locals h' ((D, listOf us.toArray n) :: (T, listOf ws.toArray nt) :: rest) → Q .next { s with heap := h', toks := tk }) :
    wpAny (model prog w) A (pyIter (.ref r)) (fun it s₂ => LoopAtV prog w A h₀ env x body Q E it s₂) E s := by
  refine rangeA (σ := W1) (fun c => (c.d, listOf c.us.toArray c.n) :: (T, listOf c.ws.toArray c.nt) :: rest) (fun c => [(y, .ref c.d)]) stored (fun i c => IntsAre c.us c.fs ∧ IntsAre c.ws c.gs ∧ @Ne Nat c.d T ∧ P i c.fs c.gs) ⟨D, us₀, fs₀, n₀, ws₀, gs₀, nt₀⟩ hh hr hN hs0 hs1 hs2 hs3 F (kst_newsOf hn (by
      intro p hp
      rcases List.mem_cons.mp hp with rfl | hp
      · exact hD
      · rcases List.mem_cons.mp hp with rfl | hp
        · exact hT
        · exact hrest p hp)) (fun p hp => by rw [List.mem_singleton.mp hp]; exact hy) ⟨hi0, hj0, hDT, h0⟩ ?_ ?_
  · rintro ⟨D, us, fs, n, ws, gs, nt⟩ i k t u h tk I oI hk hlt ⟨g1, g2, g3, hP⟩ hne F₁ N₁
    dsimp only at g1 g2 g3 hP
    refine wpAny_mono (turn i k t D us fs n ws gs nt u h tk I oI hk hlt g1 g2 hP g3 hne F₁ N₁) (fun f s₂ p => ?_) fun _ _ x => x
    have hTI : @Ne Nat T I := hne (T, _) (.tail _ (.head _))
    have fin : WEnd h₀ env.locals T rest x y stored m (P (i + 1)) I oI { s with heap := h, toks := tk } s₂ → AEnd h₀ env.locals (fun c : W1 => (c.d, listOf c.us.toArray c.n) :: (T, listOf c.ws.toArray c.nt) :: rest) (fun c => [(y, .ref c.d)]) stored x m (fun c => IntsAre c.us c.fs ∧ IntsAre c.ws c.gs ∧ @Ne Nat c.d T ∧ P (i + 1) c.fs c.gs) I oI { s with heap := h, toks := tk } s₂ := by
      rintro ⟨h', tk', m', nx, c, rfl, F', N', q1, q2, qr, q3, q4, q4b, q5, q6, q7, q7b, q8⟩
      refine AEnd.intro c F' N' ?_ q3 ?_ ?_ ?_ ⟨q7, q7b, q4b, q8⟩
      · intro p hp
        rcases List.mem_cons.mp hp with rfl | hp
        · exact q1
        · rcases List.mem_cons.mp hp with rfl | hp
          · exact q2
          · exact qr p hp
      · intro p hp
        rcases List.mem_cons.mp hp with rfl | hp
        · exact q4
        · rcases List.mem_cons.mp hp with rfl | hp
          · exact hTI
          · exact hne p (.tail _ (.tail _ hp))
      · intro p hp
        rw [List.mem_singleton.mp hp]; exact q5
      · intro z hz hz2 hz3
        exact q6 z hz (hz2 _ (.head _)) hz3
    cases f with
    | ret v => exact p
    | brk => exact p
    | next => exact fin p
    | cont => exact fin p
  · rintro ⟨D, us, fs, n, ws, gs, nt⟩ u h tk ⟨g1, g2, g3, hP⟩ F₁ N₁
    dsimp only at g1 g2 g3 hP
    exact done D us fs n ws gs nt u h tk g1 g2 hP g3 F₁ N₁
end
/-- the end of a loop that strikes items: one way on, whatever test ended it -/
noncomputable def PopOut (h₀ : Heap) (L D : Addr) (rest : List (Addr × Obj)) (m : Str → Option Value) (R : List Int → Prop) (s s₂ : Shared) : Prop :=
  ∃ (h' : Heap) (tk : Nat) (us : List Value) (fs : List Int) (n : Nat), s₂ = { s with heap := h', toks := tk } ∧ Fr h₀ L h' m ∧ News h₀ L h' ((D, listOf us.toArray n) :: rest) ∧ IntsAre us fs ∧ R fs
theorem PopOut.intro {h₀ : Heap} {L D : Addr} {rest : List (Addr × Obj)} {m : Str → Option Value} {R : List Int → Prop} {s : Shared} {h' : Heap} {tk : Nat} {us : List Value} {fs : List Int} {n : Nat}
    (F : Fr h₀ L h' m) (N : News h₀ L h' ((D, listOf us.toArray n) :: rest)) (hi : IntsAre us fs) (hp : R fs) : PopOut h₀ L D rest m R s { s with heap := h', toks := tk } := ⟨h', tk, us, fs, n, rfl, F, N, hi, hp⟩
noncomputable def PopQ (h₀ : Heap) (L D : Addr) (rest : List (Addr × Obj)) (m : Str → Option Value) (R : List Int → Prop) (s : Shared) (Q : Flow → Shared → Prop) (f : Flow) (s₂ : Shared) : Prop :=
  match f with
  | .next => PopOut h₀ L D rest m R s s₂
  | f => Q f s₂
section
variable {prog : Program} {w : World} {A : Around} {E : Value → Shared → Prop} {Q : Flow → Shared → Prop} {s : Shared} {env : Env} {h₀ : Heap} {L : Addr}
theorem pop_while_out {D : Addr} {us₀ : List Value} {fs₀ : List Int} {n₀ : Nat} {test : PySem.Expr} {body : List Stmt} {pos : Pos} {m : Str → Option Value} {news : List (Addr × Obj)} (rest : List (Addr × Obj)) (P R : List Int → Prop)
    (F : Fr h₀ L s.heap m) (N : News h₀ L s.heap news) (hD : (D, listOf us₀.toArray n₀) ∈ news) (hr : ∀ p ∈ rest, p ∈ news) (hi : IntsAre us₀ fs₀) (hp : P fs₀)
    (turn : ∀ (us : List Value) (fs : List Int) n h tk, IntsAre us fs → P fs → Fr h₀ L h m → News h₀ L h ((D, listOf us.toArray n) :: rest) →
      wpAny (model prog w) A (isTrue test env (eval test env)) (fun b s₂ =>
        if b = true then wpAny (model prog w) A (execs body env) (PopPost h₀ L D rest m P fs.length s (PopQ h₀ L D rest m R s Q)) E s₂ else PopOut h₀ L D rest m R s s₂) E { s with heap := h, toks := tk })
    (done : ∀ (us : List Value) (fs : List Int) n h tk, IntsAre us fs → R fs → Fr h₀ L h m → News h₀ L h ((D, listOf us.toArray n) :: rest) → Q .next { s with heap := h, toks := tk })
    (hE : PassesOwn (model prog w) A env E) :
    wpAny (model prog w) A (exec (.While test body [] pos) env) Q E s := by
  refine wpAny_mono (pop_while (Q := PopQ h₀ L D rest m R s Q) rest P F N hD hr hi hp turn hE) (fun f s₂ p => ?_) fun _ _ x => x
  cases f with
  | next =>
    obtain ⟨h', tk, us, fs, n, rfl, F', N', hi', hr'⟩ := p
    exact done us fs n h' tk hi' hr' F' N'
  | ret v => exact p
  | brk => exact p
  | cont => exact p
end
inductive Picks {α : Type} (l : List α) : List Nat → List α → Prop
  | nil : Picks l [] []
  | cons {i : Nat} {is : List Nat} {x : α} {xs : List α} : l[i]? = some x → Picks l is xs → Picks l (i :: is) (x :: xs)
theorem Picks.sub {α : Type} {l : List α} {is : List Nat} {xs : List α} (h : Picks l is xs) : ∀ p ∈ xs, p ∈ l := by
  induction h with
  | nil => exact fun _ h => (nomatch h)
  | cons h1 _ ih =>
    intro p hp
    rcases List.mem_cons.mp hp with rfl | hp
    · exact List.mem_of_getElem? h1
    · exact ih p hp
theorem news_pick {base h : Heap} {L : Addr} {news xs : List (Addr × Obj)} {is : List Nat} (N : News base L h news) (P : Picks news is xs) : News base L h xs := fun p hp => N p (P.sub p hp)
end Mine
end
section
open PySem PySem.W PyProof.Rows
set_option Elab.async false
set_option maxRecDepth 100000
set_option linter.unusedVariables false
namespace Mine
local macro_rules | `(tactic| walk_at $s) => `(tactic| k_extra $s)
local macro_rules | `(tactic| k_lt $h) => `(tactic| replace $h := neAll $h)
local macro_rules | `(tactic| k_ne) => `(tactic| k_extra "MY_KNE")
local macro_rules | `(tactic| omega) => `(tactic| k_extra "MY_OM")
local macro_rules | `(tactic| mul_fits) => `(tactic| k_extra "MY_MUL")
section
theorem mtrim_end {us : List Value} {ns : List Int} {k : Int} (hi : IntsAre us (ns.take k.toNat)) (h1 : k ≤ ns.length)
    (h3 : ∀ j : Int, k < j → j ≤ ns.length → (if 0 < j then if (ns.getD (j - 1).toNat 0 == 0) = true then true else false else false) = true)
    (h4 : (if 0 < k then if (ns.getD (k - 1).toNat 0 == 0) = true then true else false else false) = false) : IntsAre us (trimF ns) := by
  have e := trimF_take ns k.toNat (by omega) (fun j hj hj' => by
    have := h3 (j + 1) (by omega) (by omega)
    rw [if_pos (by omega), show ((j : Int) + 1 - 1).toNat = j by omega] at this
    by_cases h : ns.getD j 0 = 0
    · exact h
    · rw [if_neg (by simpa using h)] at this
      cases this) (by
    by_cases hk : 0 < k
    · right
      rw [if_pos hk, show (k - 1).toNat = k.toNat - 1 by omega] at h4
      intro h
      rw [if_pos (by simpa using h)] at h4
      cases h4
    · left
      omega)
  exact e ▸ hi
set_option maxHeartbeats 8000000 in
theorem mtrim_c {w : World} {s : Shared} {l : Addr} {vs : List Value} {ns : List Int} (O : Ok w s.heap) (hl : s.heap.IsList l vs.toArray) (hi : IntsAre vs ns) (hlen : ns.length < 1000) :
    CL w 900 9000 35 [.ref l] s (trimF ns) := by
  k_with_none
  w_top off
  k_with "MY_ENTER" => (intro Q E hQ; (obtain ⟨X, loose, mean, mg, mb, T⟩ := (by assumption : Ok _ _)); k_dflt (refine enter (by k_asm) (by exact Top.nolimit (by assumption)) (by k_is) (by k_is) (by decide) (by exact BindsTo.of_eq rfl) (by exact locs rfl) ?_ (by exact rfl) (by exact rfl) (by exact rfl) (by decide); k_whole; intro h' F' N'; (try dsimp only); (try k_fold)))
  k_with "MY_ENTERC" => (intro Q E hQ; (obtain ⟨X, loose, mean, mg, mb, T⟩ := (by assumption : Ok _ _)); k_dflt (refine enterC (by k_asm) (by exact Top.nolimit (by assumption)) (by k_is) (by k_is) (by decide) (by exact BindsTo.of_eq rfl) (by exact rfl) (by decide +kernel) ?_ (by exact rfl) (by exact rfl) (by exact rfl); k_whole; intro h' tk' cells' F' N' Y'; (k_cells Y'); (try simp only [List.cons_append, List.nil_append] at N'); (try dsimp only); (try k_fold)))
  k_with "MY_ZETA" => (dsimp (config := { zetaDelta := true }) only)
  k_with "MY_RET" => ((rename (∀ (h' : Heap) (r : Addr) (us : List Value) (n tk : Nat), (∀ b o, _ = some o → _ = some o) → _) => hq9); (have h9 := CL.ret hq9); (refine h9 _ _ _ _ _ _ _ _ (by assumption) (by assumption) (by k_mem) ?_))
  k_with "MY_RETI" => ((rename (∀ (h' : Heap) (t : Tok) (tk : Nat), (∀ b o, _ = some o → _ = some o) → _) => hq9); (have h9 := CI.ret hq9); (refine h9 _ _ _ _ _ _ (by assumption) ?_))
  k_with "MY_FOR" => (k_here; (rename Fr _ _ _ _ => lF'); (with_unfolding_all refine For_invVF lF' (by exact rfl) (by exact rfl) ?_; k_whole))
  k_with "exec For Name Subscript cons nil" => k_extra "MY_FOR"
  k_with "EnumPost" => (dsimp only [EnumPost])
  k_with "EnumEnd" => ((rename Fr _ _ _ _ => fE'); (rename News _ _ _ _ => nE'); (refine EnumEnd.intro fE' nE' (by k_mem) (by kcj_all) (by kcj_all) (by first | assumption | l_ints) (by (intro z h1 h2 h3; (try simp only [List.contains_cons, List.contains_nil, Bool.or_false, Bool.or_eq_false_iff, beq_eq_false_iff_ne, ne_eq] at h3); (simp [openM, h1, h2, h3]))) (by k_extra "enumend")))
  k_with "DownPost" => (dsimp only [DownPost])
  k_with "DownEnd" => ((rename Fr _ _ _ _ => fE'); (rename News _ _ _ _ => nE'); (refine DownEnd.intro fE' nE' (by k_mem) (by k_mem) (by kcj_all) (by first | assumption | l_ints) (by first | assumption | l_ints) (by (intro z h1 h3; (try simp only [List.contains_cons, List.contains_nil, Bool.or_false, Bool.or_eq_false_iff, beq_eq_false_iff_ne, ne_eq] at h3); (simp [openM, h1, h3]))) (by k_extra "downend")))
  k_with "NPost" => (dsimp only [NPost])
  k_with "NEnd" => ((rename Fr _ _ _ _ => fE'); (rename News _ _ _ _ => nE'); (refine NEnd.intro fE' nE' (by with_unfolding_all rfl) (by k_mem) (by k_mem) (by k_mem) (by k_extra "MY_NE") (by (intro z h1 h2 h3; (try simp only [List.contains_cons, List.contains_nil, Bool.or_false, Bool.or_eq_false_iff, beq_eq_false_iff_ne, ne_eq] at h3); (simp [h1, h2, h3]))) (by first | assumption | l_ints) (by k_extra "nend")))
  k_with "MY_NE" => first | assumption | exact Ne.symm (by assumption) | ((rename (∀ p ∈ _, Prod.fst p ≠ _) => hq7); exact fun e => hq7 (_, _) (by k_mem) e.symm) | ((rename (∀ p ∈ _, Prod.fst p ≠ _) => hq7); exact fun e => hq7 (_, _) (by k_mem) e)
  k_with "execs cons Assign cons" => refine wpAny_execs_cons ?_
  k_with "MY_NE2" => k_dflt (rename (∀ p : Addr × Obj, p ∈ (_ : List (Addr × Obj)) → Prod.fst p ≠ _) => h9; first | (apply neOf h9; k_mem) | (apply neOf' h9; k_mem) | (clear h9; k_extra "MY_NE2"))
  k_with "MY_KNE" => (refine neN ?_; (try dsimp only); first | k_extra "MY_NE2" | omega)
  k_with "MY_OM" => with_reducible first | assumption | ((show @LT.lt Nat _ _ _); first | exact Nat.lt_of_lt_of_le (by assumption) (by decide) | exact Nat.lt_of_le_of_lt (by assumption) (by decide) | fail) | ((show @LE.le Nat _ _ _); first | exact Nat.le_of_lt (Nat.lt_of_lt_of_le (by assumption) (by decide)) | exact Nat.le_trans (by assumption) (by decide) | fail) | ((show @LT.lt Int _ _ _); first | exact Int.lt_of_lt_of_le (by assumption) (by decide) | exact Int.lt_of_le_of_lt (by assumption) (by decide) | exact ltlo (by assumption) (by decide) | exact Int.lt_of_lt_of_le (Int.lt_of_lt_of_le (by assumption) (by assumption)) (by decide) | fail) | ((show @LE.le Int _ _ _); first | exact lelo (by assumption) (by decide) | exact Int.le_trans (by assumption) (by decide) | fail) | fail
  walk_at "MY_ENTER"
  k_steps
  walk_at "MY_RET"
  exact mtrim_end (by assumption) (by assumption) (by assumption) (by assumption)
end
section
theorem foldl_app {α : Type} (g : List Int → α → List Int) (f : α → Int) : ∀ (ks : List α) (acc : List Int), (∀ a, ∀ k ∈ ks, g a k = a ++ [f k]) → ks.foldl g acc = acc ++ ks.map f
  | [], acc, _ => by simp
  | k :: ks, acc, h => by
    rw [List.foldl_cons, foldl_app g f ks _ (fun a k hk => h a k (.tail _ hk)), h acc k (.head _)]
    simp
theorem madd_end {us : List Value} {ns1 ns2 : List Int} {p : Int} (h : IntsAre us (trimF
    (List.foldl (fun a' (k' : Int) =>
        if k' < ns1.length ∧ k' < ns2.length then a' ++ [(ns1.getD k'.toNat 0 + ns2.getD k'.toNat 0).fmod p]
        else if k' < ns1.length ∧ ¬k' < ns2.length then a' ++ [(ns1.getD k'.toNat 0 + 0).fmod p] else a' ++ [(0 + ns2.getD k'.toNat 0).fmod p])
      [] (rangeKs 0 ((if (ns2.length : Int) > ns1.length then (ns2.length : Int) else ns1.length) - 0).toNat)))) : IntsAre us (addF ns1 ns2 p) := by
  rw [foldl_app _ (fun k => (ns1.getD k.toNat 0 + ns2.getD k.toNat 0).fmod p)] at h
  · have e : ((if (ns2.length : Int) > ns1.length then (ns2.length : Int) else ns1.length) - 0).toNat = max ns1.length ns2.length := by omega
    rw [e, List.nil_append] at h
    unfold addF
    unfold rangeKs at h
    rw [List.map_map] at h
    have e2 : ((fun k : Int => (ns1.getD k.toNat 0 + ns2.getD k.toNat 0).fmod p) ∘ fun i : Nat => (0 : Int) + (i : Int)) = fun i : Nat => Int.fmod (ns1.getD i 0 + ns2.getD i 0) p := by
      funext i
      simp
    rw [e2] at h
    exact h
  · intro a k hk
    have hk2 := mem_rangeKs hk
    have g1 : ¬ k < ns1.length → ns1.getD k.toNat 0 = 0 := fun h => by rw [List.getD_eq_getElem?_getD, List.getElem?_eq_none (by omega)]; rfl
    have g2 : ¬ k < ns2.length → ns2.getD k.toNat 0 = 0 := fun h => by rw [List.getD_eq_getElem?_getD, List.getElem?_eq_none (by omega)]; rfl
    split
    · rfl
    · split
      · rename_i _ h2
        rw [g2 h2.2]
      · rename_i h1 h2
        rw [g1 (by omega)]
set_option maxHeartbeats 8000000 in
theorem madd_c {w : World} {s : Shared} {l1 l2 : Addr} {vs1 vs2 : List Value} {ns1 ns2 : List Int} {p : Int} {t : Tok} (O : Ok w s.heap) (hl1 : s.heap.IsList l1 vs1.toArray) (hi1 : IntsAre vs1 ns1) (hlen1 : ns1.length < 900)
    (hl2 : s.heap.IsList l2 vs2.toArray) (hi2 : IntsAre vs2 ns2) (hlen2 : ns2.length < 900) (hp : 2 ≤ p) :
    CL w 800 8000 42 [.ref l1, .ref l2, .int p t] s (addF ns1 ns2 p) := by
  k_with_none
  w_top off
  k_with "MY_ENTER" => (intro Q E hQ; (obtain ⟨X, loose, mean, mg, mb, T⟩ := (by assumption : Ok _ _)); k_dflt (refine enter (by k_asm) (by exact Top.nolimit (by assumption)) (by k_is) (by k_is) (by decide) (by exact BindsTo.of_eq rfl) (by exact locs rfl) ?_ (by exact rfl) (by exact rfl) (by exact rfl) (by decide); k_whole; intro h' F' N'; (try dsimp only); (try k_fold)))
  k_with "MY_ENTERC" => (intro Q E hQ; (obtain ⟨X, loose, mean, mg, mb, T⟩ := (by assumption : Ok _ _)); k_dflt (refine enterC (by k_asm) (by exact Top.nolimit (by assumption)) (by k_is) (by k_is) (by decide) (by exact BindsTo.of_eq rfl) (by exact rfl) (by decide +kernel) ?_ (by exact rfl) (by exact rfl) (by exact rfl); k_whole; intro h' tk' cells' F' N' Y'; (k_cells Y'); (try simp only [List.cons_append, List.nil_append] at N'); (try dsimp only); (try k_fold)))
  k_with "MY_ZETA" => (dsimp (config := { zetaDelta := true }) only)
  k_with "MY_RET" => ((rename (∀ (h' : Heap) (r : Addr) (us : List Value) (n tk : Nat), (∀ b o, _ = some o → _ = some o) → _) => hq9); (have h9 := CL.ret hq9); (refine h9 _ _ _ _ _ _ _ _ (by assumption) (by assumption) (by k_mem) ?_))
  k_with "MY_RETI" => ((rename (∀ (h' : Heap) (t : Tok) (tk : Nat), (∀ b o, _ = some o → _ = some o) → _) => hq9); (have h9 := CI.ret hq9); (refine h9 _ _ _ _ _ _ (by assumption) ?_))
  k_with "MY_FOR" => (k_here; (rename Fr _ _ _ _ => lF'); (with_unfolding_all refine For_invVF lF' (by exact rfl) (by exact rfl) ?_; k_whole))
  k_with "exec For Name Subscript cons nil" => k_extra "MY_FOR"
  k_with "EnumPost" => (dsimp only [EnumPost])
  k_with "EnumEnd" => ((rename Fr _ _ _ _ => fE'); (rename News _ _ _ _ => nE'); (refine EnumEnd.intro fE' nE' (by k_mem) (by kcj_all) (by kcj_all) (by first | assumption | l_ints) (by (intro z h1 h2 h3; (try simp only [List.contains_cons, List.contains_nil, Bool.or_false, Bool.or_eq_false_iff, beq_eq_false_iff_ne, ne_eq] at h3); (simp [openM, h1, h2, h3]))) (by k_extra "enumend")))
  k_with "DownPost" => (dsimp only [DownPost])
  k_with "DownEnd" => ((rename Fr _ _ _ _ => fE'); (rename News _ _ _ _ => nE'); (refine DownEnd.intro fE' nE' (by k_mem) (by k_mem) (by kcj_all) (by first | assumption | l_ints) (by first | assumption | l_ints) (by (intro z h1 h3; (try simp only [List.contains_cons, List.contains_nil, Bool.or_false, Bool.or_eq_false_iff, beq_eq_false_iff_ne, ne_eq] at h3); (simp [openM, h1, h3]))) (by k_extra "downend")))
  k_with "NPost" => (dsimp only [NPost])
  k_with "NEnd" => ((rename Fr _ _ _ _ => fE'); (rename News _ _ _ _ => nE'); (refine NEnd.intro fE' nE' (by with_unfolding_all rfl) (by k_mem) (by k_mem) (by k_mem) (by k_extra "MY_NE") (by (intro z h1 h2 h3; (try simp only [List.contains_cons, List.contains_nil, Bool.or_false, Bool.or_eq_false_iff, beq_eq_false_iff_ne, ne_eq] at h3); (simp [h1, h2, h3]))) (by first | assumption | l_ints) (by k_extra "nend")))
  k_with "MY_NE" => first | assumption | exact Ne.symm (by assumption) | ((rename (∀ p ∈ _, Prod.fst p ≠ _) => hq7); exact fun e => hq7 (_, _) (by k_mem) e.symm) | ((rename (∀ p ∈ _, Prod.fst p ≠ _) => hq7); exact fun e => hq7 (_, _) (by k_mem) e)
  k_with "execs cons Assign cons" => refine wpAny_execs_cons ?_
  k_with "MY_NE2" => k_dflt (rename (∀ p : Addr × Obj, p ∈ (_ : List (Addr × Obj)) → Prod.fst p ≠ _) => h9; first | (apply neOf h9; k_mem) | (apply neOf' h9; k_mem) | (clear h9; k_extra "MY_NE2"))
  k_with "MY_KNE" => (refine neN ?_; (try dsimp only); first | k_extra "MY_NE2" | omega)
  k_with "MY_OM" => with_reducible first | assumption | ((show @LT.lt Nat _ _ _); first | exact Nat.lt_of_lt_of_le (by assumption) (by decide) | exact Nat.lt_of_le_of_lt (by assumption) (by decide) | fail) | ((show @LE.le Nat _ _ _); first | exact Nat.le_of_lt (Nat.lt_of_lt_of_le (by assumption) (by decide)) | exact Nat.le_trans (by assumption) (by decide) | fail) | ((show @LT.lt Int _ _ _); first | exact Int.lt_of_lt_of_le (by assumption) (by decide) | exact Int.lt_of_le_of_lt (by assumption) (by decide) | exact ltlo (by assumption) (by decide) | exact Int.lt_of_lt_of_le (Int.lt_of_lt_of_le (by assumption) (by assumption)) (by decide) | fail) | ((show @LE.le Int _ _ _); first | exact lelo (by assumption) (by decide) | exact Int.le_trans (by assumption) (by decide) | fail) | fail
  k_with "call ref" => (k_here; (with_reducible show wpAny _ _ (call (Value.ref 35) _) _ _ _); (with_unfolding_all refine CL.use (mtrim_c (by exact Ok.keeps (by assumption) (Fr.keep (by assumption))) (by is_list) (by first | l_ints | l_intsW) (by first | assumption | k_extra "MY_FIT" | l_fit)) (by assumption) (by assumption) (by rfl) (by exact Nat.le_of_ble_eq_true rfl) (by exact Nat.le_of_ble_eq_true rfl) ?_; k_whole); intro r' us' n' h' tk' F' N' hne' hi'; (try k_sweep))
  walk_at "MY_ENTER"
  k_steps
  walk_at "MY_RET"
  exact madd_end (by assumption)
end
section
set_option maxHeartbeats 8000000 in
theorem mneg_c {w : World} {s : Shared} {l1 : Addr} {vs1 : List Value} {ns1 : List Int} {p : Int} {t : Tok} (O : Ok w s.heap) (hl1 : s.heap.IsList l1 vs1.toArray) (hi1 : IntsAre vs1 ns1) (hlen1 : ns1.length < 900) (hp : 2 ≤ p) :
    CL w 800 8000 47 [.ref l1, .int p t] s (negF ns1 p) := by
  k_with_none
  w_top off
  k_with "MY_ENTER" => (intro Q E hQ; (obtain ⟨X, loose, mean, mg, mb, T⟩ := (by assumption : Ok _ _)); k_dflt (refine enter (by k_asm) (by exact Top.nolimit (by assumption)) (by k_is) (by k_is) (by decide) (by exact BindsTo.of_eq rfl) (by exact locs rfl) ?_ (by exact rfl) (by exact rfl) (by exact rfl) (by decide); k_whole; intro h' F' N'; (try dsimp only); (try k_fold)))
  k_with "MY_ENTERC" => (intro Q E hQ; (obtain ⟨X, loose, mean, mg, mb, T⟩ := (by assumption : Ok _ _)); k_dflt (refine enterC (by k_asm) (by exact Top.nolimit (by assumption)) (by k_is) (by k_is) (by decide) (by exact BindsTo.of_eq rfl) (by exact rfl) (by decide +kernel) ?_ (by exact rfl) (by exact rfl) (by exact rfl); k_whole; intro h' tk' cells' F' N' Y'; (k_cells Y'); (try simp only [List.cons_append, List.nil_append] at N'); (try dsimp only); (try k_fold)))
  k_with "MY_ZETA" => (dsimp (config := { zetaDelta := true }) only)
  k_with "MY_RET" => ((rename (∀ (h' : Heap) (r : Addr) (us : List Value) (n tk : Nat), (∀ b o, _ = some o → _ = some o) → _) => hq9); (have h9 := CL.ret hq9); (refine h9 _ _ _ _ _ _ _ _ (by assumption) (by assumption) (by k_mem) ?_))
  k_with "MY_RETI" => ((rename (∀ (h' : Heap) (t : Tok) (tk : Nat), (∀ b o, _ = some o → _ = some o) → _) => hq9); (have h9 := CI.ret hq9); (refine h9 _ _ _ _ _ _ (by assumption) ?_))
  k_with "MY_FOR" => (k_here; (rename Fr _ _ _ _ => lF'); (with_unfolding_all refine For_invVF lF' (by exact rfl) (by exact rfl) ?_; k_whole))
  k_with "exec For Name Subscript cons nil" => k_extra "MY_FOR"
  k_with "EnumPost" => (dsimp only [EnumPost])
  k_with "EnumEnd" => ((rename Fr _ _ _ _ => fE'); (rename News _ _ _ _ => nE'); (refine EnumEnd.intro fE' nE' (by k_mem) (by kcj_all) (by kcj_all) (by first | assumption | l_ints) (by (intro z h1 h2 h3; (try simp only [List.contains_cons, List.contains_nil, Bool.or_false, Bool.or_eq_false_iff, beq_eq_false_iff_ne, ne_eq] at h3); (simp [openM, h1, h2, h3]))) (by k_extra "enumend")))
  k_with "DownPost" => (dsimp only [DownPost])
  k_with "DownEnd" => ((rename Fr _ _ _ _ => fE'); (rename News _ _ _ _ => nE'); (refine DownEnd.intro fE' nE' (by k_mem) (by k_mem) (by kcj_all) (by first | assumption | l_ints) (by first | assumption | l_ints) (by (intro z h1 h3; (try simp only [List.contains_cons, List.contains_nil, Bool.or_false, Bool.or_eq_false_iff, beq_eq_false_iff_ne, ne_eq] at h3); (simp [openM, h1, h3]))) (by k_extra "downend")))
  k_with "NPost" => (dsimp only [NPost])
  k_with "NEnd" => ((rename Fr _ _ _ _ => fE'); (rename News _ _ _ _ => nE'); (refine NEnd.intro fE' nE' (by with_unfolding_all rfl) (by k_mem) (by k_mem) (by k_mem) (by k_extra "MY_NE") (by (intro z h1 h2 h3; (try simp only [List.contains_cons, List.contains_nil, Bool.or_false, Bool.or_eq_false_iff, beq_eq_false_iff_ne, ne_eq] at h3); (simp [h1, h2, h3]))) (by first | assumption | l_ints) (by k_extra "nend")))
  k_with "MY_NE" => first | assumption | exact Ne.symm (by assumption) | ((rename (∀ p ∈ _, Prod.fst p ≠ _) => hq7); exact fun e => hq7 (_, _) (by k_mem) e.symm) | ((rename (∀ p ∈ _, Prod.fst p ≠ _) => hq7); exact fun e => hq7 (_, _) (by k_mem) e)
  k_with "execs cons Assign cons" => refine wpAny_execs_cons ?_
  k_with "MY_NE2" => k_dflt (rename (∀ p : Addr × Obj, p ∈ (_ : List (Addr × Obj)) → Prod.fst p ≠ _) => h9; first | (apply neOf h9; k_mem) | (apply neOf' h9; k_mem) | (clear h9; k_extra "MY_NE2"))
  k_with "MY_KNE" => (refine neN ?_; (try dsimp only); first | k_extra "MY_NE2" | omega)
  k_with "MY_OM" => with_reducible first | assumption | ((show @LT.lt Nat _ _ _); first | exact Nat.lt_of_lt_of_le (by assumption) (by decide) | exact Nat.lt_of_le_of_lt (by assumption) (by decide) | fail) | ((show @LE.le Nat _ _ _); first | exact Nat.le_of_lt (Nat.lt_of_lt_of_le (by assumption) (by decide)) | exact Nat.le_trans (by assumption) (by decide) | fail) | ((show @LT.lt Int _ _ _); first | exact Int.lt_of_lt_of_le (by assumption) (by decide) | exact Int.lt_of_le_of_lt (by assumption) (by decide) | exact ltlo (by assumption) (by decide) | exact Int.lt_of_lt_of_le (Int.lt_of_lt_of_le (by assumption) (by assumption)) (by decide) | fail) | ((show @LE.le Int _ _ _); first | exact lelo (by assumption) (by decide) | exact Int.le_trans (by assumption) (by decide) | fail) | fail
  k_with "call ref" => (k_here; (with_reducible show wpAny _ _ (call (Value.ref 35) _) _ _ _); (with_unfolding_all refine CL.use (mtrim_c (by exact Ok.keeps (by assumption) (Fr.keep (by assumption))) (by is_list) (by first | l_ints | l_intsW) (by first | assumption | k_extra "MY_FIT" | l_fit)) (by assumption) (by assumption) (by rfl) (by exact Nat.le_of_ble_eq_true rfl) (by exact Nat.le_of_ble_eq_true rfl) ?_; k_whole); intro r' us' n' h' tk' F' N' hne' hi'; (try k_sweep))
  walk_at "MY_ENTERC"
  k_steps
  walk_at "MY_RET"
  assumption
set_option maxHeartbeats 8000000 in
theorem mscale_c {w : World} {s : Shared} {l1 : Addr} {vs1 : List Value} {ns1 : List Int} {p k : Int} {t t2 : Tok} (O : Ok w s.heap) (hl1 : s.heap.IsList l1 vs1.toArray) (hi1 : IntsAre vs1 ns1) (hlen1 : ns1.length < 900) (hp : 2 ≤ p) (hk : 0 ≤ k) (hk2 : k < 100) :
    CL w 800 8000 59 [.ref l1, .int k t2, .int p t] s (scaleF ns1 k p) := by
  k_with_none
  w_top off
  k_with "MY_ENTER" => (intro Q E hQ; (obtain ⟨X, loose, mean, mg, mb, T⟩ := (by assumption : Ok _ _)); k_dflt (refine enter (by k_asm) (by exact Top.nolimit (by assumption)) (by k_is) (by k_is) (by decide) (by exact BindsTo.of_eq rfl) (by exact locs rfl) ?_ (by exact rfl) (by exact rfl) (by exact rfl) (by decide); k_whole; intro h' F' N'; (try dsimp only); (try k_fold)))
  k_with "MY_ENTERC" => (intro Q E hQ; (obtain ⟨X, loose, mean, mg, mb, T⟩ := (by assumption : Ok _ _)); k_dflt (refine enterC (by k_asm) (by exact Top.nolimit (by assumption)) (by k_is) (by k_is) (by decide) (by exact BindsTo.of_eq rfl) (by exact rfl) (by decide +kernel) ?_ (by exact rfl) (by exact rfl) (by exact rfl); k_whole; intro h' tk' cells' F' N' Y'; (k_cells Y'); (try simp only [List.cons_append, List.nil_append] at N'); (try dsimp only); (try k_fold)))
  k_with "MY_ZETA" => (dsimp (config := { zetaDelta := true }) only)
  k_with "MY_RET" => ((rename (∀ (h' : Heap) (r : Addr) (us : List Value) (n tk : Nat), (∀ b o, _ = some o → _ = some o) → _) => hq9); (have h9 := CL.ret hq9); (refine h9 _ _ _ _ _ _ _ _ (by assumption) (by assumption) (by k_mem) ?_))
  k_with "MY_RETI" => ((rename (∀ (h' : Heap) (t : Tok) (tk : Nat), (∀ b o, _ = some o → _ = some o) → _) => hq9); (have h9 := CI.ret hq9); (refine h9 _ _ _ _ _ _ (by assumption) ?_))
  k_with "MY_FOR" => (k_here; (rename Fr _ _ _ _ => lF'); (with_unfolding_all refine For_invVF lF' (by exact rfl) (by exact rfl) ?_; k_whole))
  k_with "exec For Name Subscript cons nil" => k_extra "MY_FOR"
  k_with "EnumPost" => (dsimp only [EnumPost])
  k_with "EnumEnd" => ((rename Fr _ _ _ _ => fE'); (rename News _ _ _ _ => nE'); (refine EnumEnd.intro fE' nE' (by k_mem) (by kcj_all) (by kcj_all) (by first | assumption | l_ints) (by (intro z h1 h2 h3; (try simp only [List.contains_cons, List.contains_nil, Bool.or_false, Bool.or_eq_false_iff, beq_eq_false_iff_ne, ne_eq] at h3); (simp [openM, h1, h2, h3]))) (by k_extra "enumend")))
  k_with "DownPost" => (dsimp only [DownPost])
  k_with "DownEnd" => ((rename Fr _ _ _ _ => fE'); (rename News _ _ _ _ => nE'); (refine DownEnd.intro fE' nE' (by k_mem) (by k_mem) (by kcj_all) (by first | assumption | l_ints) (by first | assumption | l_ints) (by (intro z h1 h3; (try simp only [List.contains_cons, List.contains_nil, Bool.or_false, Bool.or_eq_false_iff, beq_eq_false_iff_ne, ne_eq] at h3); (simp [openM, h1, h3]))) (by k_extra "downend")))
  k_with "NPost" => (dsimp only [NPost])
  k_with "NEnd" => ((rename Fr _ _ _ _ => fE'); (rename News _ _ _ _ => nE'); (refine NEnd.intro fE' nE' (by with_unfolding_all rfl) (by k_mem) (by k_mem) (by k_mem) (by k_extra "MY_NE") (by (intro z h1 h2 h3; (try simp only [List.contains_cons, List.contains_nil, Bool.or_false, Bool.or_eq_false_iff, beq_eq_false_iff_ne, ne_eq] at h3); (simp [h1, h2, h3]))) (by first | assumption | l_ints) (by k_extra "nend")))
  k_with "MY_NE" => first | assumption | exact Ne.symm (by assumption) | ((rename (∀ p ∈ _, Prod.fst p ≠ _) => hq7); exact fun e => hq7 (_, _) (by k_mem) e.symm) | ((rename (∀ p ∈ _, Prod.fst p ≠ _) => hq7); exact fun e => hq7 (_, _) (by k_mem) e)
  k_with "execs cons Assign cons" => refine wpAny_execs_cons ?_
  k_with "MY_NE2" => k_dflt (rename (∀ p : Addr × Obj, p ∈ (_ : List (Addr × Obj)) → Prod.fst p ≠ _) => h9; first | (apply neOf h9; k_mem) | (apply neOf' h9; k_mem) | (clear h9; k_extra "MY_NE2"))
  k_with "MY_KNE" => (refine neN ?_; (try dsimp only); first | k_extra "MY_NE2" | omega)
  k_with "MY_OM" => with_reducible first | assumption | ((show @LT.lt Nat _ _ _); first | exact Nat.lt_of_lt_of_le (by assumption) (by decide) | exact Nat.lt_of_le_of_lt (by assumption) (by decide) | fail) | ((show @LE.le Nat _ _ _); first | exact Nat.le_of_lt (Nat.lt_of_lt_of_le (by assumption) (by decide)) | exact Nat.le_trans (by assumption) (by decide) | fail) | ((show @LT.lt Int _ _ _); first | exact Int.lt_of_lt_of_le (by assumption) (by decide) | exact Int.lt_of_le_of_lt (by assumption) (by decide) | exact ltlo (by assumption) (by decide) | exact Int.lt_of_lt_of_le (Int.lt_of_lt_of_le (by assumption) (by assumption)) (by decide) | fail) | ((show @LE.le Int _ _ _); first | exact lelo (by assumption) (by decide) | exact Int.le_trans (by assumption) (by decide) | fail) | fail
  k_with "call ref" => (k_here; (with_reducible show wpAny _ _ (call (Value.ref 35) _) _ _ _); (with_unfolding_all refine CL.use (mtrim_c (by exact Ok.keeps (by assumption) (Fr.keep (by assumption))) (by is_list) (by first | l_ints | l_intsW) (by first | assumption | k_extra "MY_FIT" | l_fit)) (by assumption) (by assumption) (by rfl) (by exact Nat.le_of_ble_eq_true rfl) (by exact Nat.le_of_ble_eq_true rfl) ?_; k_whole); intro r' us' n' h' tk' F' N' hne' hi'; (try k_sweep))
  walk_at "MY_ENTERC"
  k_steps
  walk_at "MY_RET"
  assumption
end
section
theorem mat_s0 {x p : Int} (hp : 2 ≤ p) : (0 : Int) = ([] : List Int).foldl (fun f c => Int.fmod (f * x + c) p) 0 ∧ (0 : Int) ≤ 0 ∧ (0 : Int) < p := ⟨rfl, Int.le_refl _, by omega⟩
theorem mat_s1 {x p f n : Int} {pre : List Int} (h : f = pre.foldl (fun f c => Int.fmod (f * x + c) p) 0) (hp : 2 ≤ p) :
    Int.fmod (f * x + n) p = (pre ++ [n]).foldl (fun f c => Int.fmod (f * x + c) p) 0 ∧ 0 ≤ Int.fmod (f * x + n) p ∧ Int.fmod (f * x + n) p < p := by
  refine ⟨?_, fmod_lo _ (by omega), fmod_hi _ (by omega)⟩
  rw [List.foldl_append, ← h]
  rfl
set_option maxHeartbeats 8000000 in
theorem mat_c {w : World} {s : Shared} {l1 : Addr} {vs1 : List Value} {ns1 : List Int} {p x : Int} {t t2 : Tok} (O : Ok w s.heap) (hl1 : s.heap.IsList l1 vs1.toArray) (hi1 : IntsAre vs1 ns1) (hlen1 : ns1.length < 900) (hx0 : 0 ≤ x) (hx : x < p) (hp : 2 ≤ p) (hp7 : p ≤ 7) :
    CI w 800 8000 94 [.ref l1, .int x t2, .int p t] s (matF ns1 x p) := by
  k_with_none
  w_top off
  k_with "MY_ENTER" => (intro Q E hQ; (obtain ⟨X, loose, mean, mg, mb, T⟩ := (by assumption : Ok _ _)); k_dflt (refine enter (by k_asm) (by exact Top.nolimit (by assumption)) (by k_is) (by k_is) (by decide) (by exact BindsTo.of_eq rfl) (by exact locs rfl) ?_ (by exact rfl) (by exact rfl) (by exact rfl) (by decide); k_whole; intro h' F' N'; (try dsimp only); (try k_fold)))
  k_with "MY_ENTERC" => (intro Q E hQ; (obtain ⟨X, loose, mean, mg, mb, T⟩ := (by assumption : Ok _ _)); k_dflt (refine enterC (by k_asm) (by exact Top.nolimit (by assumption)) (by k_is) (by k_is) (by decide) (by exact BindsTo.of_eq rfl) (by exact rfl) (by decide +kernel) ?_ (by exact rfl) (by exact rfl) (by exact rfl); k_whole; intro h' tk' cells' F' N' Y'; (k_cells Y'); (try simp only [List.cons_append, List.nil_append] at N'); (try dsimp only); (try k_fold)))
  k_with "MY_ZETA" => (dsimp (config := { zetaDelta := true }) only)
  k_with "MY_RET" => ((rename (∀ (h' : Heap) (r : Addr) (us : List Value) (n tk : Nat), (∀ b o, _ = some o → _ = some o) → _) => hq9); (have h9 := CL.ret hq9); (refine h9 _ _ _ _ _ _ _ _ (by assumption) (by assumption) (by k_mem) ?_))
  k_with "MY_RETI" => ((rename (∀ (h' : Heap) (t : Tok) (tk : Nat), (∀ b o, _ = some o → _ = some o) → _) => hq9); (have h9 := CI.ret hq9); (refine h9 _ _ _ _ _ _ (by assumption) ?_))
  k_with "MY_FOR" => (k_here; (rename Fr _ _ _ _ => lF'); (with_unfolding_all refine For_invVF lF' (by exact rfl) (by exact rfl) ?_; k_whole))
  k_with "exec For Name Subscript cons nil" => k_extra "MY_FOR"
  k_with "EnumPost" => (dsimp only [EnumPost])
  k_with "EnumEnd" => ((rename Fr _ _ _ _ => fE'); (rename News _ _ _ _ => nE'); (refine EnumEnd.intro fE' nE' (by k_mem) (by kcj_all) (by kcj_all) (by first | assumption | l_ints) (by (intro z h1 h2 h3; (try simp only [List.contains_cons, List.contains_nil, Bool.or_false, Bool.or_eq_false_iff, beq_eq_false_iff_ne, ne_eq] at h3); (simp [openM, h1, h2, h3]))) (by k_extra "enumend")))
  k_with "DownPost" => (dsimp only [DownPost])
  k_with "DownEnd" => ((rename Fr _ _ _ _ => fE'); (rename News _ _ _ _ => nE'); (refine DownEnd.intro fE' nE' (by k_mem) (by k_mem) (by kcj_all) (by first | assumption | l_ints) (by first | assumption | l_ints) (by (intro z h1 h3; (try simp only [List.contains_cons, List.contains_nil, Bool.or_false, Bool.or_eq_false_iff, beq_eq_false_iff_ne, ne_eq] at h3); (simp [openM, h1, h3]))) (by k_extra "downend")))
  k_with "NPost" => (dsimp only [NPost])
  k_with "NEnd" => ((rename Fr _ _ _ _ => fE'); (rename News _ _ _ _ => nE'); (refine NEnd.intro fE' nE' (by with_unfolding_all rfl) (by k_mem) (by k_mem) (by k_mem) (by k_extra "MY_NE") (by (intro z h1 h2 h3; (try simp only [List.contains_cons, List.contains_nil, Bool.or_false, Bool.or_eq_false_iff, beq_eq_false_iff_ne, ne_eq] at h3); (simp [h1, h2, h3]))) (by first | assumption | l_ints) (by k_extra "nend")))
  k_with "MY_NE" => first | assumption | exact Ne.symm (by assumption) | ((rename (∀ p ∈ _, Prod.fst p ≠ _) => hq7); exact fun e => hq7 (_, _) (by k_mem) e.symm) | ((rename (∀ p ∈ _, Prod.fst p ≠ _) => hq7); exact fun e => hq7 (_, _) (by k_mem) e)
  k_with "execs cons Assign cons" => refine wpAny_execs_cons ?_
  k_with "MY_NE2" => k_dflt (rename (∀ p : Addr × Obj, p ∈ (_ : List (Addr × Obj)) → Prod.fst p ≠ _) => h9; first | (apply neOf h9; k_mem) | (apply neOf' h9; k_mem) | (clear h9; k_extra "MY_NE2"))
  k_with "MY_KNE" => (refine neN ?_; (try dsimp only); first | k_extra "MY_NE2" | omega)
  k_with "MY_OM" => with_reducible first | assumption | ((show @LT.lt Nat _ _ _); first | exact Nat.lt_of_lt_of_le (by assumption) (by decide) | exact Nat.lt_of_le_of_lt (by assumption) (by decide) | fail) | ((show @LE.le Nat _ _ _); first | exact Nat.le_of_lt (Nat.lt_of_lt_of_le (by assumption) (by decide)) | exact Nat.le_trans (by assumption) (by decide) | fail) | ((show @LT.lt Int _ _ _); first | exact Int.lt_of_lt_of_le (by assumption) (by decide) | exact Int.lt_of_le_of_lt (by assumption) (by decide) | exact ltlo (by assumption) (by decide) | exact Int.lt_of_lt_of_le (Int.lt_of_lt_of_le (by assumption) (by assumption)) (by decide) | fail) | ((show @LE.le Int _ _ _); first | exact lelo (by assumption) (by decide) | exact Int.le_trans (by assumption) (by decide) | fail) | fail
  k_with "call ref" => (k_here; (with_reducible show wpAny _ _ (call (Value.ref 35) _) _ _ _); (with_unfolding_all refine CL.use (mtrim_c (by exact Ok.keeps (by assumption) (Fr.keep (by assumption))) (by is_list) (by first | l_ints | l_intsW) (by first | assumption | k_extra "MY_FIT" | l_fit)) (by assumption) (by assumption) (by rfl) (by exact Nat.le_of_ble_eq_true rfl) (by exact Nat.le_of_ble_eq_true rfl) ?_; k_whole); intro r' us' n' h' tk' F' N' hne' hi'; (try k_sweep))
  walk_at "MY_ENTER"
  k_with "pyIter ref" => k_state (fun pre f => f = pre.foldl (fun f c => Int.fmod (f * x + c) p) 0 ∧ 0 ≤ f ∧ f < p) "found"
  k_with "state" => first | exact mat_s0 (by assumption) | exact mat_s1 (by assumption) (by assumption)
  k_steps
  walk_at "MY_RETI"
  assumption
end
section
/-- six ints of the two tuples of `extended` -/
noncomputable abbrev X6 := Int × Int × Int × Int × Int × Int
noncomputable def xstep (z : X6) : X6 := if z.2.2.2.1 = 0 then z else
  let q := Int.fdiv z.1 z.2.2.2.1
  (z.2.2.2.1, z.2.2.2.2.1, z.2.2.2.2.2, z.1 - q * z.2.2.2.1, z.2.1 - q * z.2.2.2.2.1, z.2.2.1 - q * z.2.2.2.2.2)
noncomputable def orb (a m : Int) : Nat → X6
  | 0 => (a, 1, 0, m, 0, 1)
  | k + 1 => xstep (orb a m k)
noncomputable def XP (a m : Int) (z : X6) : Prop := ∃ k, k < 8 ∧ z = orb a m k
theorem xp0 (a m : Int) : XP a m (a, 1, 0, m, 0, 1) := ⟨0, by decide, rfl⟩
noncomputable abbrev Okp (a p : Int) : Prop := (a, p) ∈ ([(1, 3), (2, 3), (1, 5), (2, 5), (3, 5), (4, 5), (1, 7), (2, 7), (3, 7), (4, 7), (5, 7), (6, 7)] : List (Int × Int))
theorem okp_of {a p : Int} (hp : Pr p) (h0 : 0 < a) (h1 : a < p) : Okp a p := by
  rcases hp with rfl | rfl | rfl
  · rcases (by omega : a = 1 ∨ a = 2) with rfl | rfl <;> decide
  · rcases (by omega : a = 1 ∨ a = 2 ∨ a = 3 ∨ a = 4) with rfl | rfl | rfl | rfl <;> decide
  · rcases (by omega : a = 1 ∨ a = 2 ∨ a = 3 ∨ a = 4 ∨ a = 5 ∨ a = 6) with rfl | rfl | rfl | rfl | rfl | rfl <;> decide
theorem okp_all {P : Int × Int → Prop} [DecidablePred P] (h : ∀ z ∈ ([(1, 3), (2, 3), (1, 5), (2, 5), (3, 5), (4, 5), (1, 7), (2, 7), (3, 7), (4, 7), (5, 7), (6, 7)] : List (Int × Int)), P z) {a p : Int} (o : Okp a p) : P (a, p) := h _ o
theorem orb_facts {a m : Int} (o : Okp a m) : ∀ k, k < 8 → 0 < (orb a m k).1 ∧ (orb a m k).1 ≤ 7 ∧ 0 ≤ (orb a m k).2.2.2.1 ∧ (orb a m k).2.2.2.1 ≤ 7 ∧ 0 ≤ Int.fdiv (orb a m k).1 (orb a m k).2.2.2.1 ∧ Int.fdiv (orb a m k).1 (orb a m k).2.2.2.1 ≤ 7 ∧
    (k < 7 ∨ (orb a m k).2.2.2.1 = 0) ∧ ((orb a m k).2.2.2.1 = 0 ∨ (orb a m (k + 1)).2.2.2.1.toNat < (orb a m k).2.2.2.1.toNat) ∧ ((orb a m k).2.2.2.1 ≠ 0 ∨ ((orb a m k).1 = 1 ∧ Int.fmod (orb a m k).2.1 m = invF a m)) :=
  okp_all (P := fun z => ∀ k, k < 8 → 0 < (orb z.1 z.2 k).1 ∧ (orb z.1 z.2 k).1 ≤ 7 ∧ 0 ≤ (orb z.1 z.2 k).2.2.2.1 ∧ (orb z.1 z.2 k).2.2.2.1 ≤ 7 ∧ 0 ≤ Int.fdiv (orb z.1 z.2 k).1 (orb z.1 z.2 k).2.2.2.1 ∧ Int.fdiv (orb z.1 z.2 k).1 (orb z.1 z.2 k).2.2.2.1 ≤ 7 ∧
    (k < 7 ∨ (orb z.1 z.2 k).2.2.2.1 = 0) ∧ ((orb z.1 z.2 k).2.2.2.1 = 0 ∨ (orb z.1 z.2 (k + 1)).2.2.2.1.toNat < (orb z.1 z.2 k).2.2.2.1.toNat) ∧ ((orb z.1 z.2 k).2.2.2.1 ≠ 0 ∨ ((orb z.1 z.2 k).1 = 1 ∧ Int.fmod (orb z.1 z.2 k).2.1 z.2 = invF z.1 z.2))) (by decide +kernel) o
theorem xp_facts {a m x0 x1 x2 y0 y1 y2 : Int} (o : Okp a m) (h : XP a m (x0, x1, x2, y0, y1, y2)) : 0 < x0 ∧ x0 ≤ 7 ∧ 0 ≤ y0 ∧ y0 ≤ 7 ∧ 0 ≤ Int.fdiv x0 y0 ∧ Int.fdiv x0 y0 ≤ 7 := by
  obtain ⟨k, hk, e⟩ := h
  have f := orb_facts o k hk
  rw [← e] at f
  exact ⟨f.1, f.2.1, f.2.2.1, f.2.2.2.1, f.2.2.2.2.1, f.2.2.2.2.2.1⟩
theorem xp_step {a m x0 x1 x2 y0 y1 y2 : Int} (o : Okp a m) (h : XP a m (x0, x1, x2, y0, y1, y2)) (hy : y0 ≠ 0) :
    XP a m (y0, y1, y2, x0 - Int.fdiv x0 y0 * y0, x1 - Int.fdiv x0 y0 * y1, x2 - Int.fdiv x0 y0 * y2) ∧ (x0 - Int.fdiv x0 y0 * y0).toNat < y0.toNat := by
  obtain ⟨k, hk, e⟩ := h
  have f := orb_facts o k hk
  have g : orb a m (k + 1) = (y0, y1, y2, x0 - Int.fdiv x0 y0 * y0, x1 - Int.fdiv x0 y0 * y1, x2 - Int.fdiv x0 y0 * y2) := by
    show xstep (orb a m k) = _
    rw [← e]
    simp only [xstep, if_neg hy]
  rw [g, ← e] at f
  refine ⟨⟨k + 1, ?_, g.symm⟩, ?_⟩
  · rcases f.2.2.2.2.2.2.1 with h | h
    · omega
    · exact absurd h hy
  · rcases f.2.2.2.2.2.2.2.1 with h | h
    · exact absurd h hy
    · exact h
theorem xp_end {a m x0 x1 x2 y0 y1 y2 : Int} (o : Okp a m) (h : XP a m (x0, x1, x2, y0, y1, y2)) (hy : y0 = 0) : x0 = 1 ∧ Int.fmod x1 m = invF a m := by
  obtain ⟨k, hk, e⟩ := h
  have f := orb_facts o k hk
  rw [← e] at f
  rcases f.2.2.2.2.2.2.2.2 with h | h
  · exact absurd hy h
  · exact h
noncomputable abbrev tup3 (x y z : Int) (t u v : Tok) : Obj := { cls := .type "tuple", data := .seq #[.int x t, .int y u, .int z v] }
structure XS where
  a : Addr
  b : Addr
  x0 : Int
  x1 : Int
  x2 : Int
  y0 : Int
  y1 : Int
  y2 : Int
  t0 : Tok
  t1 : Tok
  t2 : Tok
  t3 : Tok
  t4 : Tok
  t5 : Tok
/-- the call hands back a new tuple of three ints of which P holds -/
noncomputable def CT (w : World) (d u : Nat) (f : Addr) (args : List Value) (s : Shared) (P : Int → Int → Int → Prop) : Prop :=
  ∀ Q E : Value → Shared → Prop, (∀ (h' : Heap) (r : Addr) (x y z : Int) (t u v : Tok) (tk : Nat), (∀ b o, s.heap.get? b = some o → h'.get? b = some o) → h'.get? r = some (tup3 x y z t u v) → s.heap.get? r = none → P x y z → Q (.ref r) { s with heap := h', toks := tk }) →
    wpAny (model PySem.Challenge.rw_tk0026_01.row.prog w) (ar d u) (call (.ref f) args) Q E s
theorem CT.ret {s : Shared} {P : Int → Int → Int → Prop} {Q : Value → Shared → Prop}
    (hQ : ∀ (h' : Heap) (r : Addr) (x y z : Int) (t u v : Tok) (tk : Nat), (∀ b o, s.heap.get? b = some o → h'.get? b = some o) → h'.get? r = some (tup3 x y z t u v) → s.heap.get? r = none → P x y z → Q (.ref r) { s with heap := h', toks := tk }) :
    ∀ (L : Addr) (h' : Heap) (m : Str → Option Value) (news : List (Addr × Obj)) (r : Addr) (x y z : Int) (t u v : Tok) (tk : Nat), Fr s.heap L h' m → News s.heap L h' news → (r, tup3 x y z t u v) ∈ news → P x y z → Q (.ref r) { s with heap := h', toks := tk } :=
  fun _ h' _ _ r x y z t u v tk F N hm hp => hQ h' r x y z t u v tk F.keep (N _ hm).1 (N _ hm).2.2 hp
set_option maxHeartbeats 8000000 in
theorem ext_t {w : World} {s : Shared} {a m : Int} {t t2 : Tok} (O : Ok w s.heap) (hp : Okp a m) :
    CT w 800 8000 21 [.int a t, .int m t2] s (fun x y _ => x = 1 ∧ Int.fmod y m = invF a m) := by
  k_with_none
  w_top off
  k_with "MY_ENTER" => (intro Q E hQ; (obtain ⟨X, loose, mean, mg, mb, T⟩ := (by assumption : Ok _ _)); k_dflt (refine enter (by k_asm) (by exact Top.nolimit (by assumption)) (by k_is) (by k_is) (by decide) (by exact BindsTo.of_eq rfl) (by exact locs rfl) ?_ (by exact rfl) (by exact rfl) (by exact rfl) (by decide); k_whole; intro h' F' N'; (try dsimp only); (try k_fold)))
  k_with "MY_ENTERC" => (intro Q E hQ; (obtain ⟨X, loose, mean, mg, mb, T⟩ := (by assumption : Ok _ _)); k_dflt (refine enterC (by k_asm) (by exact Top.nolimit (by assumption)) (by k_is) (by k_is) (by decide) (by exact BindsTo.of_eq rfl) (by exact rfl) (by decide +kernel) ?_ (by exact rfl) (by exact rfl) (by exact rfl); k_whole; intro h' tk' cells' F' N' Y'; (k_cells Y'); (try simp only [List.cons_append, List.nil_append] at N'); (try dsimp only); (try k_fold)))
  k_with "MY_ZETA" => (dsimp (config := { zetaDelta := true }) only)
  k_with "MY_RET" => ((rename (∀ (h' : Heap) (r : Addr) (us : List Value) (n tk : Nat), (∀ b o, _ = some o → _ = some o) → _) => hq9); (have h9 := CL.ret hq9); (refine h9 _ _ _ _ _ _ _ _ (by assumption) (by assumption) (by k_mem) ?_))
  k_with "MY_RETI" => ((rename (∀ (h' : Heap) (t : Tok) (tk : Nat), (∀ b o, _ = some o → _ = some o) → _) => hq9); (have h9 := CI.ret hq9); (refine h9 _ _ _ _ _ _ (by assumption) ?_))
  k_with "MY_FOR" => (k_here; (rename Fr _ _ _ _ => lF'); (with_unfolding_all refine For_invVF lF' (by exact rfl) (by exact rfl) ?_; k_whole))
  k_with "exec For Name Subscript cons nil" => k_extra "MY_FOR"
  k_with "EnumPost" => (dsimp only [EnumPost])
  k_with "EnumEnd" => ((rename Fr _ _ _ _ => fE'); (rename News _ _ _ _ => nE'); (refine EnumEnd.intro fE' nE' (by k_mem) (by kcj_all) (by kcj_all) (by first | assumption | l_ints) (by (intro z h1 h2 h3; (try simp only [List.contains_cons, List.contains_nil, Bool.or_false, Bool.or_eq_false_iff, beq_eq_false_iff_ne, ne_eq] at h3); (simp [openM, h1, h2, h3]))) (by k_extra "enumend")))
  k_with "DownPost" => (dsimp only [DownPost])
  k_with "DownEnd" => ((rename Fr _ _ _ _ => fE'); (rename News _ _ _ _ => nE'); (refine DownEnd.intro fE' nE' (by k_mem) (by k_mem) (by kcj_all) (by first | assumption | l_ints) (by first | assumption | l_ints) (by (intro z h1 h3; (try simp only [List.contains_cons, List.contains_nil, Bool.or_false, Bool.or_eq_false_iff, beq_eq_false_iff_ne, ne_eq] at h3); (simp [openM, h1, h3]))) (by k_extra "downend")))
  k_with "NPost" => (dsimp only [NPost])
  k_with "NEnd" => ((rename Fr _ _ _ _ => fE'); (rename News _ _ _ _ => nE'); (refine NEnd.intro fE' nE' (by with_unfolding_all rfl) (by k_mem) (by k_mem) (by k_mem) (by k_extra "MY_NE") (by (intro z h1 h2 h3; (try simp only [List.contains_cons, List.contains_nil, Bool.or_false, Bool.or_eq_false_iff, beq_eq_false_iff_ne, ne_eq] at h3); (simp [h1, h2, h3]))) (by first | assumption | l_ints) (by k_extra "nend")))
  k_with "MY_NE" => first | assumption | exact Ne.symm (by assumption) | ((rename (∀ p ∈ _, Prod.fst p ≠ _) => hq7); exact fun e => hq7 (_, _) (by k_mem) e.symm) | ((rename (∀ p ∈ _, Prod.fst p ≠ _) => hq7); exact fun e => hq7 (_, _) (by k_mem) e)
  k_with "execs cons Assign cons" => refine wpAny_execs_cons ?_
  k_with "MY_NE2" => k_dflt (rename (∀ p : Addr × Obj, p ∈ (_ : List (Addr × Obj)) → Prod.fst p ≠ _) => h9; first | (apply neOf h9; k_mem) | (apply neOf' h9; k_mem) | (clear h9; k_extra "MY_NE2"))
  k_with "MY_KNE" => (refine neN ?_; (try dsimp only); first | k_extra "MY_NE2" | omega)
  k_with "MY_OM" => with_reducible first | assumption | ((show @LT.lt Nat _ _ _); first | exact Nat.lt_of_lt_of_le (by assumption) (by decide) | exact Nat.lt_of_le_of_lt (by assumption) (by decide) | fail) | ((show @LE.le Nat _ _ _); first | exact Nat.le_of_lt (Nat.lt_of_lt_of_le (by assumption) (by decide)) | exact Nat.le_trans (by assumption) (by decide) | fail) | ((show @LT.lt Int _ _ _); first | exact Int.lt_of_lt_of_le (by assumption) (by decide) | exact Int.lt_of_le_of_lt (by assumption) (by decide) | exact ltlo (by assumption) (by decide) | exact Int.lt_of_lt_of_le (Int.lt_of_lt_of_le (by assumption) (by assumption)) (by decide) | fail) | ((show @LE.le Int _ _ _); first | exact lelo (by assumption) (by decide) | exact Int.le_trans (by assumption) (by decide) | fail) | fail
  k_with "call ref" => (k_here; (with_reducible show wpAny _ _ (call (Value.ref 35) _) _ _ _); (with_unfolding_all refine CL.use (mtrim_c (by exact Ok.keeps (by assumption) (Fr.keep (by assumption))) (by is_list) (by first | l_ints | l_intsW) (by first | assumption | k_extra "MY_FIT" | l_fit)) (by assumption) (by assumption) (by rfl) (by exact Nat.le_of_ble_eq_true rfl) (by exact Nat.le_of_ble_eq_true rfl) ?_; k_whole); intro r' us' n' h' tk' F' N' hne' hi'; (try k_sweep))
  k_with "exec While Compare cons nil" => (k_here; (rename Fr _ _ _ _ => lF'); (rename News _ _ _ _ => lN'); (with_unfolding_all refine' ksw_while (fun c : XS => [(c.b, tup3 c.y0 c.y1 c.y2 c.t3 c.t4 c.t5), (c.a, tup3 c.x0 c.x1 c.x2 c.t0 c.t1 c.t2)]) (fun c : XS => [(Str.ofString "one", Value.ref c.a), (Str.ofString "other", Value.ref c.b)]) (fun _ => True) [Str.ofString "times", Str.ofString "rest"] (fun c : XS => XP _ _ (c.x0, c.x1, c.x2, c.y0, c.y1, c.y2)) (fun c : XS => c.y0.toNat) ⟨_, _, _, _, _, _, _, _, _, _, _, _, _, _⟩ lF' ?kn trivial ?kk ?kp ?_); (case kk => exact List.forall_mem_cons.mpr ⟨by with_unfolding_all rfl, List.forall_mem_cons.mpr ⟨by with_unfolding_all rfl, List.forall_mem_nil _⟩⟩); (case kn => exact kst_newsOf lN' (List.forall_mem_cons.mpr ⟨by k_mem, List.forall_mem_cons.mpr ⟨by k_mem, List.forall_mem_nil _⟩⟩)); (case kp => exact xp0 _ _); (clear lF' lN'); (rintro ⟨a1, b1, x0, x1, x2, y0, y1, y2, t0, t1, t2, t3, t4, t5⟩ u1 h1 tk1 - hP1 F1 N1); (dsimp only at hP1 F1 N1 ⊢); (obtain ⟨hx0, hx7, hy0, hy7, hq0, hq7⟩ := xp_facts (by assumption) hP1); (try k_fold))
  walk_at "MY_ENTER"
  k_steps
  · (rename Fr _ _ _ _ => fE')
    (rename News _ _ _ _ => nE')
    (refine' ksw_end (⟨_, _, _, _, _, _, _, _, _, _, _, _, _, _⟩ : XS) fE' nE' ?zn trivial ?zk ?zr ?zp ?zm)
    (case zk => exact List.forall_mem_cons.mpr ⟨by with_unfolding_all rfl, List.forall_mem_cons.mpr ⟨by with_unfolding_all rfl, List.forall_mem_nil _⟩⟩)
    (case zn => exact List.forall_mem_cons.mpr ⟨by k_mem, List.forall_mem_cons.mpr ⟨by k_mem, List.forall_mem_nil _⟩⟩)
    (case zr => (intro z h2 h3; (simp only [List.forall_mem_cons, List.not_mem_nil, false_implies, implies_true, and_true, ne_eq] at h2); (simp only [List.contains_cons, List.contains_nil, Bool.or_false, Bool.or_eq_false_iff, beq_eq_false_iff_ne, ne_eq] at h3); (simp [kstB, h2, h3])))
    (case zp => exact (xp_step (by assumption) (by assumption) (by omega)).1)
    (case zm => exact (xp_step (by assumption) (by assumption) (by omega)).2)
  · (rename (∀ (h' : Heap) (r : Addr) (x y z : Int) (t u v : Tok) (tk : Nat), (∀ b o, _ = some o → _ = some o) → _) => hq9)
    have h9 := CT.ret hq9
    refine' h9 _ _ _ _ _ _ _ _ _ _ _ _ ?zF ?zN ?zm ?zi
    (case zF => assumption)
    (case zN => assumption)
    (case zm => k_mem)
    exact xp_end (by assumption) (by assumption) (by omega)
theorem CT.use {w : World} {d u : Nat} {f : Addr} {args : List Value} {s : Shared} {P : Int → Int → Int → Prop} {A : Around} {base : Heap} {L : Addr} {m : Str → Option Value} {news : List (Addr × Obj)} {Q E : Value → Shared → Prop}
    (C : CT w d u f args s P) (F : Fr base L s.heap m) (N : News base L s.heap news) (hh : A.handled = none) (hd : A.depth ≤ d) (hu : A.units ≤ u)
    (h : ∀ r x y z t u v h' tk, Fr base L h' m → News base L h' ((r, tup3 x y z t u v) :: news) → (∀ p ∈ news, p.1 ≠ r) → P x y z → Q (.ref r) { s with heap := h', toks := tk }) :
    wpAny (model PySem.Challenge.rw_tk0026_01.row.prog w) A (call (.ref f) args) Q E s := by
  refine weaken hh hd hu (C Q E fun h' r x y z t u v tk hk hr hn hp => h r x y z t u v h' tk ?_ ?_ ?_ hp)
  · exact F.keeps hk
  · exact news_new F N hk hr hn
  · exact news_ne N hn
theorem mod_small {a p : Int} (h0 : 0 < a) (h1 : a < p) : Int.fmod a p = a := by
  rw [Int.fmod_eq_emod_of_nonneg a (by omega)]
  exact Int.emod_eq_of_lt (by omega) h1
set_option maxHeartbeats 8000000 in
theorem inv_c {w : World} {s : Shared} {a p : Int} {t t2 : Tok} (O : Ok w s.heap) (hp : Pr p) (h0 : 0 < a) (h1 : a < p) :
    CI w 700 7000 28 [.int a t, .int p t2] s (invF a p) := by
  have hp0 : 0 < p := by omega
  k_with_none
  w_top off
  k_with "MY_ENTER" => (intro Q E hQ; (obtain ⟨X, loose, mean, mg, mb, T⟩ := (by assumption : Ok _ _)); k_dflt (refine enter (by k_asm) (by exact Top.nolimit (by assumption)) (by k_is) (by k_is) (by decide) (by exact BindsTo.of_eq rfl) (by exact locs rfl) ?_ (by exact rfl) (by exact rfl) (by exact rfl) (by decide); k_whole; intro h' F' N'; (try dsimp only); (try k_fold)))
  k_with "MY_ENTERC" => (intro Q E hQ; (obtain ⟨X, loose, mean, mg, mb, T⟩ := (by assumption : Ok _ _)); k_dflt (refine enterC (by k_asm) (by exact Top.nolimit (by assumption)) (by k_is) (by k_is) (by decide) (by exact BindsTo.of_eq rfl) (by exact rfl) (by decide +kernel) ?_ (by exact rfl) (by exact rfl) (by exact rfl); k_whole; intro h' tk' cells' F' N' Y'; (k_cells Y'); (try simp only [List.cons_append, List.nil_append] at N'); (try dsimp only); (try k_fold)))
  k_with "MY_ZETA" => (dsimp (config := { zetaDelta := true }) only)
  k_with "MY_RET" => ((rename (∀ (h' : Heap) (r : Addr) (us : List Value) (n tk : Nat), (∀ b o, _ = some o → _ = some o) → _) => hq9); (have h9 := CL.ret hq9); (refine h9 _ _ _ _ _ _ _ _ (by assumption) (by assumption) (by k_mem) ?_))
  k_with "MY_RETI" => ((rename (∀ (h' : Heap) (t : Tok) (tk : Nat), (∀ b o, _ = some o → _ = some o) → _) => hq9); (have h9 := CI.ret hq9); (refine h9 _ _ _ _ _ _ (by assumption) ?_))
  k_with "MY_FOR" => (k_here; (rename Fr _ _ _ _ => lF'); (with_unfolding_all refine For_invVF lF' (by exact rfl) (by exact rfl) ?_; k_whole))
  k_with "exec For Name Subscript cons nil" => k_extra "MY_FOR"
  k_with "EnumPost" => (dsimp only [EnumPost])
  k_with "EnumEnd" => ((rename Fr _ _ _ _ => fE'); (rename News _ _ _ _ => nE'); (refine EnumEnd.intro fE' nE' (by k_mem) (by kcj_all) (by kcj_all) (by first | assumption | l_ints) (by (intro z h1 h2 h3; (try simp only [List.contains_cons, List.contains_nil, Bool.or_false, Bool.or_eq_false_iff, beq_eq_false_iff_ne, ne_eq] at h3); (simp [openM, h1, h2, h3]))) (by k_extra "enumend")))
  k_with "DownPost" => (dsimp only [DownPost])
  k_with "DownEnd" => ((rename Fr _ _ _ _ => fE'); (rename News _ _ _ _ => nE'); (refine DownEnd.intro fE' nE' (by k_mem) (by k_mem) (by kcj_all) (by first | assumption | l_ints) (by first | assumption | l_ints) (by (intro z h1 h3; (try simp only [List.contains_cons, List.contains_nil, Bool.or_false, Bool.or_eq_false_iff, beq_eq_false_iff_ne, ne_eq] at h3); (simp [openM, h1, h3]))) (by k_extra "downend")))
  k_with "NPost" => (dsimp only [NPost])
  k_with "NEnd" => ((rename Fr _ _ _ _ => fE'); (rename News _ _ _ _ => nE'); (refine NEnd.intro fE' nE' (by with_unfolding_all rfl) (by k_mem) (by k_mem) (by k_mem) (by k_extra "MY_NE") (by (intro z h1 h2 h3; (try simp only [List.contains_cons, List.contains_nil, Bool.or_false, Bool.or_eq_false_iff, beq_eq_false_iff_ne, ne_eq] at h3); (simp [h1, h2, h3]))) (by first | assumption | l_ints) (by k_extra "nend")))
  k_with "MY_NE" => first | assumption | exact Ne.symm (by assumption) | ((rename (∀ p ∈ _, Prod.fst p ≠ _) => hq7); exact fun e => hq7 (_, _) (by k_mem) e.symm) | ((rename (∀ p ∈ _, Prod.fst p ≠ _) => hq7); exact fun e => hq7 (_, _) (by k_mem) e)
  k_with "execs cons Assign cons" => refine wpAny_execs_cons ?_
  k_with "MY_NE2" => k_dflt (rename (∀ p : Addr × Obj, p ∈ (_ : List (Addr × Obj)) → Prod.fst p ≠ _) => h9; first | (apply neOf h9; k_mem) | (apply neOf' h9; k_mem) | (clear h9; k_extra "MY_NE2"))
  k_with "MY_KNE" => (refine neN ?_; (try dsimp only); first | k_extra "MY_NE2" | omega)
  k_with "MY_OM" => with_reducible first | assumption | ((show @LT.lt Nat _ _ _); first | exact Nat.lt_of_lt_of_le (by assumption) (by decide) | exact Nat.lt_of_le_of_lt (by assumption) (by decide) | fail) | ((show @LE.le Nat _ _ _); first | exact Nat.le_of_lt (Nat.lt_of_lt_of_le (by assumption) (by decide)) | exact Nat.le_trans (by assumption) (by decide) | fail) | ((show @LT.lt Int _ _ _); first | exact Int.lt_of_lt_of_le (by assumption) (by decide) | exact Int.lt_of_le_of_lt (by assumption) (by decide) | exact ltlo (by assumption) (by decide) | exact Int.lt_of_lt_of_le (Int.lt_of_lt_of_le (by assumption) (by assumption)) (by decide) | fail) | ((show @LE.le Int _ _ _); first | exact lelo (by assumption) (by decide) | exact Int.le_trans (by assumption) (by decide) | fail) | fail
  k_with "call ref" => (k_here; (with_reducible show wpAny _ _ (call (Value.ref 35) _) _ _ _); (with_unfolding_all refine CL.use (mtrim_c (by exact Ok.keeps (by assumption) (Fr.keep (by assumption))) (by is_list) (by first | l_ints | l_intsW) (by first | assumption | k_extra "MY_FIT" | l_fit)) (by assumption) (by assumption) (by rfl) (by exact Nat.le_of_ble_eq_true rfl) (by exact Nat.le_of_ble_eq_true rfl) ?_; k_whole); intro r' us' n' h' tk' F' N' hne' hi'; (try k_sweep))
  k_with "exec While Compare cons nil" => (k_here; (rename Fr _ _ _ _ => lF'); (rename News _ _ _ _ => lN'); (with_unfolding_all refine' ksw_while (fun c : XS => [(c.b, tup3 c.y0 c.y1 c.y2 c.t3 c.t4 c.t5), (c.a, tup3 c.x0 c.x1 c.x2 c.t0 c.t1 c.t2)]) (fun c : XS => [(Str.ofString "one", Value.ref c.a), (Str.ofString "other", Value.ref c.b)]) (fun _ => True) [Str.ofString "times", Str.ofString "rest"] (fun c : XS => XP _ _ (c.x0, c.x1, c.x2, c.y0, c.y1, c.y2)) (fun c : XS => c.y0.toNat) ⟨_, _, _, _, _, _, _, _, _, _, _, _, _, _⟩ lF' ?kn trivial ?kk ?kp ?_); (case kk => exact List.forall_mem_cons.mpr ⟨by with_unfolding_all rfl, List.forall_mem_cons.mpr ⟨by with_unfolding_all rfl, List.forall_mem_nil _⟩⟩); (case kn => exact kst_newsOf lN' (List.forall_mem_cons.mpr ⟨by k_mem, List.forall_mem_cons.mpr ⟨by k_mem, List.forall_mem_nil _⟩⟩)); (case kp => exact xp0 _ _); (clear lF' lN'); (rintro ⟨a1, b1, x0, x1, x2, y0, y1, y2, t0, t1, t2, t3, t4, t5⟩ u1 h1 tk1 - hP1 F1 N1); (dsimp only at hP1 F1 N1 ⊢); (obtain ⟨hx0, hx7, hy0, hy7, hq0, hq7⟩ := xp_facts (by assumption) hP1); (try k_fold))
  k_with "call ref" => (k_here; (with_unfolding_all refine CT.use (ext_t (by exact Ok.keeps (by assumption) (Fr.keep (by assumption))) (by k_extra "MY_FACT")) (by assumption) (by assumption) (by rfl) (by exact Nat.le_of_ble_eq_true rfl) (by exact Nat.le_of_ble_eq_true rfl) ?_; k_whole); intro r' x' y' z' t' u' v' h' tk' F' N' hne' hi'; (obtain ⟨hx1, hy1⟩ := hi'); subst hx1; (try k_sweep))
  k_with "MY_FACT" => (rw [mod_small (by assumption) (by assumption)]; exact okp_of (by assumption) (by assumption) (by assumption))
  walk_at "MY_ENTER"
  k_steps
  walk_at "MY_RETI"
  rename (Int.fmod _ _ = invF _ _) => he
  rw [mod_small (a := a) h0 h1] at he
  exact he
end
section
noncomputable def mulO (p : Int) (a b : List Int) (i : Nat) : List Int := (a.zipIdx.take i).foldl (mulTurn p b) (List.replicate (a.length + b.length - 1) 0)
noncomputable def mulI (p one : Int) (at' : Nat) (b f : List Int) (j : Nat) : List Int := (b.zipIdx.take j).foldl (mulStep p one at') f
theorem take_zip {a : List Int} {i : Nat} {x : Int} (h : a[i]? = some x) : a.zipIdx.take (i + 1) = a.zipIdx.take i ++ [(x, i)] := by
  rw [List.take_add_one]
  simp [List.getElem?_zipIdx, h]
theorem mulO_succ {p : Int} {a b : List Int} {i : Nat} {x : Int} (h : a[i]? = some x) : mulO p a b (i + 1) = mulTurn p b (mulO p a b i) (x, i) := by
  unfold mulO
  rw [take_zip h, List.foldl_append]
  rfl
theorem mulI_succ {p one : Int} {at' : Nat} {b f : List Int} {j : Nat} {y : Int} (h : b[j]? = some y) : mulI p one at' b f (j + 1) = mulStep p one at' (mulI p one at' b f j) (y, j) := by
  unfold mulI
  rw [take_zip h, List.foldl_append]
  rfl
theorem mulI_all {p one : Int} {at' : Nat} {b f : List Int} : mulI p one at' b f b.length = mulInn p one at' b f := by
  unfold mulI mulInn
  rw [List.take_of_length_le (by simp)]
theorem mulO_all {p : Int} {a b : List Int} : mulO p a b a.length = mulRaw a b p := by
  unfold mulO mulRaw
  rw [List.take_of_length_le (by simp)]
theorem flat_one {α : Type} (k : Nat) (x : α) : (List.replicate k [x]).flatten = List.replicate k x := by
  induction k with
  | zero => rfl
  | succ k ih => rw [List.replicate_succ, List.flatten_cons, ih]; rfl
theorem mul_0 {p : Int} {a b : List Int} : (List.replicate ((a.length : Int) + b.length - 1).toNat [(0 : Int)]).flatten = mulO p a b 0 ∧ (List.replicate ((a.length : Int) + b.length - 1).toNat [(0 : Int)]).flatten.length = a.length + b.length - 1 := by
  rw [flat_one]
  have e : ((a.length : Int) + b.length - 1).toNat = a.length + b.length - 1 := by omega
  rw [e]
  exact ⟨rfl, List.length_replicate⟩
theorem mul_i {p one y : Int} {at' j N : Nat} {b f0 fs : List Int} (h : fs = mulI p one at' b f0 j) (hl : fs.length = N) (hg : b[j]? = some y) :
    fs.set ((at' : Int) + (j : Int)).toNat (Int.fmod (fs.getD ((at' : Int) + (j : Int)).toNat 0 + one * y) p) = mulI p one at' b f0 (j + 1) ∧ (fs.set ((at' : Int) + (j : Int)).toNat (Int.fmod (fs.getD ((at' : Int) + (j : Int)).toNat 0 + one * y) p)).length = N := by
  have e : ((at' : Int) + (j : Int)).toNat = at' + j := by omega
  rw [e, mulI_succ hg, ← h]
  exact ⟨rfl, by rw [List.length_set]; exact hl⟩
theorem mul_o0 {p one : Int} {i N : Nat} {a b fs : List Int} (h : fs = mulO p a b i) (hl : fs.length = N) (hg : a[i]? = some one) (h0 : one = 0) : fs = mulO p a b (i + 1) ∧ fs.length = N := by
  refine ⟨?_, hl⟩
  rw [mulO_succ hg, ← h]
  unfold mulTurn
  rw [if_pos h0]
theorem mul_o1 {p one : Int} {i N : Nat} {a b fs fs2 : List Int} (h : fs = mulO p a b i) (hg : a[i]? = some one) (h0 : one ≠ 0) (h2 : fs2 = mulI p one i b fs b.length) (hl : fs2.length = N) : fs2 = mulO p a b (i + 1) ∧ fs2.length = N := by
  refine ⟨?_, hl⟩
  rw [mulO_succ hg, ← h, h2, mulI_all]
  unfold mulTurn
  rw [if_neg h0]
theorem mulF_ne {a b : List Int} {p : Int} (ha : (a.length : Int) ≠ 0) (hb : (b.length : Int) ≠ 0) : mulF a b p = trimF (mulRaw a b p) := by
  rw [mulF, if_neg]
  rintro (rfl | rfl)
  · exact ha rfl
  · exact hb rfl
set_option maxHeartbeats 8000000 in
theorem mmul_c {w : World} {s : Shared} {l1 l2 : Addr} {vs1 vs2 : List Value} {ns1 ns2 : List Int} {p : Int} {t : Tok} (O : Ok w s.heap) (hl1 : s.heap.IsList l1 vs1.toArray) (hi1 : IntsAre vs1 ns1) (hlen1 : ns1.length < 400)
    (hl2 : s.heap.IsList l2 vs2.toArray) (hi2 : IntsAre vs2 ns2) (hlen2 : ns2.length < 400) (hp : 2 ≤ p) (hp7 : p ≤ 7) (hs : Sm p ns1) :
    CL w 800 8000 66 [.ref l1, .ref l2, .int p t] s (mulF ns1 ns2 p) := by
  k_with_none
  w_top off
  k_with "MY_ENTER" => (intro Q E hQ; (obtain ⟨X, loose, mean, mg, mb, T⟩ := (by assumption : Ok _ _)); k_dflt (refine enter (by k_asm) (by exact Top.nolimit (by assumption)) (by k_is) (by k_is) (by decide) (by exact BindsTo.of_eq rfl) (by exact locs rfl) ?_ (by exact rfl) (by exact rfl) (by exact rfl) (by decide); k_whole; intro h' F' N'; (try dsimp only); (try k_fold)))
  k_with "MY_ENTERC" => (intro Q E hQ; (obtain ⟨X, loose, mean, mg, mb, T⟩ := (by assumption : Ok _ _)); k_dflt (refine enterC (by k_asm) (by exact Top.nolimit (by assumption)) (by k_is) (by k_is) (by decide) (by exact BindsTo.of_eq rfl) (by exact rfl) (by decide +kernel) ?_ (by exact rfl) (by exact rfl) (by exact rfl); k_whole; intro h' tk' cells' F' N' Y'; (k_cells Y'); (try simp only [List.cons_append, List.nil_append] at N'); (try dsimp only); (try k_fold)))
  k_with "MY_ZETA" => (dsimp (config := { zetaDelta := true }) only)
  k_with "MY_RET" => ((rename (∀ (h' : Heap) (r : Addr) (us : List Value) (n tk : Nat), (∀ b o, _ = some o → _ = some o) → _) => hq9); (have h9 := CL.ret hq9); (refine h9 _ _ _ _ _ _ _ _ (by assumption) (by assumption) (by k_mem) ?_))
  k_with "MY_RETI" => ((rename (∀ (h' : Heap) (t : Tok) (tk : Nat), (∀ b o, _ = some o → _ = some o) → _) => hq9); (have h9 := CI.ret hq9); (refine h9 _ _ _ _ _ _ (by assumption) ?_))
  k_with "MY_FOR" => (k_here; (rename Fr _ _ _ _ => lF'); (with_unfolding_all refine For_invVF lF' (by exact rfl) (by exact rfl) ?_; k_whole))
  k_with "exec For Name Subscript cons nil" => k_extra "MY_FOR"
  k_with "EnumPost" => (dsimp only [EnumPost])
  k_with "EnumEnd" => ((rename Fr _ _ _ _ => fE'); (rename News _ _ _ _ => nE'); (refine EnumEnd.intro fE' nE' (by k_mem) (by kcj_all) (by kcj_all) (by first | assumption | l_ints) (by (intro z h1 h2 h3; (try simp only [List.contains_cons, List.contains_nil, Bool.or_false, Bool.or_eq_false_iff, beq_eq_false_iff_ne, ne_eq] at h3); (simp [openM, h1, h2, h3]))) (by k_extra "enumend")))
  k_with "DownPost" => (dsimp only [DownPost])
  k_with "DownEnd" => ((rename Fr _ _ _ _ => fE'); (rename News _ _ _ _ => nE'); (refine DownEnd.intro fE' nE' (by k_mem) (by k_mem) (by kcj_all) (by first | assumption | l_ints) (by first | assumption | l_ints) (by (intro z h1 h3; (try simp only [List.contains_cons, List.contains_nil, Bool.or_false, Bool.or_eq_false_iff, beq_eq_false_iff_ne, ne_eq] at h3); (simp [openM, h1, h3]))) (by k_extra "downend")))
  k_with "NPost" => (dsimp only [NPost])
  k_with "NEnd" => ((rename Fr _ _ _ _ => fE'); (rename News _ _ _ _ => nE'); (refine NEnd.intro fE' nE' (by with_unfolding_all rfl) (by k_mem) (by k_mem) (by k_mem) (by k_extra "MY_NE") (by (intro z h1 h2 h3; (try simp only [List.contains_cons, List.contains_nil, Bool.or_false, Bool.or_eq_false_iff, beq_eq_false_iff_ne, ne_eq] at h3); (simp [h1, h2, h3]))) (by first | assumption | l_ints) (by k_extra "nend")))
  k_with "MY_NE" => first | assumption | exact Ne.symm (by assumption) | ((rename (∀ p ∈ _, Prod.fst p ≠ _) => hq7); exact fun e => hq7 (_, _) (by k_mem) e.symm) | ((rename (∀ p ∈ _, Prod.fst p ≠ _) => hq7); exact fun e => hq7 (_, _) (by k_mem) e)
  k_with "execs cons Assign cons" => refine wpAny_execs_cons ?_
  k_with "MY_NE2" => k_dflt (rename (∀ p : Addr × Obj, p ∈ (_ : List (Addr × Obj)) → Prod.fst p ≠ _) => h9; first | (apply neOf h9; k_mem) | (apply neOf' h9; k_mem) | (clear h9; k_extra "MY_NE2"))
  k_with "MY_KNE" => (refine neN ?_; (try dsimp only); first | k_extra "MY_NE2" | omega)
  k_with "MY_OM" => with_reducible first | assumption | ((show @LT.lt Nat _ _ _); first | exact Nat.lt_of_lt_of_le (by assumption) (by decide) | exact Nat.lt_of_le_of_lt (by assumption) (by decide) | fail) | ((show @LE.le Nat _ _ _); first | exact Nat.le_of_lt (Nat.lt_of_lt_of_le (by assumption) (by decide)) | exact Nat.le_trans (by assumption) (by decide) | fail) | ((show @LT.lt Int _ _ _); first | exact Int.lt_of_lt_of_le (by assumption) (by decide) | exact Int.lt_of_le_of_lt (by assumption) (by decide) | exact ltlo (by assumption) (by decide) | exact Int.lt_of_lt_of_le (Int.lt_of_lt_of_le (by assumption) (by assumption)) (by decide) | fail) | ((show @LE.le Int _ _ _); first | exact lelo (by assumption) (by decide) | exact Int.le_trans (by assumption) (by decide) | fail) | fail
  k_with "call ref" => (k_here; (with_reducible show wpAny _ _ (call (Value.ref 35) _) _ _ _); (with_unfolding_all refine CL.use (mtrim_c (by exact Ok.keeps (by assumption) (Fr.keep (by assumption))) (by is_list) (by first | l_ints | l_intsW) (by first | assumption | k_extra "MY_FIT" | l_fit)) (by assumption) (by assumption) (by rfl) (by exact Nat.le_of_ble_eq_true rfl) (by exact Nat.le_of_ble_eq_true rfl) ?_; k_whole); intro r' us' n' h' tk' F' N' hne' hi'; (try k_sweep))
  walk_at "MY_ENTER"
  k_with "pyIter ref" =>
    (with_reducible show wpAny _ _ _ (fun it s₂ => PairAt3 _ _ _ _ _ (Str.ofString "at") _ _ _ _ it s₂) _ _)
    (with_unfolding_all refine' enum_st [Str.ofString "spot", Str.ofString "other"] (fun i fs => fs = mulO p ns1 ns2 i ∧ fs.length = ns1.length + ns2.length - 1) (by assumption) (by assumption) mul_0 ?_ ?_)
    (intro i1 a1 t1 ta1 us1 fs1 n1 u1 h1 tk1 own1 hg1 hlt1 hmem1 hI1 hP1 hoff1 F1 N1; (obtain ⟨hP1, hL1⟩ := hP1); (obtain ⟨hb0, hb1⟩ := hs _ hmem1); have hMk := kstMark; (try k_fold))
    rotate_left
    (intro us1 fs1 n1 u1 h1 tk1 hI1 hP1 F1 N1; (obtain ⟨hP1, hL1⟩ := hP1); have hMk := kstMark; (try k_fold))
    rotate_right
  k_with "pyIter ref" =>
    (with_reducible show wpAny _ _ _ (fun it s₂ => PairAt3 _ _ _ _ _ (Str.ofString "spot") _ _ _ _ it s₂) _ _)
    (with_unfolding_all refine' enum_st [] (fun j fs => fs = mulI p a1 i1 ns2 fs1 j ∧ fs.length = ns1.length + ns2.length - 1) (by assumption) (by assumption) ⟨rfl, by assumption⟩ ?_ ?_)
    (intro i2 a2 t2 ta2 us2 fs2 n2 u2 h2 tk2 own2 hg2 hlt2 hmem2 hI2 hP2 hoff2 F2 N2; (obtain ⟨hP2, hL2⟩ := hP2); (try k_fold))
    rotate_left
    (intro us2 fs2 n2 u2 h2 tk2 hI2 hP2 F2 N2; (obtain ⟨hP2, hL2⟩ := hP2); (try k_fold))
    rotate_right
  k_with "enumend" => first
    | exact mul_i hP2 hL2 hg2
    | exact mul_o1 hP1 hg1 (by assumption) hP2 hL2
    | exact mul_o0 hP1 hL1 hg1 (by omega)
  k_steps
  · k_extra "MY_RET"
    rw [mulF, if_pos (.inl (List.length_eq_zero_iff.mp (by omega)))]
    exact IntsAre.nil
  · k_extra "MY_RET"
    rw [mulF, if_pos (.inr (List.length_eq_zero_iff.mp (by omega)))]
    exact IntsAre.nil
  · k_extra "MY_RET"
    rename IntsAre _ (trimF _) => hT
    rw [hP1, mulO_all] at hT
    rw [mulF_ne (by assumption) (by assumption)]
    exact hT
end
section
set_option maxHeartbeats 8000000 in
theorem msub_c {w : World} {s : Shared} {l1 l2 : Addr} {vs1 vs2 : List Value} {ns1 ns2 : List Int} {p : Int} {t : Tok} (O : Ok w s.heap) (hl1 : s.heap.IsList l1 vs1.toArray) (hi1 : IntsAre vs1 ns1) (hlen1 : ns1.length < 800)
    (hl2 : s.heap.IsList l2 vs2.toArray) (hi2 : IntsAre vs2 ns2) (hlen2 : ns2.length < 800) (hp : 2 ≤ p) :
    CL w 700 7000 54 [.ref l1, .ref l2, .int p t] s (subF ns1 ns2 p) := by
  k_with_none
  w_top off
  k_with "MY_ENTER" => (intro Q E hQ; (obtain ⟨X, loose, mean, mg, mb, T⟩ := (by assumption : Ok _ _)); k_dflt (refine enter (by k_asm) (by exact Top.nolimit (by assumption)) (by k_is) (by k_is) (by decide) (by exact BindsTo.of_eq rfl) (by exact locs rfl) ?_ (by exact rfl) (by exact rfl) (by exact rfl) (by decide); k_whole; intro h' F' N'; (try dsimp only); (try k_fold)))
  k_with "MY_ENTERC" => (intro Q E hQ; (obtain ⟨X, loose, mean, mg, mb, T⟩ := (by assumption : Ok _ _)); k_dflt (refine enterC (by k_asm) (by exact Top.nolimit (by assumption)) (by k_is) (by k_is) (by decide) (by exact BindsTo.of_eq rfl) (by exact rfl) (by decide +kernel) ?_ (by exact rfl) (by exact rfl) (by exact rfl); k_whole; intro h' tk' cells' F' N' Y'; (k_cells Y'); (try simp only [List.cons_append, List.nil_append] at N'); (try dsimp only); (try k_fold)))
  k_with "MY_ZETA" => (dsimp (config := { zetaDelta := true }) only)
  k_with "MY_RET" => ((rename (∀ (h' : Heap) (r : Addr) (us : List Value) (n tk : Nat), (∀ b o, _ = some o → _ = some o) → _) => hq9); (have h9 := CL.ret hq9); (refine h9 _ _ _ _ _ _ _ _ (by assumption) (by assumption) (by k_mem) ?_))
  k_with "MY_RETI" => ((rename (∀ (h' : Heap) (t : Tok) (tk : Nat), (∀ b o, _ = some o → _ = some o) → _) => hq9); (have h9 := CI.ret hq9); (refine h9 _ _ _ _ _ _ (by assumption) ?_))
  k_with "MY_FOR" => (k_here; (rename Fr _ _ _ _ => lF'); (with_unfolding_all refine For_invVF lF' (by exact rfl) (by exact rfl) ?_; k_whole))
  k_with "exec For Name Subscript cons nil" => k_extra "MY_FOR"
  k_with "EnumPost" => (dsimp only [EnumPost])
  k_with "EnumEnd" => ((rename Fr _ _ _ _ => fE'); (rename News _ _ _ _ => nE'); (refine EnumEnd.intro fE' nE' (by k_mem) (by kcj_all) (by kcj_all) (by first | assumption | l_ints) (by (intro z h1 h2 h3; (try simp only [List.contains_cons, List.contains_nil, Bool.or_false, Bool.or_eq_false_iff, beq_eq_false_iff_ne, ne_eq] at h3); (simp [openM, h1, h2, h3]))) (by k_extra "enumend")))
  k_with "DownPost" => (dsimp only [DownPost])
  k_with "DownEnd" => ((rename Fr _ _ _ _ => fE'); (rename News _ _ _ _ => nE'); (refine DownEnd.intro fE' nE' (by k_mem) (by k_mem) (by kcj_all) (by first | assumption | l_ints) (by first | assumption | l_ints) (by (intro z h1 h3; (try simp only [List.contains_cons, List.contains_nil, Bool.or_false, Bool.or_eq_false_iff, beq_eq_false_iff_ne, ne_eq] at h3); (simp [openM, h1, h3]))) (by k_extra "downend")))
  k_with "NPost" => (dsimp only [NPost])
  k_with "NEnd" => ((rename Fr _ _ _ _ => fE'); (rename News _ _ _ _ => nE'); (refine NEnd.intro fE' nE' (by with_unfolding_all rfl) (by k_mem) (by k_mem) (by k_mem) (by k_extra "MY_NE") (by (intro z h1 h2 h3; (try simp only [List.contains_cons, List.contains_nil, Bool.or_false, Bool.or_eq_false_iff, beq_eq_false_iff_ne, ne_eq] at h3); (simp [h1, h2, h3]))) (by first | assumption | l_ints) (by k_extra "nend")))
  k_with "MY_NE" => first | assumption | exact Ne.symm (by assumption) | ((rename (∀ p ∈ _, Prod.fst p ≠ _) => hq7); exact fun e => hq7 (_, _) (by k_mem) e.symm) | ((rename (∀ p ∈ _, Prod.fst p ≠ _) => hq7); exact fun e => hq7 (_, _) (by k_mem) e)
  k_with "execs cons Assign cons" => refine wpAny_execs_cons ?_
  k_with "MY_NE2" => k_dflt (rename (∀ p : Addr × Obj, p ∈ (_ : List (Addr × Obj)) → Prod.fst p ≠ _) => h9; first | (apply neOf h9; k_mem) | (apply neOf' h9; k_mem) | (clear h9; k_extra "MY_NE2"))
  k_with "MY_KNE" => (refine neN ?_; (try dsimp only); first | k_extra "MY_NE2" | omega)
  k_with "MY_OM" => with_reducible first | assumption | ((show @LT.lt Nat _ _ _); first | exact Nat.lt_of_lt_of_le (by assumption) (by decide) | exact Nat.lt_of_le_of_lt (by assumption) (by decide) | fail) | ((show @LE.le Nat _ _ _); first | exact Nat.le_of_lt (Nat.lt_of_lt_of_le (by assumption) (by decide)) | exact Nat.le_trans (by assumption) (by decide) | fail) | ((show @LT.lt Int _ _ _); first | exact Int.lt_of_lt_of_le (by assumption) (by decide) | exact Int.lt_of_le_of_lt (by assumption) (by decide) | exact ltlo (by assumption) (by decide) | exact Int.lt_of_lt_of_le (Int.lt_of_lt_of_le (by assumption) (by assumption)) (by decide) | fail) | ((show @LE.le Int _ _ _); first | exact lelo (by assumption) (by decide) | exact Int.le_trans (by assumption) (by decide) | fail) | fail
  k_with "call ref" => (k_here; (with_reducible show wpAny _ _ (call (Value.ref 42) _) _ _ _); (with_unfolding_all refine CL.use (madd_c (by exact Ok.keeps (by assumption) (Fr.keep (by assumption))) (by is_list) (by first | l_ints | l_intsW) (by first | assumption | k_extra "MY_FIT" | l_fit) (by is_list) (by first | l_ints | l_intsW) (by first | assumption | k_extra "MY_FIT" | l_fit) (by first | assumption | k_extra "MY_FACT" | omega)) (by assumption) (by assumption) (by rfl) (by exact Nat.le_of_ble_eq_true rfl) (by exact Nat.le_of_ble_eq_true rfl) ?_; k_whole); intro r' us' n' h' tk' F' N' hne' hi'; (try k_sweep))
  k_with "call ref" => (k_here; (with_reducible show wpAny _ _ (call (Value.ref 47) _) _ _ _); (with_unfolding_all refine CL.use (mneg_c (by exact Ok.keeps (by assumption) (Fr.keep (by assumption))) (by is_list) (by first | l_ints | l_intsW) (by first | assumption | k_extra "MY_FIT" | l_fit) (by first | assumption | k_extra "MY_FACT" | omega)) (by assumption) (by assumption) (by rfl) (by exact Nat.le_of_ble_eq_true rfl) (by exact Nat.le_of_ble_eq_true rfl) ?_; k_whole); intro r' us' n' h' tk' F' N' hne' hi'; (try k_sweep))
  k_with "MY_FIT" => (simp only [negF, List.length_map] <;> omega)
  walk_at "MY_ENTER"
  k_steps
  walk_at "MY_RET"
  assumption
end
section
noncomputable def polyT (row : List Int) (p : Int) (j : Nat) : Int := 0 - (mapI (fun i x => x * (i : Int) ^ (p.toNat - 2 - j)) row).sum
noncomputable def polyU (row : List Int) (p : Int) (i : Nat) : List Int := row.getD 0 0 :: (List.range i).map (polyT row p)
theorem polyU_len {fs row : List Int} {p : Int} {i : Nat} (h : fs = polyU row p i) : fs.length = i + 1 := by subst h; simp [polyU]
theorem mapI_zip (f : Nat → Int → Int) (l : List Int) : mapI f l = l.zipIdx.map fun x => f x.2 x.1 := rfl
theorem polyU_end {fs row : List Int} {p : Int} {N : Nat} (hN : N = (p - 1 - 1).toNat) (hl : (row.length : Int) = p) (hp : 2 ≤ p) (h : fs = polyU row p N) : trimF (fs.map (fun k => k.fmod p)) = polyF row p := by
  subst h
  unfold polyF polyRaw polyU
  rw [List.map_cons, List.map_map, show p.toNat - 2 = N by omega]
  congr 2
  refine List.map_congr_left fun j _ => ?_
  show Int.fmod (polyT row p j) p = _
  unfold polyT
  rw [mapI_zip, show p.toNat - 2 = N by omega]
theorem polyU_step {fs row : List Int} {p k : Int} {i : Nat} (hl : (row.length : Int) = p) (hk : k = 1 + (i : Int)) (h9 : k < p - 1) (h : fs = polyU row p i) :
    fs ++ [0 - (mapI (fun i x => x * (i : Int) ^ (p - 1 - k).toNat) row).sum] = polyU row p (i + 1) := by
  subst h
  unfold polyU
  rw [List.range_succ, List.map_append, List.cons_append]
  unfold polyT
  rw [show (p - 1 - k).toNat = p.toNat - 2 - i by omega]
  rfl
theorem trimF_snoc0 : ∀ (l : List Int), trimF (l ++ [0]) = trimF l
  | [] => by simp [trimF]
  | a :: l => by
    rw [List.cons_append]
    unfold trimF
    rw [trimF_snoc0 l]
theorem last_cut {fs : List Int} (h0 : 0 < fs.length) (hb : fs.getD (-1 + (fs.length : Int)).toNat 0 = 0) : fs = fs.dropLast ++ [0] := by
  rw [show (-1 + (fs.length : Int)).toNat = fs.length - 1 by omega] at hb
  have hne : fs ≠ [] := fun e => by rw [e] at h0; exact absurd h0 (Nat.lt_irrefl _)
  conv => lhs; rw [← List.dropLast_concat_getLast hne]
  rw [List.getLast_eq_getElem]
  rw [List.getD_eq_getElem?_getD, List.getElem?_eq_getElem (by omega)] at hb
  simpa using hb
theorem pop_step {fs gs : List Int} (h : trimF fs = gs ∧ fs.length ≤ 10) (h0 : 0 < fs.length) (hb : fs.getD (-1 + (fs.length : Int)).toNat 0 = 0) : (trimF fs.dropLast = gs ∧ fs.dropLast.length ≤ 10) ∧ fs.dropLast.length < fs.length := by
  have hd := last_cut h0 hb
  have hl : fs.dropLast.length = fs.length - 1 := List.length_dropLast
  refine ⟨⟨?_, by omega⟩, by omega⟩
  rw [← h.1]
  conv => rhs; rw [hd]
  rw [trimF_snoc0]
theorem pop_done {fs gs : List Int} (h : trimF fs = gs ∧ fs.length ≤ 10) (h0 : 0 < fs.length) (hb : fs.getD (-1 + (fs.length : Int)).toNat 0 ≠ 0) : fs = gs := by
  rw [show (-1 + (fs.length : Int)).toNat = fs.length - 1 by omega] at hb
  rw [← h.1, ← trimF_take fs fs.length (Nat.le_refl _) (fun j h1 h2 => absurd h1 (by omega)) (.inr hb), List.take_length]
theorem toN {a b : Addr} (h : a ≠ b) : @Ne Nat a b := h
theorem pos_of_trim {fs gs : List Int} (h : trimF fs = gs) (hne : gs ≠ []) : 0 < fs.length := by
  cases fs with
  | nil => exact absurd (by rw [← h]; rfl) hne
  | cons a l => simp
set_option maxHeartbeats 8000000 in
theorem poly_c {w : World} {s : Shared} {l1 : Addr} {vs1 : List Value} {ns1 : List Int} {p : Int} {t0 : Tok} (O : Ok w s.heap) (hl1 : s.heap.IsList l1 vs1.toArray) (hi1 : IntsAre vs1 ns1) (hlen1 : (ns1.length : Int) = p)
    (hp : Pr p) (hs : Sm p ns1) (hne : polyF ns1 p ≠ []) :
    CL w 800 8000 128 [.ref l1, .int p t0] s (polyF ns1 p) := by
  have hsx : ∀ x ∈ ns1, 0 ≤ x ∧ x < p := hs
  have hp2 := hp.two
  have hp7 := hp.le7
  obtain ⟨N, hN⟩ : ∃ N, N = (p - 1 - 1).toNat := ⟨_, rfl⟩
  k_with_none
  w_top off
  k_with "MY_ENTER" => (intro Q E hQ; (obtain ⟨X, loose, mean, mg, mb, T⟩ := (by assumption : Ok _ _)); k_dflt (refine enter (by k_asm) (by exact Top.nolimit (by assumption)) (by k_is) (by k_is) (by decide) (by exact BindsTo.of_eq rfl) (by exact locs rfl) ?_ (by exact rfl) (by exact rfl) (by exact rfl) (by decide); k_whole; intro h' F' N'; (try dsimp only); (try k_fold)))
  k_with "MY_ENTERC" => (intro Q E hQ; (obtain ⟨X, loose, mean, mg, mb, T⟩ := (by assumption : Ok _ _)); k_dflt (refine enterC (by k_asm) (by exact Top.nolimit (by assumption)) (by k_is) (by k_is) (by decide) (by exact BindsTo.of_eq rfl) (by exact rfl) (by decide +kernel) ?_ (by exact rfl) (by exact rfl) (by exact rfl); k_whole; intro h' tk' cells' F' N' Y'; (k_cells Y'); (try simp only [List.cons_append, List.nil_append] at N'); (try dsimp only); (try k_fold)))
  k_with "MY_ZETA" => (dsimp (config := { zetaDelta := true }) only)
  k_with "MY_RET" => ((rename (∀ (h' : Heap) (r : Addr) (us : List Value) (n tk : Nat), (∀ b o, _ = some o → _ = some o) → _) => hq9); (have h9 := CL.ret hq9); (refine h9 _ _ _ _ _ _ _ _ (by assumption) (by assumption) (by k_mem) ?_))
  k_with "MY_RETI" => ((rename (∀ (h' : Heap) (t : Tok) (tk : Nat), (∀ b o, _ = some o → _ = some o) → _) => hq9); (have h9 := CI.ret hq9); (refine h9 _ _ _ _ _ _ (by assumption) ?_))
  k_with "MY_FOR" => (k_here; (rename Fr _ _ _ _ => lF'); (with_unfolding_all refine For_invVF lF' (by exact rfl) (by exact rfl) ?_; k_whole))
  k_with "exec For Name Subscript cons nil" => k_extra "MY_FOR"
  k_with "EnumPost" => (dsimp only [EnumPost])
  k_with "EnumEnd" => ((rename Fr _ _ _ _ => fE'); (rename News _ _ _ _ => nE'); (refine EnumEnd.intro fE' nE' (by k_mem) (by kcj_all) (by kcj_all) (by first | assumption | l_ints) (by (intro z h1 h2 h3; (try simp only [List.contains_cons, List.contains_nil, Bool.or_false, Bool.or_eq_false_iff, beq_eq_false_iff_ne, ne_eq] at h3); (simp [openM, h1, h2, h3]))) (by k_extra "enumend")))
  k_with "DownPost" => (dsimp only [DownPost])
  k_with "DownEnd" => ((rename Fr _ _ _ _ => fE'); (rename News _ _ _ _ => nE'); (refine DownEnd.intro fE' nE' (by k_mem) (by k_mem) (by kcj_all) (by first | assumption | l_ints) (by first | assumption | l_ints) (by (intro z h1 h3; (try simp only [List.contains_cons, List.contains_nil, Bool.or_false, Bool.or_eq_false_iff, beq_eq_false_iff_ne, ne_eq] at h3); (simp [openM, h1, h3]))) (by k_extra "downend")))
  k_with "NPost" => (dsimp only [NPost])
  k_with "NEnd" => ((rename Fr _ _ _ _ => fE'); (rename News _ _ _ _ => nE'); (refine NEnd.intro fE' nE' (by with_unfolding_all rfl) (by k_mem) (by k_mem) (by k_mem) (by k_extra "MY_NE") (by (intro z h1 h2 h3; (try simp only [List.contains_cons, List.contains_nil, Bool.or_false, Bool.or_eq_false_iff, beq_eq_false_iff_ne, ne_eq] at h3); (simp [h1, h2, h3]))) (by first | assumption | l_ints) (by k_extra "nend")))
  k_with "MY_NE" => first | assumption | exact Ne.symm (by assumption) | ((rename (∀ p ∈ _, Prod.fst p ≠ _) => hq7); exact fun e => hq7 (_, _) (by k_mem) e.symm) | ((rename (∀ p ∈ _, Prod.fst p ≠ _) => hq7); exact fun e => hq7 (_, _) (by k_mem) e)
  k_with "execs cons Assign cons" => refine wpAny_execs_cons ?_
  k_with "MY_NE2" => k_dflt (rename (∀ p : Addr × Obj, p ∈ (_ : List (Addr × Obj)) → Prod.fst p ≠ _) => h9; first | (apply neOf h9; k_mem) | (apply neOf' h9; k_mem) | (clear h9; k_extra "MY_NE2"))
  k_with "MY_KNE" => (refine neN ?_; (try dsimp only); first | k_extra "MY_NE2" | omega)
  k_with "MY_OM" => with_reducible first | assumption | ((show @LT.lt Nat _ _ _); first | exact Nat.lt_of_lt_of_le (by assumption) (by decide) | exact Nat.lt_of_le_of_lt (by assumption) (by decide) | fail) | ((show @LE.le Nat _ _ _); first | exact Nat.le_of_lt (Nat.lt_of_lt_of_le (by assumption) (by decide)) | exact Nat.le_trans (by assumption) (by decide) | fail) | ((show @LT.lt Int _ _ _); first | exact Int.lt_of_lt_of_le (by assumption) (by decide) | exact Int.lt_of_le_of_lt (by assumption) (by decide) | exact ltlo (by assumption) (by decide) | exact Int.lt_of_lt_of_le (Int.lt_of_lt_of_le (by assumption) (by assumption)) (by decide) | fail) | ((show @LE.le Int _ _ _); first | exact lelo (by assumption) (by decide) | exact Int.le_trans (by assumption) (by decide) | fail) | fail
  k_with "call ref" => (k_here; (with_reducible show wpAny _ _ (call (Value.ref 35) _) _ _ _); (with_unfolding_all refine CL.use (mtrim_c (by exact Ok.keeps (by assumption) (Fr.keep (by assumption))) (by is_list) (by first | l_ints | l_intsW) (by first | assumption | k_extra "MY_FIT" | l_fit)) (by assumption) (by assumption) (by rfl) (by exact Nat.le_of_ble_eq_true rfl) (by exact Nat.le_of_ble_eq_true rfl) ?_; k_whole); intro r' us' n' h' tk' F' N' hne' hi'; (try k_sweep))
  k_with "exec For Name Call cons nil" => (with_unfolding_all refine wpAny_For ?_ (by (intro _; rfl)))
  k_with "call type:enumerate" => k_extra "enum"
  k_with "call builtin:list.append" => k_extra "app"
  k_with "CPost" => (dsimp only [CPost])
  k_with "CEnd" => ((rename Fr _ _ _ _ => fE'); (rename News _ _ _ _ => nE'); (try simp only [List.push_toArray] at nE'); (refine CEnd.intro fE' nE' (by k_mem) (by k_mem) (by kcj_all) (by k_mem) (by first | l_ints | exact IntsAre.append (by assumption) (IntsAre.cons _ _ IntsAre.nil)) (by k_extra "cend")))
  k_with "PopPost" => (dsimp only [PopPost])
  k_with "PopEnd" => ((rename Fr _ _ _ _ => fE'); (rename News _ _ _ _ => nE'); (refine PopEnd.intro fE' nE' (by k_mem) (by kcj_all) (by first | l_ints | assumption) (by k_extra "popend")))
  walk_at "MY_ENTERC"
  k_with "pyIter ref" =>
    (rename Fr _ _ _ _ => lF')
    (rename News _ _ _ _ => lN')
    (with_unfolding_all refine' cellrange_st (rest := [(s.heap.objs.size + 1, _)]) N (fun i fs => fs = polyU ns1 p i) rfl rfl rfl rfl (by assumption) hN (by omega) (by omega) (by omega) (by omega) lF' lN' (by k_mem) (by k_mem) (by assumption) (List.forall_mem_cons.mpr ⟨by k_mem, List.forall_mem_nil _⟩) (by k_ne) (by k_all) (by l_intsW) rfl ?_ ?_ (by passes_own))
    (clear lF' lN')
    (intro i1 k1 t1 us1 fs1 n1 oc1 h1 tk1 I1 oI1 hk1 hlt1 hI1 hP1 hoc1 hneI F1 N1)
    (have hneJ := toN (hneI _ List.mem_cons_self))
    (dsimp only at hneJ)
    (have hk0 : 0 < k1 := by omega)
    (have hk9 : k1 < p - 1 := by omega)
    (have hfl := polyU_len hP1)
    (have hul := hI1.length)
    (have hul2 : us1.length ≤ 20 := by omega)
    (simp only [List.cons_append, List.nil_append] at N1)
    (try k_fold)
    rotate_left
    (intro us1 fs1 n1 oc1 vc1 h1 tk1 hI1 hP1 hoc1 F1 N1)
    (have hfl := polyU_len hP1)
    (have hul := hI1.length)
    (have hul2 : us1.length ≤ 20 := by omega)
    (try k_fold)
    rotate_right
  k_with "app" =>
    (rename Fr _ _ _ _ => lF')
    (rename News _ _ _ _ => lN')
    (with_unfolding_all refine' append_K lF' lN' (by k_upd) ?_ (by size_fits))
    (intro h' F' N')
  k_with "eval ListComp" =>
    (rename Fr _ _ _ _ => lF')
    (with_unfolding_all refine' comp_enum lF' (by rfl) (by decide) (by rfl) (by decide) (by rfl) (by rfl) (by decide) ?_ (fun _ => rfl))
  k_with "enum" =>
    (rename Fr _ _ _ _ => lF')
    (rename News _ _ _ _ => lN')
    (with_unfolding_all refine' enum_src (fun i x => x * (i : Int) ^ (p - 1 - k1).toNat) rfl hl1 hi1 (by omega) lF' lN' ?_ ?_)
    · intro C i x t tx s₃ m₃ E' hgx hix hmx hns hma hmb F3 N3
      have hx0 := (hsx x hmx).1
      have hx1 := (hsx x hmx).2
      with_unfolding_all refine wpAny_BinOp (wpAny_Name (wpAny_loadName_local (by with_unfolding_all rfl) (by with_unfolding_all rfl) hns hmb ?_) (by decide))
      with_unfolding_all refine wpAny_BinOp (wpAny_Name (wpAny_loadName_local (by with_unfolding_all rfl) (by with_unfolding_all rfl) hns hma ?_) (by decide))
      with_unfolding_all refine wpAny_BinOp (wpAny_BinOp (wpAny_Name (wpAny_loadName_cell (v := .int p t0) (by with_unfolding_all rfl) (by with_unfolding_all rfl) (by with_unfolding_all rfl) ⟨_, (N3 (s.heap.objs.size + 1, _) (by k_mem)).1, by with_unfolding_all assumption⟩ ?_) (by decide)))
      with_unfolding_all refine wpAny_Constant_int ?_
      with_unfolding_all refine sub_int ?_
      with_unfolding_all refine wpAny_Name (wpAny_loadName_cell (by with_unfolding_all rfl) (by with_unfolding_all rfl) (by with_unfolding_all rfl) ⟨_, (N3 (s.heap.objs.size + 1 + 1, oc1) (by k_mem)).1, hoc1⟩ ?_) (by decide)
      with_unfolding_all refine sub_int ?_
      with_unfolding_all refine pow_int_small (by omega) (by omega) (by omega) ?_
      with_unfolding_all refine mul_int ?_ (PySem.IntMulOk.of_left (PySem.intBits_le_64 (by omega) (by omega)))
      with_unfolding_all exact ⟨⟨_, rfl⟩, _, _, rfl, fun _ _ q => q⟩
    (intro D2 h2 tk2 ys2 F2 N2 hne2 hI2)
    (have hne3 := toN (hne2 _ List.mem_cons_self))
    (dsimp only at hne3)
    (clear hne2)
    (try k_fold)
  k_with "exec While Compare cons nil" =>
    (rename Fr _ _ _ _ => lF')
    (rename News _ _ _ _ => lN')
    (with_unfolding_all refine' pop_while [] (fun fs => trimF fs = polyF ns1 p ∧ fs.length ≤ 10) lF' lN' (by k_mem) (List.forall_mem_nil _) (by assumption) (by exact ⟨polyU_end hN hlen1 hp2 hP1, by rw [List.length_map]; omega⟩) ?_ (by passes_own))
    (clear lF' lN')
    (intro us2 fs2 n2 h2 tk2 hI2 hP2 F2 N2)
    (have hu2 := hI2.length)
    (have hf2 : 0 < fs2.length := pos_of_trim hP2.1 hne)
    (have hf3 : us2.length ≤ 10 := by rw [hu2]; exact hP2.2)
    (have hf4 : 0 < us2.length := by omega)
    (try k_fold)
  k_with "cend" => exact polyU_step hlen1 hk1 hk9 hP1
  k_with "popend" => exact pop_step hP2 hf2 (by assumption)
  k_steps
  walk_at "MY_RET"
  rw [← pop_done hP2 hf2 (by assumption)]
  assumption
end
section
set_option maxHeartbeats 8000000 in
theorem take_c {w : World} {s : Shared} {h₀ : Heap} {B SL : Addr} {vs : List Value} {ns : List Int} {k many : Int} {t tm : Tok} {n : Nat} (hi : IntsAre vs ns) (hlen : ns.length ≤ 63) (hk0 : 0 ≤ k) (hk1 : k < 1000) (hm0 : 0 < many) (hm7 : many ≤ 7)
    (hO : Ok w h₀) (O : Off h₀ s.heap B) (hB : s.heap.get? B = some (listOf #[.ref SL, .int k t] n)) (hl : h₀.IsList SL vs.toArray) :
    BT w 900 9000 116 [.ref B, .int many tm] s B SL (k + 1) many := by
  k_with_none
  w_top off
  k_with "MY_ENTER" => (intro Q E hQ; (obtain ⟨X, loose, mean, mg, mb, T⟩ := (by assumption : Ok _ _)); k_dflt (refine enter (by k_asm) (by exact Top.nolimit (by assumption)) (by k_is) (by k_is) (by decide) (by exact BindsTo.of_eq rfl) (by exact locs rfl) ?_ (by exact rfl) (by exact rfl) (by exact rfl) (by decide); k_whole; intro h' F' N'; (try dsimp only); (try k_fold)))
  k_with "MY_ENTERC" => (intro Q E hQ; (obtain ⟨X, loose, mean, mg, mb, T⟩ := (by assumption : Ok _ _)); k_dflt (refine enterC (by k_asm) (by exact Top.nolimit (by assumption)) (by k_is) (by k_is) (by decide) (by exact BindsTo.of_eq rfl) (by exact rfl) (by decide +kernel) ?_ (by exact rfl) (by exact rfl) (by exact rfl); k_whole; intro h' tk' cells' F' N' Y'; (k_cells Y'); (try simp only [List.cons_append, List.nil_append] at N'); (try dsimp only); (try k_fold)))
  k_with "MY_ZETA" => (dsimp (config := { zetaDelta := true }) only)
  k_with "MY_RET" => ((rename (∀ (h' : Heap) (r : Addr) (us : List Value) (n tk : Nat), (∀ b o, _ = some o → _ = some o) → _) => hq9); (have h9 := CL.ret hq9); (refine h9 _ _ _ _ _ _ _ _ (by assumption) (by assumption) (by k_mem) ?_))
  k_with "MY_RETI" => ((rename (∀ (h' : Heap) (t : Tok) (tk : Nat), (∀ b o, _ = some o → _ = some o) → _) => hq9); (have h9 := CI.ret hq9); (refine h9 _ _ _ _ _ _ (by assumption) ?_))
  k_with "MY_FOR" => (k_here; (rename Fr _ _ _ _ => lF'); (with_unfolding_all refine For_invVF lF' (by exact rfl) (by exact rfl) ?_; k_whole))
  k_with "exec For Name Subscript cons nil" => k_extra "MY_FOR"
  k_with "EnumPost" => (dsimp only [EnumPost])
  k_with "EnumEnd" => ((rename Fr _ _ _ _ => fE'); (rename News _ _ _ _ => nE'); (refine EnumEnd.intro fE' nE' (by k_mem) (by kcj_all) (by kcj_all) (by first | assumption | l_ints) (by (intro z h1 h2 h3; (try simp only [List.contains_cons, List.contains_nil, Bool.or_false, Bool.or_eq_false_iff, beq_eq_false_iff_ne, ne_eq] at h3); (simp [openM, h1, h2, h3]))) (by k_extra "enumend")))
  k_with "DownPost" => (dsimp only [DownPost])
  k_with "DownEnd" => ((rename Fr _ _ _ _ => fE'); (rename News _ _ _ _ => nE'); (refine DownEnd.intro fE' nE' (by k_mem) (by k_mem) (by kcj_all) (by first | assumption | l_ints) (by first | assumption | l_ints) (by (intro z h1 h3; (try simp only [List.contains_cons, List.contains_nil, Bool.or_false, Bool.or_eq_false_iff, beq_eq_false_iff_ne, ne_eq] at h3); (simp [openM, h1, h3]))) (by k_extra "downend")))
  k_with "NPost" => (dsimp only [NPost])
  k_with "NEnd" => ((rename Fr _ _ _ _ => fE'); (rename News _ _ _ _ => nE'); (refine NEnd.intro fE' nE' (by with_unfolding_all rfl) (by k_mem) (by k_mem) (by k_mem) (by k_extra "MY_NE") (by (intro z h1 h2 h3; (try simp only [List.contains_cons, List.contains_nil, Bool.or_false, Bool.or_eq_false_iff, beq_eq_false_iff_ne, ne_eq] at h3); (simp [h1, h2, h3]))) (by first | assumption | l_ints) (by k_extra "nend")))
  k_with "MY_NE" => first | assumption | exact Ne.symm (by assumption) | ((rename (∀ p ∈ _, Prod.fst p ≠ _) => hq7); exact fun e => hq7 (_, _) (by k_mem) e.symm) | ((rename (∀ p ∈ _, Prod.fst p ≠ _) => hq7); exact fun e => hq7 (_, _) (by k_mem) e)
  k_with "execs cons Assign cons" => refine wpAny_execs_cons ?_
  k_with "MY_NE2" => k_dflt (rename (∀ p : Addr × Obj, p ∈ (_ : List (Addr × Obj)) → Prod.fst p ≠ _) => h9; first | (apply neOf h9; k_mem) | (apply neOf' h9; k_mem) | (clear h9; k_extra "MY_NE2"))
  k_with "MY_KNE" => (refine neN ?_; (try dsimp only); first | k_extra "MY_NE2" | omega)
  k_with "MY_OM" => with_reducible first | assumption | ((show @LT.lt Nat _ _ _); first | exact Nat.lt_of_lt_of_le (by assumption) (by decide) | exact Nat.lt_of_le_of_lt (by assumption) (by decide) | fail) | ((show @LE.le Nat _ _ _); first | exact Nat.le_of_lt (Nat.lt_of_lt_of_le (by assumption) (by decide)) | exact Nat.le_trans (by assumption) (by decide) | fail) | ((show @LT.lt Int _ _ _); first | exact Int.lt_of_lt_of_le (by assumption) (by decide) | exact Int.lt_of_le_of_lt (by assumption) (by decide) | exact ltlo (by assumption) (by decide) | exact Int.lt_of_lt_of_le (Int.lt_of_lt_of_le (by assumption) (by assumption)) (by decide) | fail) | ((show @LE.le Int _ _ _); first | exact lelo (by assumption) (by decide) | exact Int.le_trans (by assumption) (by decide) | fail) | fail
  k_with "MY_ENTERB" => (intro Q E hQ; (obtain ⟨X, loose, mean, mg, mb, T⟩ := (by assumption : Ok _ _)); k_dflt (refine enterB (by k_asm) (by exact Top.nolimit (by assumption)) (by assumption) (by assumption) (by k_is) (by k_is) (by decide) (by exact BindsTo.of_eq rfl) (by exact locs rfl) ?_ (by exact rfl) (by exact rfl) (by exact rfl) (by decide); k_whole; intro h' F' N'; (try dsimp only); (try k_fold)))
  walk_at "MY_ENTERB"
  k_steps
  all_goals exact BT.ret O (by assumption) _ _ _ _ _ _ _ _ _ _ (by assumption) (by assumption) (by k_mem) rfl (fmod_bd _ hm0)
end
section
/-- rest and quotient behind i turns, of N -/
noncomputable def divP (p turn : Int) (b : List Int) (N : Nat) (rq : List Int × List Int) : Nat → List Int × List Int
  | 0 => rq
  | i + 1 => divTurn p turn b (divP p turn b N rq i) (N - 1 - i)
noncomputable def divI (p num : Int) (at' : Nat) (b f : List Int) (j : Nat) : List Int := (b.zipIdx.take j).foldl (divStep p num at') f
theorem divP_cons (p turn : Int) (b : List Int) (N : Nat) : ∀ (i : Nat) (rq : List Int × List Int), divP p turn b (N + 1) rq (i + 1) = divP p turn b N (divTurn p turn b rq N) i
  | 0, rq => by show divTurn p turn b rq (N + 1 - 1 - 0) = divTurn p turn b rq N; rw [show N + 1 - 1 - 0 = N by omega]
  | i + 1, rq => by
    show divTurn p turn b (divP p turn b (N + 1) rq (i + 1)) (N + 1 - 1 - (i + 1)) = divTurn p turn b (divP p turn b N (divTurn p turn b rq N) i) (N - 1 - i)
    rw [divP_cons p turn b N i rq, show N + 1 - 1 - (i + 1) = N - 1 - i by omega]
theorem divP_all (p turn : Int) (b : List Int) : ∀ (N : Nat) (rq : List Int × List Int), divP p turn b N rq N = divLoop p turn b N rq
  | 0, rq => rfl
  | N + 1, rq => by rw [divP_cons, divP_all p turn b N]; rfl
theorem divI_succ {p one : Int} {at' : Nat} {b f : List Int} {j : Nat} {y : Int} (h : b[j]? = some y) : divI p one at' b f (j + 1) = divStep p one at' (divI p one at' b f j) (y, j) := by
  unfold divI
  rw [take_zip h, List.foldl_append]
  rfl
theorem divI_all {p one : Int} {at' : Nat} {b f : List Int} : divI p one at' b f b.length = divInn p one at' b f := by
  unfold divI divInn
  rw [List.take_of_length_le (by simp)]
theorem div_0 {a b : List Int} {p turn : Int} {N : Nat} (hN : N = ((a.length : Int) - b.length + 1).toNat) :
    (a, (List.replicate (if (a.length : Int) - b.length + 1 > 0 then (a.length : Int) - b.length + 1 else 0).toNat [(0 : Int)]).flatten) = divP p turn b N (a, List.replicate N 0) 0 ∧ a.length = a.length ∧
    (List.replicate (if (a.length : Int) - b.length + 1 > 0 then (a.length : Int) - b.length + 1 else 0).toNat [(0 : Int)]).flatten.length = N := by
  rw [flat_one]
  have e : (if (a.length : Int) - b.length + 1 > 0 then (a.length : Int) - b.length + 1 else 0).toNat = N := by omega
  rw [e]
  exact ⟨rfl, rfl, List.length_replicate⟩
theorem div_i {p num y k : Int} {at' j M : Nat} {b f0 fs : List Int} (hk : k = (at' : Int)) (h : fs = divI p num at' b f0 j) (hl : fs.length = M) (hg : b[j]? = some y) :
    fs.set (k + (j : Int)).toNat (Int.fmod (fs.getD (k + (j : Int)).toNat 0 - num * y) p) = divI p num at' b f0 (j + 1) ∧ (fs.set (k + (j : Int)).toNat (Int.fmod (fs.getD (k + (j : Int)).toNat 0 - num * y) p)).length = M := by
  have e : (k + (j : Int)).toNat = at' + j := by omega
  rw [e, divI_succ hg, ← h]
  exact ⟨rfl, by rw [List.length_set]; exact hl⟩
theorem div_o0 {p turn k : Int} {i N M : Nat} {b fs gs : List Int} {rq : List Int × List Int} (h : (fs, gs) = divP p turn b N rq i) (hl : fs.length = M) (hg : gs.length = N) (hk : k.toNat = N - 1 - i) (hk0 : 0 ≤ k) (hb : 0 < b.length)
    (h0 : Int.fmod (fs.getD (k + (b.length : Int) - 1).toNat 0 * turn) p = 0) :
    (fs, gs.set k.toNat (Int.fmod (fs.getD (k + (b.length : Int) - 1).toNat 0 * turn) p)) = divP p turn b N rq (i + 1) ∧ fs.length = M ∧ (gs.set k.toNat (Int.fmod (fs.getD (k + (b.length : Int) - 1).toNat 0 * turn) p)).length = N := by
  refine ⟨?_, hl, by rw [List.length_set]; exact hg⟩
  show _ = divTurn p turn b (divP p turn b N rq i) (N - 1 - i)
  rw [← h]
  have e : (k + (b.length : Int) - 1).toNat = N - 1 - i + b.length - 1 := by omega
  rw [e] at h0 ⊢
  unfold divTurn
  simp only [h0, hk, if_pos]
theorem div_o1 {p turn k : Int} {i N M : Nat} {b fs gs fs2 : List Int} {rq : List Int × List Int} (h : (fs, gs) = divP p turn b N rq i) (hg : gs.length = N) (hk : k.toNat = N - 1 - i) (hk0 : 0 ≤ k) (hb : 0 < b.length)
    (h0 : Int.fmod (fs.getD (k + (b.length : Int) - 1).toNat 0 * turn) p ≠ 0) (h2 : fs2 = divI p (Int.fmod (fs.getD (k + (b.length : Int) - 1).toNat 0 * turn) p) k.toNat b fs b.length) (hl : fs2.length = M) :
    (fs2, gs.set k.toNat (Int.fmod (fs.getD (k + (b.length : Int) - 1).toNat 0 * turn) p)) = divP p turn b N rq (i + 1) ∧ fs2.length = M ∧ (gs.set k.toNat (Int.fmod (fs.getD (k + (b.length : Int) - 1).toNat 0 * turn) p)).length = N := by
  refine ⟨?_, hl, by rw [List.length_set]; exact hg⟩
  show _ = divTurn p turn b (divP p turn b N rq i) (N - 1 - i)
  rw [← h]
  have e : (k + (b.length : Int) - 1).toNat = N - 1 - i + b.length - 1 := by omega
  rw [e] at h0 h2 ⊢
  rw [divI_all] at h2
  unfold divTurn
  simp only [if_neg h0]
  rw [h2, hk]
theorem div_end {a b fs gs : List Int} {p : Int} {N : Nat} {us : List Value} (hN : N = ((a.length : Int) - b.length + 1).toNat) (hb : 0 < b.length) (h : (fs, gs) = divP p (invF (b.getD ((-1 : Int) + (b.length : Int)).toNat 0) p) b N (a, List.replicate N 0) N)
    (hi : IntsAre us (trimF (fs.take ((b.length : Int) - 1).toNat))) : IntsAre us (restF a b p) := by
  have e : ((-1 : Int) + (b.length : Int)).toNat = b.length - 1 := by omega
  have e2 : ((b.length : Int) - 1).toNat = b.length - 1 := by omega
  have e3 : N = a.length + 1 - b.length := by omega
  rw [divP_all, e] at h
  rw [e2] at hi
  unfold restF divRaw
  rw [← e3, ← h]
  exact hi
theorem div_n {a b N G : Nat} (hN : N = ((a : Int) - b + 1).toNat) (ha : a < 400) (hb : 0 < b) (hG : G = N) : G < 1000 := by omega
theorem div_k2 {a b i1 j N L : Nat} {k : Int} (hk : k = (a : Int) - b - i1) (hk0 : 0 ≤ k) (hk9 : k < 400) (hj : j < b) (hb : b < 400) (hL : L = a) (_ : N = N) : 0 ≤ k + (j : Int) ∧ k + (j : Int) < (L : Int) ∧ k + (j : Int) < 2 ^ 63 := by omega
theorem div_k3 {a b i1 N L G : Nat} {k : Int} (hk : k = (a : Int) - b - i1) (hk0 : 0 ≤ k) (hk9 : k < 400) (hb : b < 400) (hb0 : 0 < b) (ha : a < 400) (hL : L = a) (hG : G = N) (hkk : k.toNat = N - 1 - i1) (hi : i1 < N) : 0 ≤ k + (b : Int) - 1 ∧ k + (b : Int) - 1 < (L : Int) ∧ k + (b : Int) - 1 < 2 ^ 63 ∧ k < (G : Int) := by omega
theorem div_k {N i a b : Nat} {k : Int} (hN : N = ((a : Int) - b + 1).toNat) (ha : a < 400) (hk : k = (a : Int) - b - i) (hi : i < N) : k.toNat = N - 1 - i ∧ 0 ≤ k ∧ k < 400 ∧ (k.toNat : Int) = k := by omega
set_option maxHeartbeats 8000000 in
theorem mdivmod_c {w : World} {s : Shared} {l1 l2 : Addr} {vs1 vs2 : List Value} {ns1 ns2 : List Int} {p : Int} {t : Tok} (O : Ok w s.heap) (hl1 : s.heap.IsList l1 vs1.toArray) (hi1 : IntsAre vs1 ns1) (hlen1 : ns1.length < 400)
    (hl2 : s.heap.IsList l2 vs2.toArray) (hi2 : IntsAre vs2 ns2) (hlen2 : ns2.length < 400) (hp : Pr p) (hne : 0 < ns2.length) (hb0 : 0 < ns2.getD (ns2.length - 1) 0) (hb1 : ns2.getD (ns2.length - 1) 0 < p) :
    CP w 600 6000 73 [.ref l1, .ref l2, .int p t] s (restF ns1 ns2 p) := by
  have hp2 : 2 ≤ p := by rcases hp with rfl | rfl | rfl <;> decide
  have hp7 : p ≤ 7 := by rcases hp with rfl | rfl | rfl <;> decide
  have hidx : ((-1 : Int) + (ns2.length : Int)).toNat = ns2.length - 1 := by omega
  have hb0' : 0 < ns2.getD ((-1 : Int) + (ns2.length : Int)).toNat 0 := by rw [hidx]; exact hb0
  have hb1' : ns2.getD ((-1 : Int) + (ns2.length : Int)).toNat 0 < p := by rw [hidx]; exact hb1
  have hv0 : 0 ≤ invF (ns2.getD ((-1 : Int) + (ns2.length : Int)).toNat 0) p := fmod_lo _ (by omega)
  have hv1 : invF (ns2.getD ((-1 : Int) + (ns2.length : Int)).toNat 0) p < p := fmod_hi _ (by omega)
  obtain ⟨N, hN⟩ : ∃ N, N = ((ns1.length : Int) - ns2.length + 1).toNat := ⟨_, rfl⟩
  k_with_none
  w_top off
  k_with "MY_ENTER" => (intro Q E hQ; (obtain ⟨X, loose, mean, mg, mb, T⟩ := (by assumption : Ok _ _)); k_dflt (refine enter (by k_asm) (by exact Top.nolimit (by assumption)) (by k_is) (by k_is) (by decide) (by exact BindsTo.of_eq rfl) (by exact locs rfl) ?_ (by exact rfl) (by exact rfl) (by exact rfl) (by decide); k_whole; intro h' F' N'; (try dsimp only); (try k_fold)))
  k_with "MY_ENTERC" => (intro Q E hQ; (obtain ⟨X, loose, mean, mg, mb, T⟩ := (by assumption : Ok _ _)); k_dflt (refine enterC (by k_asm) (by exact Top.nolimit (by assumption)) (by k_is) (by k_is) (by decide) (by exact BindsTo.of_eq rfl) (by exact rfl) (by decide +kernel) ?_ (by exact rfl) (by exact rfl) (by exact rfl); k_whole; intro h' tk' cells' F' N' Y'; (k_cells Y'); (try simp only [List.cons_append, List.nil_append] at N'); (try dsimp only); (try k_fold)))
  k_with "MY_ZETA" => (dsimp (config := { zetaDelta := true }) only)
  k_with "MY_RET" => ((rename (∀ (h' : Heap) (r : Addr) (us : List Value) (n tk : Nat), (∀ b o, _ = some o → _ = some o) → _) => hq9); (have h9 := CL.ret hq9); (refine h9 _ _ _ _ _ _ _ _ (by assumption) (by assumption) (by k_mem) ?_))
  k_with "MY_RETI" => ((rename (∀ (h' : Heap) (t : Tok) (tk : Nat), (∀ b o, _ = some o → _ = some o) → _) => hq9); (have h9 := CI.ret hq9); (refine h9 _ _ _ _ _ _ (by assumption) ?_))
  k_with "MY_FOR" => (k_here; (rename Fr _ _ _ _ => lF'); (with_unfolding_all refine For_invVF lF' (by exact rfl) (by exact rfl) ?_; k_whole))
  k_with "exec For Name Subscript cons nil" => k_extra "MY_FOR"
  k_with "EnumPost" => (dsimp only [EnumPost])
  k_with "EnumEnd" => ((rename Fr _ _ _ _ => fE'); (rename News _ _ _ _ => nE'); (refine EnumEnd.intro fE' nE' (by k_mem) (by kcj_all) (by kcj_all) (by first | assumption | l_ints) (by (intro z h1 h2 h3; (try simp only [List.contains_cons, List.contains_nil, Bool.or_false, Bool.or_eq_false_iff, beq_eq_false_iff_ne, ne_eq] at h3); (simp [openM, h1, h2, h3]))) (by k_extra "enumend")))
  k_with "DownPost" => (dsimp only [DownPost])
  k_with "DownEnd" => ((rename Fr _ _ _ _ => fE'); (rename News _ _ _ _ => nE'); (refine DownEnd.intro fE' nE' (by k_mem) (by k_mem) (by kcj_all) (by first | assumption | l_ints) (by first | assumption | l_ints) (by (intro z h1 h3; (try simp only [List.contains_cons, List.contains_nil, Bool.or_false, Bool.or_eq_false_iff, beq_eq_false_iff_ne, ne_eq] at h3); (simp [openM, h1, h3]))) (by k_extra "downend")))
  k_with "NPost" => (dsimp only [NPost])
  k_with "NEnd" => ((rename Fr _ _ _ _ => fE'); (rename News _ _ _ _ => nE'); (refine NEnd.intro fE' nE' (by with_unfolding_all rfl) (by k_mem) (by k_mem) (by k_mem) (by k_extra "MY_NE") (by (intro z h1 h2 h3; (try simp only [List.contains_cons, List.contains_nil, Bool.or_false, Bool.or_eq_false_iff, beq_eq_false_iff_ne, ne_eq] at h3); (simp [h1, h2, h3]))) (by first | assumption | l_ints) (by k_extra "nend")))
  k_with "MY_NE" => first | assumption | exact Ne.symm (by assumption) | ((rename (∀ p ∈ _, Prod.fst p ≠ _) => hq7); exact fun e => hq7 (_, _) (by k_mem) e.symm) | ((rename (∀ p ∈ _, Prod.fst p ≠ _) => hq7); exact fun e => hq7 (_, _) (by k_mem) e)
  k_with "execs cons Assign cons" => refine wpAny_execs_cons ?_
  k_with "MY_NE2" => k_dflt (rename (∀ p : Addr × Obj, p ∈ (_ : List (Addr × Obj)) → Prod.fst p ≠ _) => h9; first | (apply neOf h9; k_mem) | (apply neOf' h9; k_mem) | (clear h9; k_extra "MY_NE2"))
  k_with "MY_KNE" => (refine neN ?_; (try dsimp only); first | k_extra "MY_NE2" | omega)
  k_with "MY_OM" => with_reducible first | assumption | ((show @LT.lt Nat _ _ _); first | exact Nat.lt_of_lt_of_le (by assumption) (by decide) | exact Nat.lt_of_le_of_lt (by assumption) (by decide) | fail) | ((show @LE.le Nat _ _ _); first | exact Nat.le_of_lt (Nat.lt_of_lt_of_le (by assumption) (by decide)) | exact Nat.le_trans (by assumption) (by decide) | fail) | ((show @LT.lt Int _ _ _); first | exact Int.lt_of_lt_of_le (by assumption) (by decide) | exact Int.lt_of_le_of_lt (by assumption) (by decide) | exact ltlo (by assumption) (by decide) | exact Int.lt_of_lt_of_le (Int.lt_of_lt_of_le (by assumption) (by assumption)) (by decide) | fail) | ((show @LE.le Int _ _ _); first | exact lelo (by assumption) (by decide) | exact Int.le_trans (by assumption) (by decide) | fail) | fail
  k_with "call ref" => (k_here; (with_reducible show wpAny _ _ (call (Value.ref 35) _) _ _ _); (with_unfolding_all refine CL.use (mtrim_c (by exact Ok.keeps (by assumption) (Fr.keep (by assumption))) (by is_list) (by first | l_ints | l_intsW) (by first | assumption | k_extra "MY_FIT" | l_fit)) (by assumption) (by assumption) (by rfl) (by exact Nat.le_of_ble_eq_true rfl) (by exact Nat.le_of_ble_eq_true rfl) ?_; k_whole); intro r' us' n' h' tk' F' N' hne' hi'; (try k_sweep))
  k_with "call ref" => (k_here; (with_reducible show wpAny _ _ (call (Value.ref 28) _) _ _ _); (with_unfolding_all refine CI.use (inv_c (by exact Ok.keeps (by assumption) (Fr.keep (by assumption))) (by first | assumption | k_extra "MY_FACT" | omega) (by first | assumption | k_extra "MY_FACT" | omega) (by first | assumption | k_extra "MY_FACT" | omega)) (by assumption) (by assumption) (by rfl) (by exact Nat.le_of_ble_eq_true rfl) (by exact Nat.le_of_ble_eq_true rfl) ?_; k_whole); intro t' h' tk' F' N'; (try k_sweep))
  k_with "MY_MUL" => first | exact PySem.IntMulOk.of_left (PySem.intBits_le_64 (Int.lt_of_lt_of_le (by decide) (fmod_lo _ (by omega))) (Int.lt_trans (fmod_hi _ (by omega)) (by omega))) | exact PySem.IntMulOk.of_right (PySem.intBits_le_64 (by omega) (by omega))
  k_with "exec For Name Call cons nil" => k_extra "MY_FOR"
  walk_at "MY_ENTER"
  k_with "pyIter ref" =>
    (with_reducible show wpAny _ _ _ (fun it s₂ => LoopAtV _ _ _ _ _ (Str.ofString "at") _ _ _ it s₂) _ _)
    (rename Fr _ _ _ _ => lF')
    (rename News _ _ _ _ => lN')
    (with_unfolding_all refine' down_st (us₀ := vs1) N [Str.ofString "number", Str.ofString "spot", Str.ofString "other"] (fun i fs gs => (fs, gs) = divP p (invF (ns2.getD ((-1 : Int) + (ns2.length : Int)).toNat 0) p) ns2 N (ns1, List.replicate N 0) i ∧ fs.length = ns1.length ∧ gs.length = N) rfl (by assumption) hN (by omega) (by omega) lF' lN' (by k_mem) (by k_mem) (by assumption) (by assumption) (div_0 hN) ?_ ?_)
    (clear lF' lN')
    (intro i1 k1 t1 us1 fs1 n1 vs1 gs1 kk1 u1 h1 tk1 own1 hk1 hlt1 hI1 hJ1 hP1 hoff1 F1 N1; (obtain ⟨hP1, hL1, hG1⟩ := hP1); have hMk := kstMark; (repeat (rename (_ < (0 : Int) → _) => hz; clear hz)); (repeat (rename ((0 : Int) ≤ _ → _) => hz; clear hz)); (have hkA := div_k hN hlen1 hk1 hlt1); have hkk := hkA.1; have hk0 := hkA.2.1; have hk9 := hkA.2.2.1; have hkt := hkA.2.2.2; clear hkA; (have hkB := div_k3 hk1 hk0 hk9 hlen2 hne hlen1 hL1 hG1 hkk hlt1); have hkb0 := hkB.1; have hkb1 := hkB.2.1; have hkb2 := hkB.2.2.1; have hkb3 := hkB.2.2.2; clear hkB; (try k_fold))
    rotate_left
    (intro us1 fs1 n1 vs1 gs1 kk1 u1 h1 tk1 hI1 hJ1 hP1 F1 N1; (obtain ⟨hP1, hL1, hG1⟩ := hP1); have hMk := kstMark; (have hGn := div_n hN hlen1 hne hG1); (repeat (rename (_ < (0 : Int) → _) => hz; clear hz)); (repeat (rename ((0 : Int) ≤ _ → _) => hz; clear hz)); (try k_fold))
    rotate_right
  k_with "pyIter ref" =>
    (with_reducible show wpAny _ _ _ (fun it s₂ => PairAt3 _ _ _ _ _ (Str.ofString "spot") _ _ _ _ it s₂) _ _)
    (with_unfolding_all refine' enum_st [] (fun j fs => fs = divI p (Int.fmod (fs1.getD (k1 + (ns2.length : Int) - 1).toNat 0 * invF (ns2.getD ((-1 : Int) + (ns2.length : Int)).toNat 0) p) p) k1.toNat ns2 fs1 j ∧ fs.length = ns1.length) (by assumption) (by assumption) ⟨rfl, by assumption⟩ ?_ ?_)
    (intro i2 a2 t2 ta2 us2 fs2 n2 u2 h2 tk2 own2 hg2 hlt2 hmem2 hI2 hP2 hoff2 F2 N2; (obtain ⟨hP2, hL2⟩ := hP2); (have hkC := div_k2 hk1 hk0 hk9 hlt2 hlen2 hL2 (rfl : N = N)); have hkc0 := hkC.1; have hkc1 := hkC.2.1; have hkc2 := hkC.2.2; clear hkC; (try k_fold))
    rotate_left
    (intro us2 fs2 n2 u2 h2 tk2 hI2 hP2 F2 N2; (obtain ⟨hP2, hL2⟩ := hP2); (try k_fold))
    rotate_right
  k_with "enumend" => exact div_i (by omega) hP2 hL2 hg2
  k_with "downend" => first
    | exact div_o1 hP1 hG1 hkk hk0 hne (by assumption) hP2 hL2
    | exact div_o0 hP1 hL1 hG1 hkk hk0 hne (by omega)
  k_steps
  (rename (∀ (h' : Heap) (q r : Addr) (v : Value) (us : List Value) (n tk : Nat), (∀ b o, _ = some o → _ = some o) → _) => hq9)
  have h9 := CP.ret hq9
  refine' h9 _ _ _ _ _ _ _ _ _ _ ?zF ?zN ?zm ?zm2 ?zi
  (case zF => assumption)
  (case zN => assumption)
  (case zm => k_mem)
  (case zm2 => k_mem)
  rename IntsAre _ (trimF (List.take _ _)) => hT
  exact div_end hN hne hP1 hT
end
section
set_option maxHeartbeats 8000000 in
theorem arranged_c {w : World} {s : Shared} {h₀ : Heap} {B SL : Addr} {vs : List Value} {ns : List Int} {k p : Int} {t tp : Tok} {n : Nat} (hi : IntsAre vs ns) (hlen : ns.length ≤ 63) (hk0 : 0 ≤ k) (hk1 : k < 900) (hp : Pr p) (hne : @Ne Nat SL B)
    (hO : Ok w h₀) (O : Off h₀ s.heap B) (hB : s.heap.get? B = some (listOf #[.ref SL, .int k t] n)) (hl : h₀.IsList SL vs.toArray) :
    BA w 800 8000 123 [.ref B, .int p tp] s B SL (k + p) (Arr p.toNat) := by
  have hp2 := hp.two
  have hp7 := hp.le7
  k_with_none
  w_top off
  k_with "MY_ENTER" => (intro Q E hQ; (obtain ⟨X, loose, mean, mg, mb, T⟩ := (by assumption : Ok _ _)); k_dflt (refine enter (by k_asm) (by exact Top.nolimit (by assumption)) (by k_is) (by k_is) (by decide) (by exact BindsTo.of_eq rfl) (by exact locs rfl) ?_ (by exact rfl) (by exact rfl) (by exact rfl) (by decide); k_whole; intro h' F' N'; (try dsimp only); (try k_fold)))
  k_with "MY_ENTERC" => (intro Q E hQ; (obtain ⟨X, loose, mean, mg, mb, T⟩ := (by assumption : Ok _ _)); k_dflt (refine enterC (by k_asm) (by exact Top.nolimit (by assumption)) (by k_is) (by k_is) (by decide) (by exact BindsTo.of_eq rfl) (by exact rfl) (by decide +kernel) ?_ (by exact rfl) (by exact rfl) (by exact rfl); k_whole; intro h' tk' cells' F' N' Y'; (k_cells Y'); (try simp only [List.cons_append, List.nil_append] at N'); (try dsimp only); (try k_fold)))
  k_with "MY_ZETA" => (dsimp (config := { zetaDelta := true }) only)
  k_with "MY_RET" => ((rename (∀ (h' : Heap) (r : Addr) (us : List Value) (n tk : Nat), (∀ b o, _ = some o → _ = some o) → _) => hq9); (have h9 := CL.ret hq9); (refine h9 _ _ _ _ _ _ _ _ (by assumption) (by assumption) (by k_mem) ?_))
  k_with "MY_RETI" => ((rename (∀ (h' : Heap) (t : Tok) (tk : Nat), (∀ b o, _ = some o → _ = some o) → _) => hq9); (have h9 := CI.ret hq9); (refine h9 _ _ _ _ _ _ (by assumption) ?_))
  k_with "MY_FOR" => (k_here; (rename Fr _ _ _ _ => lF'); (with_unfolding_all refine For_invVF lF' (by exact rfl) (by exact rfl) ?_; k_whole))
  k_with "exec For Name Subscript cons nil" => k_extra "MY_FOR"
  k_with "EnumPost" => (dsimp only [EnumPost])
  k_with "EnumEnd" => ((rename Fr _ _ _ _ => fE'); (rename News _ _ _ _ => nE'); (refine EnumEnd.intro fE' nE' (by k_mem) (by kcj_all) (by kcj_all) (by first | assumption | l_ints) (by (intro z h1 h2 h3; (try simp only [List.contains_cons, List.contains_nil, Bool.or_false, Bool.or_eq_false_iff, beq_eq_false_iff_ne, ne_eq] at h3); (simp [openM, h1, h2, h3]))) (by k_extra "enumend")))
  k_with "DownPost" => (dsimp only [DownPost])
  k_with "DownEnd" => ((rename Fr _ _ _ _ => fE'); (rename News _ _ _ _ => nE'); (refine DownEnd.intro fE' nE' (by k_mem) (by k_mem) (by kcj_all) (by first | assumption | l_ints) (by first | assumption | l_ints) (by (intro z h1 h3; (try simp only [List.contains_cons, List.contains_nil, Bool.or_false, Bool.or_eq_false_iff, beq_eq_false_iff_ne, ne_eq] at h3); (simp [openM, h1, h3]))) (by k_extra "downend")))
  k_with "NPost" => (dsimp only [NPost])
  k_with "NEnd" => ((rename Fr _ _ _ _ => fE'); (rename News _ _ _ _ => nE'); (refine NEnd.intro fE' nE' (by with_unfolding_all rfl) (by k_mem) (by k_mem) (by k_mem) (by k_extra "MY_NE") (by (intro z h1 h2 h3; (try simp only [List.contains_cons, List.contains_nil, Bool.or_false, Bool.or_eq_false_iff, beq_eq_false_iff_ne, ne_eq] at h3); (simp [h1, h2, h3]))) (by first | assumption | l_ints) (by k_extra "nend")))
  k_with "MY_NE" => first | assumption | exact Ne.symm (by assumption) | ((rename (∀ p ∈ _, Prod.fst p ≠ _) => hq7); exact fun e => hq7 (_, _) (by k_mem) e.symm) | ((rename (∀ p ∈ _, Prod.fst p ≠ _) => hq7); exact fun e => hq7 (_, _) (by k_mem) e)
  k_with "execs cons Assign cons" => refine wpAny_execs_cons ?_
  k_with "MY_NE2" => k_dflt (rename (∀ p : Addr × Obj, p ∈ (_ : List (Addr × Obj)) → Prod.fst p ≠ _) => h9; first | (apply neOf h9; k_mem) | (apply neOf' h9; k_mem) | (clear h9; k_extra "MY_NE2"))
  k_with "MY_KNE" => (refine neN ?_; (try dsimp only); first | k_extra "MY_NE2" | omega)
  k_with "MY_OM" => with_reducible first | assumption | ((show @LT.lt Nat _ _ _); first | exact Nat.lt_of_lt_of_le (by assumption) (by decide) | exact Nat.lt_of_le_of_lt (by assumption) (by decide) | fail) | ((show @LE.le Nat _ _ _); first | exact Nat.le_of_lt (Nat.lt_of_lt_of_le (by assumption) (by decide)) | exact Nat.le_trans (by assumption) (by decide) | fail) | ((show @LT.lt Int _ _ _); first | exact Int.lt_of_lt_of_le (by assumption) (by decide) | exact Int.lt_of_le_of_lt (by assumption) (by decide) | exact ltlo (by assumption) (by decide) | exact Int.lt_of_lt_of_le (Int.lt_of_lt_of_le (by assumption) (by assumption)) (by decide) | fail) | ((show @LE.le Int _ _ _); first | exact lelo (by assumption) (by decide) | exact Int.le_trans (by assumption) (by decide) | fail) | fail
  k_with "MY_ENTERB" => (intro Q E hQ; (obtain ⟨X, loose, mean, mg, mb, T⟩ := (by assumption : Ok _ _)); k_dflt (refine enterB (by k_asm) (by exact Top.nolimit (by assumption)) (by assumption) (by assumption) (by k_is) (by k_is) (by decide) (by exact BindsTo.of_eq rfl) (by exact locs rfl) ?_ (by exact rfl) (by exact rfl) (by exact rfl) (by decide); k_whole; intro h' F' N'; (try dsimp only); (try k_fold)))
  k_with "call ref" => (k_here; (with_unfolding_all refine BT.useW (by assumption) (by assumption) (by k_mem) (by assumption) (by is_list) (take_c (by assumption) (by assumption) (by omega) (by omega) (by omega) (by omega)) (by assumption) (by rfl) (by exact Nat.le_of_ble_eq_true rfl) (by exact Nat.le_of_ble_eq_true rfl) ?_; k_whole); intro x' tx' t2' n2' h' tk' h0' h1' F' NU'; (have N' := NU' _ (by k_upd)); (clear NU'); (try k_sweep))
  k_with "BPost" => (dsimp only [BPost])
  k_with "BEnd" => ((rename Fr _ _ _ _ => fE'); (rename News _ _ _ _ => nE'); (refine BEnd.intro fE' nE' (by with_unfolding_all rfl) (by k_mem) (by k_mem) (by omega) (by k_mem) (by first | k_ne | omega) (by first | k_ne | omega) (by (intro z h1 h2 h3; (try simp only [List.contains_cons, List.contains_nil, Bool.or_false, Bool.or_eq_false_iff, beq_eq_false_iff_ne, ne_eq] at h3); (simp [h1, h2, h3]))) (by first | assumption | l_ints) (by k_extra "bend")))
  walk_at "MY_ENTERB"
  k_with "pyIter ref" =>
    (rename Fr _ _ _ _ => lF')
    (rename News _ _ _ _ => lN')
    (with_unfolding_all refine' boxrange_st (y := Str.ofString "row") p.toNat [Str.ofString "place"] Arr rfl (by assumption) (by omega) (by omega) (by omega) (by omega) (by omega) lF' lN' rfl (by k_mem) (by k_mem) (by k_ne) IntsAre.nil arr_0 ?_ ?_)
    (clear lF' lN')
    (intro i1 k1 t1 D1 us1 fs1 n1 tb1 nb1 u1 h1 tk1 I1 oI1 hk1 hlt1 hI1 hP1 hnD hnB hDB F1 N1)
    have hk2 : 0 ≤ k1 := by omega
    have hk3 : k1 < p := by omega
    have hul := hI1.length
    have hfl0 := arr_len hP1
    have hfl : fs1.length ≤ 7 := by omega
    (try k_fold)
    rotate_left
    (intro D1 us1 fs1 n1 tb1 nb1 u1 h1 tk1 hI1 hP1 hDB F1 N1)
    (try k_fold)
    rotate_right
  k_with "bend" => exact arr_step hP1 hk1 _
  k_steps
  exact BA.ret O hB (by assumption) _ _ _ _ _ _ _ _ _ _ _ _ (by assumption) (by assumption) (by k_mem) (by k_mem) hDB (by omega) hI1 hP1
end
section
theorem nm_last' {p : Int} {l : List Int} (h : Nm p l) (hl : (0 : Int) < l.length) : 0 < l.getD ((-1 : Int) + (l.length : Int)).toNat 0 ∧ l.getD ((-1 : Int) + (l.length : Int)).toNat 0 < p := by
  rw [show ((-1 : Int) + (l.length : Int)).toNat = l.length - 1 by omega]
  exact h.last (by omega)
theorem monic_ne {l : List Int} {p : Int} (hl : (0 : Int) < l.length) : monicF l p = scaleF l (invF (l.getD ((-1 : Int) + (l.length : Int)).toNat 0) p) p := by
  rw [show ((-1 : Int) + (l.length : Int)).toNat = l.length - 1 by omega]
  unfold monicF
  rw [if_neg]
  rintro rfl
  exact absurd hl (by decide)
theorem monic_nil {l : List Int} {p : Int} (hl : ¬ (0 : Int) < l.length) : monicF l p = [] := by
  unfold monicF
  rw [if_pos (List.length_eq_zero_iff.mp (by omega))]
set_option maxHeartbeats 8000000 in
theorem mmonic_c {w : World} {s : Shared} {l1 : Addr} {vs1 : List Value} {ns1 : List Int} {p : Int} {t : Tok} (O : Ok w s.heap) (hl1 : s.heap.IsList l1 vs1.toArray) (hi1 : IntsAre vs1 ns1) (hlen1 : ns1.length < 400)
    (hp : Pr p) (h1 : Nm p ns1) :
    CL w 500 5000 87 [.ref l1, .int p t] s (monicF ns1 p) := by
  have hp2 := hp.two
  have hp7 := hp.le7
  have hv := invF_bd (a := ns1.getD ((-1 : Int) + (ns1.length : Int)).toNat 0) hp.pos
  have hv0 := hv.1
  have hv1 := hv.2
  k_with_none
  w_top off
  k_with "MY_ENTER" => (intro Q E hQ; (obtain ⟨X, loose, mean, mg, mb, T⟩ := (by assumption : Ok _ _)); k_dflt (refine enter (by k_asm) (by exact Top.nolimit (by assumption)) (by k_is) (by k_is) (by decide) (by exact BindsTo.of_eq rfl) (by exact locs rfl) ?_ (by exact rfl) (by exact rfl) (by exact rfl) (by decide); k_whole; intro h' F' N'; (try dsimp only); (try k_fold)))
  k_with "MY_ENTERC" => (intro Q E hQ; (obtain ⟨X, loose, mean, mg, mb, T⟩ := (by assumption : Ok _ _)); k_dflt (refine enterC (by k_asm) (by exact Top.nolimit (by assumption)) (by k_is) (by k_is) (by decide) (by exact BindsTo.of_eq rfl) (by exact rfl) (by decide +kernel) ?_ (by exact rfl) (by exact rfl) (by exact rfl); k_whole; intro h' tk' cells' F' N' Y'; (k_cells Y'); (try simp only [List.cons_append, List.nil_append] at N'); (try dsimp only); (try k_fold)))
  k_with "MY_ZETA" => (dsimp (config := { zetaDelta := true }) only)
  k_with "MY_RET" => ((rename (∀ (h' : Heap) (r : Addr) (us : List Value) (n tk : Nat), (∀ b o, _ = some o → _ = some o) → _) => hq9); (have h9 := CL.ret hq9); (refine h9 _ _ _ _ _ _ _ _ (by assumption) (by assumption) (by k_mem) ?_))
  k_with "MY_RETI" => ((rename (∀ (h' : Heap) (t : Tok) (tk : Nat), (∀ b o, _ = some o → _ = some o) → _) => hq9); (have h9 := CI.ret hq9); (refine h9 _ _ _ _ _ _ (by assumption) ?_))
  k_with "MY_FOR" => (k_here; (rename Fr _ _ _ _ => lF'); (with_unfolding_all refine For_invVF lF' (by exact rfl) (by exact rfl) ?_; k_whole))
  k_with "exec For Name Subscript cons nil" => k_extra "MY_FOR"
  k_with "EnumPost" => (dsimp only [EnumPost])
  k_with "EnumEnd" => ((rename Fr _ _ _ _ => fE'); (rename News _ _ _ _ => nE'); (refine EnumEnd.intro fE' nE' (by k_mem) (by kcj_all) (by kcj_all) (by first | assumption | l_ints) (by (intro z h1 h2 h3; (try simp only [List.contains_cons, List.contains_nil, Bool.or_false, Bool.or_eq_false_iff, beq_eq_false_iff_ne, ne_eq] at h3); (simp [openM, h1, h2, h3]))) (by k_extra "enumend")))
  k_with "DownPost" => (dsimp only [DownPost])
  k_with "DownEnd" => ((rename Fr _ _ _ _ => fE'); (rename News _ _ _ _ => nE'); (refine DownEnd.intro fE' nE' (by k_mem) (by k_mem) (by kcj_all) (by first | assumption | l_ints) (by first | assumption | l_ints) (by (intro z h1 h3; (try simp only [List.contains_cons, List.contains_nil, Bool.or_false, Bool.or_eq_false_iff, beq_eq_false_iff_ne, ne_eq] at h3); (simp [openM, h1, h3]))) (by k_extra "downend")))
  k_with "NPost" => (dsimp only [NPost])
  k_with "NEnd" => ((rename Fr _ _ _ _ => fE'); (rename News _ _ _ _ => nE'); (refine NEnd.intro fE' nE' (by with_unfolding_all rfl) (by k_mem) (by k_mem) (by k_mem) (by k_extra "MY_NE") (by (intro z h1 h2 h3; (try simp only [List.contains_cons, List.contains_nil, Bool.or_false, Bool.or_eq_false_iff, beq_eq_false_iff_ne, ne_eq] at h3); (simp [h1, h2, h3]))) (by first | assumption | l_ints) (by k_extra "nend")))
  k_with "MY_NE" => first | assumption | exact Ne.symm (by assumption) | ((rename (∀ p ∈ _, Prod.fst p ≠ _) => hq7); exact fun e => hq7 (_, _) (by k_mem) e.symm) | ((rename (∀ p ∈ _, Prod.fst p ≠ _) => hq7); exact fun e => hq7 (_, _) (by k_mem) e)
  k_with "execs cons Assign cons" => refine wpAny_execs_cons ?_
  k_with "MY_NE2" => k_dflt (rename (∀ p : Addr × Obj, p ∈ (_ : List (Addr × Obj)) → Prod.fst p ≠ _) => h9; first | (apply neOf h9; k_mem) | (apply neOf' h9; k_mem) | (clear h9; k_extra "MY_NE2"))
  k_with "MY_KNE" => (refine neN ?_; (try dsimp only); first | k_extra "MY_NE2" | omega)
  k_with "MY_OM" => with_reducible first | assumption | ((show @LT.lt Nat _ _ _); first | exact Nat.lt_of_lt_of_le (by assumption) (by decide) | exact Nat.lt_of_le_of_lt (by assumption) (by decide) | fail) | ((show @LE.le Nat _ _ _); first | exact Nat.le_of_lt (Nat.lt_of_lt_of_le (by assumption) (by decide)) | exact Nat.le_trans (by assumption) (by decide) | fail) | ((show @LT.lt Int _ _ _); first | exact Int.lt_of_lt_of_le (by assumption) (by decide) | exact Int.lt_of_le_of_lt (by assumption) (by decide) | exact ltlo (by assumption) (by decide) | exact Int.lt_of_lt_of_le (Int.lt_of_lt_of_le (by assumption) (by assumption)) (by decide) | fail) | ((show @LE.le Int _ _ _); first | exact lelo (by assumption) (by decide) | exact Int.le_trans (by assumption) (by decide) | fail) | fail
  k_with "call ref" => (k_here; (with_reducible show wpAny _ _ (call (Value.ref 59) _) _ _ _); (with_unfolding_all refine CL.use (mscale_c (by exact Ok.keeps (by assumption) (Fr.keep (by assumption))) (by is_list) (by first | l_ints | l_intsW) (by first | assumption | k_extra "MY_FIT" | l_fit) (by first | assumption | k_extra "MY_FACT" | omega) (by first | assumption | k_extra "MY_FACT" | omega) (by first | assumption | k_extra "MY_FACT" | omega)) (by assumption) (by assumption) (by rfl) (by exact Nat.le_of_ble_eq_true rfl) (by exact Nat.le_of_ble_eq_true rfl) ?_; k_whole); intro r' us' n' h' tk' F' N' hne' hi'; (try k_sweep))
  k_with "call ref" => (k_here; (with_reducible show wpAny _ _ (call (Value.ref 28) _) _ _ _); (with_unfolding_all refine CI.use (inv_c (by exact Ok.keeps (by assumption) (Fr.keep (by assumption))) (by first | assumption | k_extra "MY_FACT" | omega) (by first | assumption | k_extra "MY_FACT" | omega) (by first | assumption | k_extra "MY_FACT" | omega)) (by assumption) (by assumption) (by rfl) (by exact Nat.le_of_ble_eq_true rfl) (by exact Nat.le_of_ble_eq_true rfl) ?_; k_whole); intro t' h' tk' F' N'; (try k_sweep))
  k_with "MY_FACT" => first | exact (nm_last' (by assumption) (by assumption)).1 | exact (nm_last' (by assumption) (by assumption)).2
  walk_at "MY_ENTER"
  k_steps
  · k_extra "MY_RET"
    rw [monic_ne (by assumption)]
    assumption
  · k_extra "MY_RET"
    rw [monic_nil (by assumption)]
    exact IntsAre.nil
end
section
set_option maxHeartbeats 8000000 in
theorem mrest_c {w : World} {s : Shared} {l1 l2 : Addr} {vs1 vs2 : List Value} {ns1 ns2 : List Int} {p : Int} {t : Tok} (O : Ok w s.heap) (hl1 : s.heap.IsList l1 vs1.toArray) (hi1 : IntsAre vs1 ns1) (hlen1 : ns1.length < 400)
    (hl2 : s.heap.IsList l2 vs2.toArray) (hi2 : IntsAre vs2 ns2) (hlen2 : ns2.length < 400) (hp : Pr p) (h2 : Nm p ns2) (hne : 0 < ns2.length) :
    CL w 500 5000 80 [.ref l1, .ref l2, .int p t] s (restF ns1 ns2 p) := by
  k_with_none
  w_top off
  k_with "MY_ENTER" => (intro Q E hQ; (obtain ⟨X, loose, mean, mg, mb, T⟩ := (by assumption : Ok _ _)); k_dflt (refine enter (by k_asm) (by exact Top.nolimit (by assumption)) (by k_is) (by k_is) (by decide) (by exact BindsTo.of_eq rfl) (by exact locs rfl) ?_ (by exact rfl) (by exact rfl) (by exact rfl) (by decide); k_whole; intro h' F' N'; (try dsimp only); (try k_fold)))
  k_with "MY_ENTERC" => (intro Q E hQ; (obtain ⟨X, loose, mean, mg, mb, T⟩ := (by assumption : Ok _ _)); k_dflt (refine enterC (by k_asm) (by exact Top.nolimit (by assumption)) (by k_is) (by k_is) (by decide) (by exact BindsTo.of_eq rfl) (by exact rfl) (by decide +kernel) ?_ (by exact rfl) (by exact rfl) (by exact rfl); k_whole; intro h' tk' cells' F' N' Y'; (k_cells Y'); (try simp only [List.cons_append, List.nil_append] at N'); (try dsimp only); (try k_fold)))
  k_with "MY_ZETA" => (dsimp (config := { zetaDelta := true }) only)
  k_with "MY_RET" => ((rename (∀ (h' : Heap) (r : Addr) (us : List Value) (n tk : Nat), (∀ b o, _ = some o → _ = some o) → _) => hq9); (have h9 := CL.ret hq9); (refine h9 _ _ _ _ _ _ _ _ (by assumption) (by assumption) (by k_mem) ?_))
  k_with "MY_RETI" => ((rename (∀ (h' : Heap) (t : Tok) (tk : Nat), (∀ b o, _ = some o → _ = some o) → _) => hq9); (have h9 := CI.ret hq9); (refine h9 _ _ _ _ _ _ (by assumption) ?_))
  k_with "MY_FOR" => (k_here; (rename Fr _ _ _ _ => lF'); (with_unfolding_all refine For_invVF lF' (by exact rfl) (by exact rfl) ?_; k_whole))
  k_with "exec For Name Subscript cons nil" => k_extra "MY_FOR"
  k_with "EnumPost" => (dsimp only [EnumPost])
  k_with "EnumEnd" => ((rename Fr _ _ _ _ => fE'); (rename News _ _ _ _ => nE'); (refine EnumEnd.intro fE' nE' (by k_mem) (by kcj_all) (by kcj_all) (by first | assumption | l_ints) (by (intro z h1 h2 h3; (try simp only [List.contains_cons, List.contains_nil, Bool.or_false, Bool.or_eq_false_iff, beq_eq_false_iff_ne, ne_eq] at h3); (simp [openM, h1, h2, h3]))) (by k_extra "enumend")))
  k_with "DownPost" => (dsimp only [DownPost])
  k_with "DownEnd" => ((rename Fr _ _ _ _ => fE'); (rename News _ _ _ _ => nE'); (refine DownEnd.intro fE' nE' (by k_mem) (by k_mem) (by kcj_all) (by first | assumption | l_ints) (by first | assumption | l_ints) (by (intro z h1 h3; (try simp only [List.contains_cons, List.contains_nil, Bool.or_false, Bool.or_eq_false_iff, beq_eq_false_iff_ne, ne_eq] at h3); (simp [openM, h1, h3]))) (by k_extra "downend")))
  k_with "NPost" => (dsimp only [NPost])
  k_with "NEnd" => ((rename Fr _ _ _ _ => fE'); (rename News _ _ _ _ => nE'); (refine NEnd.intro fE' nE' (by with_unfolding_all rfl) (by k_mem) (by k_mem) (by k_mem) (by k_extra "MY_NE") (by (intro z h1 h2 h3; (try simp only [List.contains_cons, List.contains_nil, Bool.or_false, Bool.or_eq_false_iff, beq_eq_false_iff_ne, ne_eq] at h3); (simp [h1, h2, h3]))) (by first | assumption | l_ints) (by k_extra "nend")))
  k_with "MY_NE" => first | assumption | exact Ne.symm (by assumption) | ((rename (∀ p ∈ _, Prod.fst p ≠ _) => hq7); exact fun e => hq7 (_, _) (by k_mem) e.symm) | ((rename (∀ p ∈ _, Prod.fst p ≠ _) => hq7); exact fun e => hq7 (_, _) (by k_mem) e)
  k_with "execs cons Assign cons" => refine wpAny_execs_cons ?_
  k_with "MY_NE2" => k_dflt (rename (∀ p : Addr × Obj, p ∈ (_ : List (Addr × Obj)) → Prod.fst p ≠ _) => h9; first | (apply neOf h9; k_mem) | (apply neOf' h9; k_mem) | (clear h9; k_extra "MY_NE2"))
  k_with "MY_KNE" => (refine neN ?_; (try dsimp only); first | k_extra "MY_NE2" | omega)
  k_with "MY_OM" => with_reducible first | assumption | ((show @LT.lt Nat _ _ _); first | exact Nat.lt_of_lt_of_le (by assumption) (by decide) | exact Nat.lt_of_le_of_lt (by assumption) (by decide) | fail) | ((show @LE.le Nat _ _ _); first | exact Nat.le_of_lt (Nat.lt_of_lt_of_le (by assumption) (by decide)) | exact Nat.le_trans (by assumption) (by decide) | fail) | ((show @LT.lt Int _ _ _); first | exact Int.lt_of_lt_of_le (by assumption) (by decide) | exact Int.lt_of_le_of_lt (by assumption) (by decide) | exact ltlo (by assumption) (by decide) | exact Int.lt_of_lt_of_le (Int.lt_of_lt_of_le (by assumption) (by assumption)) (by decide) | fail) | ((show @LE.le Int _ _ _); first | exact lelo (by assumption) (by decide) | exact Int.le_trans (by assumption) (by decide) | fail) | fail
  k_with "call ref" => (k_here; (with_reducible show wpAny _ _ (call (Value.ref 73) _) _ _ _); (with_unfolding_all refine CP.use (mdivmod_c (by exact Ok.keeps (by assumption) (Fr.keep (by assumption))) (by is_list) (by first | l_ints | l_intsW) (by first | assumption | k_extra "MY_FIT" | l_fit) (by is_list) (by first | l_ints | l_intsW) (by first | assumption | k_extra "MY_FIT" | l_fit) (by first | assumption | k_extra "MY_FACT" | omega) (by first | assumption | k_extra "MY_FACT" | omega) (by first | assumption | k_extra "MY_FACT" | omega) (by first | assumption | k_extra "MY_FACT" | omega)) (by assumption) (by assumption) (by rfl) (by exact Nat.le_of_ble_eq_true rfl) (by exact Nat.le_of_ble_eq_true rfl) ?_; k_whole); intro q' r' v' us' n' h' tk' F' N' hi'; (try k_sweep))
  k_with "MY_FACT" => first | exact (Nm.last (by assumption) (by assumption)).1 | exact (Nm.last (by assumption) (by assumption)).2
  walk_at "MY_ENTER"
  k_steps
  walk_at "MY_RET"
  assumption
end
section
noncomputable def GcdI (p : Int) (a0 b0 : List Int) (a b : List Int) : Prop := Nm p a ∧ Nm p b ∧ a.length < 100 ∧ b.length < 100 ∧ ∃ k j, k = b.length + 1 + j ∧ gcdLoop p k a b = gcdLoop p (b0.length + 1) a0 b0
theorem gcdLoop_more {p : Int} : ∀ (k j : Nat) (a b : List Int), b.length < k → gcdLoop p (k + j) a b = gcdLoop p k a b
  | 0, _, _, _, h => absurd h (Nat.not_lt_zero _)
  | k + 1, j, a, b, h => by
    rw [show k + 1 + j = (k + j) + 1 by omega]
    unfold gcdLoop
    split
    · rfl
    · rename_i hb
      refine gcdLoop_more k j b _ ?_
      have h1 := restF_len (a := a) (b := b) (p := p)
      have h2 : b.length ≠ 0 := fun e => hb (List.length_eq_zero_iff.mp e)
      omega
theorem gcdI_0 {p : Int} {a b : List Int} (ha : Nm p a) (hb : Nm p b) (h1 : a.length < 100) (h2 : b.length < 100) : GcdI p a b a b := ⟨ha, hb, h1, h2, _, 0, rfl, rfl⟩
theorem gcdI_step {p : Int} {a0 b0 a b : List Int} (hp : Pr p) (h : GcdI p a0 b0 a b) (hb : (0 : Int) < b.length) : GcdI p a0 b0 b (restF a b p) ∧ (restF a b p).length < b.length := by
  obtain ⟨ha, hn, h1, h2, k, j, hk, e⟩ := h
  have hl := restF_len (a := a) (b := b) (p := p)
  have hlt : (restF a b p).length < b.length := by omega
  refine ⟨⟨hn, restF_nm hp.pos ha.1, h2, by omega, (restF a b p).length + 1, 0, rfl, ?_⟩, hlt⟩
  rw [← e, hk, gcdLoop_more (b.length + 1) j a b (by omega)]
  obtain ⟨d, hd⟩ : ∃ d, b.length = (restF a b p).length + 1 + d := ⟨b.length - ((restF a b p).length + 1), by omega⟩
  show _ = if b = [] then a else gcdLoop p b.length b (restF a b p)
  rw [if_neg (fun q => by rw [q] at hb; exact absurd hb (by decide)), hd, gcdLoop_more _ d _ _ (by omega)]
theorem gcdI_end {p : Int} {a0 b0 a b : List Int} (h : GcdI p a0 b0 a b) (hb : ¬ (0 : Int) < b.length) : monicF a p = gcdF a0 b0 p := by
  obtain ⟨ha, hn, h1, h2, k, j, hk, e⟩ := h
  unfold gcdF
  rw [← e, hk, show b.length + 1 + j = (b.length + j) + 1 by omega]
  unfold gcdLoop
  rw [if_pos (List.length_eq_zero_iff.mp (by omega))]
set_option maxHeartbeats 8000000 in
theorem mgcd_c {w : World} {s : Shared} {l1 l2 : Addr} {vs1 vs2 : List Value} {ns1 ns2 : List Int} {p : Int} {t : Tok} (O : Ok w s.heap) (hl1 : s.heap.IsList l1 vs1.toArray) (hi1 : IntsAre vs1 ns1) (hlen1 : ns1.length < 100)
    (hl2 : s.heap.IsList l2 vs2.toArray) (hi2 : IntsAre vs2 ns2) (hlen2 : ns2.length < 100) (hp : Pr p) (hn1 : Nm p ns1) (hn2 : Nm p ns2) :
    CL w 400 4000 108 [.ref l1, .ref l2, .int p t] s (gcdF ns1 ns2 p) := by
  k_with_none
  w_top off
  k_with "MY_ENTER" => (intro Q E hQ; (obtain ⟨X, loose, mean, mg, mb, T⟩ := (by assumption : Ok _ _)); k_dflt (refine enter (by k_asm) (by exact Top.nolimit (by assumption)) (by k_is) (by k_is) (by decide) (by exact BindsTo.of_eq rfl) (by exact locs rfl) ?_ (by exact rfl) (by exact rfl) (by exact rfl) (by decide); k_whole; intro h' F' N'; (try dsimp only); (try k_fold)))
  k_with "MY_ENTERC" => (intro Q E hQ; (obtain ⟨X, loose, mean, mg, mb, T⟩ := (by assumption : Ok _ _)); k_dflt (refine enterC (by k_asm) (by exact Top.nolimit (by assumption)) (by k_is) (by k_is) (by decide) (by exact BindsTo.of_eq rfl) (by exact rfl) (by decide +kernel) ?_ (by exact rfl) (by exact rfl) (by exact rfl); k_whole; intro h' tk' cells' F' N' Y'; (k_cells Y'); (try simp only [List.cons_append, List.nil_append] at N'); (try dsimp only); (try k_fold)))
  k_with "MY_ZETA" => (dsimp (config := { zetaDelta := true }) only)
  k_with "MY_RET" => ((rename (∀ (h' : Heap) (r : Addr) (us : List Value) (n tk : Nat), (∀ b o, _ = some o → _ = some o) → _) => hq9); (have h9 := CL.ret hq9); (refine h9 _ _ _ _ _ _ _ _ (by assumption) (by assumption) (by k_mem) ?_))
  k_with "MY_RETI" => ((rename (∀ (h' : Heap) (t : Tok) (tk : Nat), (∀ b o, _ = some o → _ = some o) → _) => hq9); (have h9 := CI.ret hq9); (refine h9 _ _ _ _ _ _ (by assumption) ?_))
  k_with "MY_FOR" => (k_here; (rename Fr _ _ _ _ => lF'); (with_unfolding_all refine For_invVF lF' (by exact rfl) (by exact rfl) ?_; k_whole))
  k_with "exec For Name Subscript cons nil" => k_extra "MY_FOR"
  k_with "EnumPost" => (dsimp only [EnumPost])
  k_with "EnumEnd" => ((rename Fr _ _ _ _ => fE'); (rename News _ _ _ _ => nE'); (refine EnumEnd.intro fE' nE' (by k_mem) (by kcj_all) (by kcj_all) (by first | assumption | l_ints) (by (intro z h1 h2 h3; (try simp only [List.contains_cons, List.contains_nil, Bool.or_false, Bool.or_eq_false_iff, beq_eq_false_iff_ne, ne_eq] at h3); (simp [openM, h1, h2, h3]))) (by k_extra "enumend")))
  k_with "DownPost" => (dsimp only [DownPost])
  k_with "DownEnd" => ((rename Fr _ _ _ _ => fE'); (rename News _ _ _ _ => nE'); (refine DownEnd.intro fE' nE' (by k_mem) (by k_mem) (by kcj_all) (by first | assumption | l_ints) (by first | assumption | l_ints) (by (intro z h1 h3; (try simp only [List.contains_cons, List.contains_nil, Bool.or_false, Bool.or_eq_false_iff, beq_eq_false_iff_ne, ne_eq] at h3); (simp [openM, h1, h3]))) (by k_extra "downend")))
  k_with "NPost" => (dsimp only [NPost])
  k_with "NEnd" => ((rename Fr _ _ _ _ => fE'); (rename News _ _ _ _ => nE'); (refine NEnd.intro fE' nE' (by with_unfolding_all rfl) (by k_mem) (by k_mem) (by k_mem) (by k_extra "MY_NE") (by (intro z h1 h2 h3; (try simp only [List.contains_cons, List.contains_nil, Bool.or_false, Bool.or_eq_false_iff, beq_eq_false_iff_ne, ne_eq] at h3); (simp [h1, h2, h3]))) (by first | assumption | l_ints) (by k_extra "nend")))
  k_with "MY_NE" => first | assumption | exact Ne.symm (by assumption) | ((rename (∀ p ∈ _, Prod.fst p ≠ _) => hq7); exact fun e => hq7 (_, _) (by k_mem) e.symm) | ((rename (∀ p ∈ _, Prod.fst p ≠ _) => hq7); exact fun e => hq7 (_, _) (by k_mem) e)
  k_with "execs cons Assign cons" => refine wpAny_execs_cons ?_
  k_with "MY_NE2" => k_dflt (rename (∀ p : Addr × Obj, p ∈ (_ : List (Addr × Obj)) → Prod.fst p ≠ _) => h9; first | (apply neOf h9; k_mem) | (apply neOf' h9; k_mem) | (clear h9; k_extra "MY_NE2"))
  k_with "MY_KNE" => (refine neN ?_; (try dsimp only); first | k_extra "MY_NE2" | omega)
  k_with "MY_OM" => with_reducible first | assumption | ((show @LT.lt Nat _ _ _); first | exact Nat.lt_of_lt_of_le (by assumption) (by decide) | exact Nat.lt_of_le_of_lt (by assumption) (by decide) | fail) | ((show @LE.le Nat _ _ _); first | exact Nat.le_of_lt (Nat.lt_of_lt_of_le (by assumption) (by decide)) | exact Nat.le_trans (by assumption) (by decide) | fail) | ((show @LT.lt Int _ _ _); first | exact Int.lt_of_lt_of_le (by assumption) (by decide) | exact Int.lt_of_le_of_lt (by assumption) (by decide) | exact ltlo (by assumption) (by decide) | exact Int.lt_of_lt_of_le (Int.lt_of_lt_of_le (by assumption) (by assumption)) (by decide) | fail) | ((show @LE.le Int _ _ _); first | exact lelo (by assumption) (by decide) | exact Int.le_trans (by assumption) (by decide) | fail) | fail
  k_with "call ref" => (k_here; (with_reducible show wpAny _ _ (call (Value.ref 80) _) _ _ _); (with_unfolding_all refine CL.use (mrest_c (by exact Ok.keeps (by assumption) (Fr.keep (by assumption))) (by is_list) (by first | l_ints | l_intsW) (by first | assumption | k_extra "MY_FIT" | l_fit) (by is_list) (by first | l_ints | l_intsW) (by first | assumption | k_extra "MY_FIT" | l_fit) (by first | assumption | k_extra "MY_FACT" | omega) (by first | assumption | k_extra "MY_FACT" | omega) (by first | assumption | k_extra "MY_FACT" | omega)) (by assumption) (by assumption) (by rfl) (by exact Nat.le_of_ble_eq_true rfl) (by exact Nat.le_of_ble_eq_true rfl) ?_; k_whole); intro r' us' n' h' tk' F' N' hne' hi'; (try k_sweep))
  k_with "call ref" => (k_here; (with_reducible show wpAny _ _ (call (Value.ref 87) _) _ _ _); (with_unfolding_all refine CL.use (mmonic_c (by exact Ok.keeps (by assumption) (Fr.keep (by assumption))) (by is_list) (by first | l_ints | l_intsW) (by first | assumption | k_extra "MY_FIT" | l_fit) (by first | assumption | k_extra "MY_FACT" | omega) (by first | assumption | k_extra "MY_FACT" | omega)) (by assumption) (by assumption) (by rfl) (by exact Nat.le_of_ble_eq_true rfl) (by exact Nat.le_of_ble_eq_true rfl) ?_; k_whole); intro r' us' n' h' tk' F' N' hne' hi'; (try k_sweep))
  k_with "GwPost" => (dsimp only [GwPost])
  k_with "GwEnd" => ((rename Fr _ _ _ _ => fE'); (rename News _ _ _ _ => nE'); (refine GwEnd.intro fE' nE' (by with_unfolding_all rfl) (by with_unfolding_all rfl) (by (intro z h1 h2; (simp [h1, h2]))) (by first | exact HasL.ofNew (by k_mem) | exact HasL.ofBase (by assumption)) (by first | exact HasL.ofNew (by k_mem) | exact HasL.ofBase (by assumption)) (by first | assumption | l_ints) (by first | assumption | l_ints) (by k_extra "gwend")))
  walk_at "MY_ENTER"
  k_with "exec While Compare cons nil" =>
    (rename Fr _ _ _ _ => lF')
    (rename News _ _ _ _ => lN')
    (with_unfolding_all refine' gw_while (x1 := Str.ofString "a") (x2 := Str.ofString "b") (GcdI p ns1 ns2) lF' lN' rfl rfl (HasL.ofBase hl1) (HasL.ofBase hl2) hi1 hi2 (gcdI_0 hn1 hn2 hlen1 hlen2) ?_ (by passes_own))
    (clear lF' lN')
    (rintro (_ | n1) (_ | n2) D1 D2 us1 us2 fs1 fs2 h1 tk1 b1 b2 j1 j2 hP1 F1 N1)
    all_goals ((dsimp only [LK.fact, LK.led] at b1 b2 N1); (simp only [List.nil_append, List.cons_append, List.append_nil] at N1); have hA1 := hP1.1; have hA2 := hP1.2.1; have hA3 := hP1.2.2.1; have hA4 := hP1.2.2.2.1; (try k_fold))
  k_with "gwend" => exact gcdI_step hp hP1 (by assumption)
  k_steps
  all_goals (k_extra "MY_RET"; rw [← gcdI_end hP1 (by assumption)]; assumption)
end
section
/-- the loop of mpower_mod: two lists, an int -/
structure PS where
  d1 : Addr
  d2 : Addr
  us : List Value
  fs : List Int
  n1 : Nat
  vs : List Value
  gs : List Int
  n2 : Nat
  k : Int
  t : Tok
noncomputable def PowI (a : List Int) (n : Nat) (f : List Int) (p : Int) (c : PS) : Prop := Nm p c.fs ∧ Nm p c.gs ∧ c.fs.length ≤ f.length - 1 ∧ c.gs.length ≤ f.length - 1 ∧ 0 ≤ c.k ∧ c.k < 100 ∧ ∃ fuel, c.k.toNat ≤ fuel ∧ powLoop f p fuel c.k.toNat c.fs c.gs = powF a n f p
theorem powLoop_more {f : List Int} {p : Int} : ∀ (fuel j k : Nat) (x y : List Int), k ≤ fuel → powLoop f p (fuel + j) k x y = powLoop f p fuel k x y
  | 0, 0, k, x, y, h => rfl
  | 0, j + 1, k, x, y, h => by
    have e : k = 0 := Nat.le_zero.mp h
    subst e
    rw [Nat.zero_add]
    unfold powLoop
    simp
  | fuel + 1, j, k, x, y, h => by
    rw [show fuel + 1 + j = (fuel + j) + 1 by omega]
    unfold powLoop
    split
    · rfl
    · exact powLoop_more fuel j _ _ _ (by omega)
theorem powI_0 {a f : List Int} {n : Int} {p : Int} {d1 d2 : Addr} {us vs : List Value} {n1 n2 : Nat} {t : Tok} (hp : Pr p) (ha : Nm p a) (h0 : 0 ≤ n) (h1 : n < 100) : PowI a n.toNat f p ⟨d1, d2, us, restF [1] f p, n1, vs, restF a f p, n2, n, t⟩ :=
  ⟨restF_nm hp.pos (Sm.cons ⟨by decide, by have := hp.two; omega⟩ Sm.nil), restF_nm hp.pos ha.1, restF_len, restF_len, h0, h1, n.toNat, Nat.le_refl _, rfl⟩
theorem pow_nat {m : Nat} : Int.fdiv (m : Int) 2 = ((m / 2 : Nat) : Int) ∧ Int.fmod (m : Int) 2 = ((m % 2 : Nat) : Int) :=
  ⟨Int.fdiv_eq_ediv_of_nonneg _ (by decide), Int.fmod_eq_emod_of_nonneg _ (by decide)⟩
theorem pow_a {m : Nat} (h : (0 : Int) < m) : m / 2 < m := Nat.div_lt_self (Int.ofNat_lt.mp h) (by decide)
theorem pow_b {m g : Nat} (h : m ≤ g + 1) (hk : (0 : Int) < m) : m / 2 ≤ g := Nat.le_of_lt_succ (Nat.lt_of_lt_of_le (pow_a hk) h)
theorem pow_c {m : Nat} (h : ((m % 2 : Nat) : Int) = 1) : m % 2 = 1 := Int.ofNat_inj.mp h
theorem pow_d {m : Nat} (h : (0 : Int) < ((m / 2 : Nat) : Int)) : ¬ m / 2 = 0 := fun e => by rw [e] at h; exact absurd h (by decide)
theorem pow_e {m : Nat} (h : ¬ (0 : Int) < ((m / 2 : Nat) : Int)) : m / 2 = 0 := Nat.eq_zero_of_not_pos fun q => h (Int.ofNat_lt.mpr q)
theorem powI_step {a f fs gs : List Int} {n : Nat} {k p : Int} {d1 d2 e1 e2 : Addr} {us vs us' vs' : List Value} {n1 n2 m1 m2 : Nat} {t t' : Tok} (hp : Pr p) (hf : 0 < f.length) (h : PowI a n f p ⟨d1, d2, us, fs, n1, vs, gs, n2, k, t⟩) (hk : 0 < k)
    {fs' gs' : List Int} (h1 : (Int.fmod k 2 = 1 ∧ fs' = restF (mulF fs gs p) f p) ∨ (Int.fmod k 2 ≠ 1 ∧ fs' = fs)) (h2 : (0 < Int.fdiv k 2 ∧ gs' = restF (mulF gs gs p) f p) ∨ (¬ 0 < Int.fdiv k 2 ∧ gs' = gs)) :
    PowI a n f p ⟨e1, e2, us', fs', m1, vs', gs', m2, Int.fdiv k 2, t'⟩ ∧ (Int.fdiv k 2).toNat < k.toNat := by
  obtain ⟨q1, q2, q3, q4, q5, q6, fuel, q7, q8⟩ := h
  dsimp only at q1 q2 q3 q4 q5 q6 q7 q8
  obtain ⟨m, rfl⟩ := Int.eq_ofNat_of_zero_le q5
  rw [pow_nat.1] at h2 ⊢
  rw [pow_nat.2] at h1
  rw [Int.toNat_natCast] at q7 q8
  have hlt := pow_a hk
  refine ⟨⟨?_, ?_, ?_, ?_, Int.natCast_nonneg _, Int.lt_trans (Int.ofNat_lt.mpr hlt) q6, ?_⟩, by rw [Int.toNat_natCast, Int.toNat_natCast]; exact hlt⟩
  · dsimp only
    rcases h1 with ⟨_, rfl⟩ | ⟨_, rfl⟩
    · exact restF_nm hp.pos (mulF_nm hp.pos).1
    · exact q1
  · dsimp only
    rcases h2 with ⟨_, rfl⟩ | ⟨_, rfl⟩
    · exact restF_nm hp.pos (mulF_nm hp.pos).1
    · exact q2
  · dsimp only
    rcases h1 with ⟨_, rfl⟩ | ⟨_, rfl⟩
    · exact restF_len
    · exact q3
  · dsimp only
    rcases h2 with ⟨_, rfl⟩ | ⟨_, rfl⟩
    · exact restF_len
    · exact q4
  · dsimp only
    cases fuel with
    | zero => exact absurd (Nat.lt_of_lt_of_le hlt q7) (Nat.not_lt_zero _)
    | succ g =>
      refine ⟨g, by rw [Int.toNat_natCast]; exact pow_b q7 hk, ?_⟩
      rw [← q8, Int.toNat_natCast]
      conv => rhs; unfold powLoop
      rw [if_neg (fun e => by rw [e] at hk; exact absurd hk (by decide) : ¬ m = 0)]
      have e1 : fs' = if m % 2 = 1 then restF (mulF fs gs p) f p else fs := by
        rcases h1 with ⟨c, rfl⟩ | ⟨c, rfl⟩
        · rw [if_pos (pow_c c)]
        · rw [if_neg fun q => c (by rw [q]; rfl)]
      have e2 : gs' = if m / 2 = 0 then gs else restF (mulF gs gs p) f p := by
        rcases h2 with ⟨c, rfl⟩ | ⟨c, rfl⟩
        · rw [if_neg (pow_d c)]
        · rw [if_pos (pow_e c)]
      rw [← e1, ← e2]
theorem pow_less {k : Int} (hk : 0 < k) : (Int.fdiv k 2).toNat < k.toNat := by
  obtain ⟨m, rfl⟩ := Int.eq_ofNat_of_zero_le (Int.le_of_lt hk)
  rw [pow_nat.1, Int.toNat_natCast, Int.toNat_natCast]
  exact pow_a hk
theorem pow_half {k : Int} (hk : 0 < k) (h : Int.fmod k 2 ≠ 1) : 0 < Int.fdiv k 2 := by
  obtain ⟨m, rfl⟩ := Int.eq_ofNat_of_zero_le (Int.le_of_lt hk)
  rw [pow_nat.2] at h
  rw [pow_nat.1]
  have h1 : m % 2 ≠ 1 := fun e => h (by rw [e]; rfl)
  have h2 : 0 < m := Int.ofNat_lt.mp hk
  have h3 : 0 < m / 2 := by omega
  exact Int.ofNat_lt.mpr h3
theorem powI_end {a f fs gs : List Int} {n : Nat} {k p : Int} {d1 d2 : Addr} {us vs : List Value} {n1 n2 : Nat} {t : Tok} (h : PowI a n f p ⟨d1, d2, us, fs, n1, vs, gs, n2, k, t⟩) (hk : ¬ 0 < k) : fs = powF a n f p := by
  obtain ⟨q1, q2, q3, q4, q5, q6, fuel, q7, q8⟩ := h
  dsimp only at q1 q2 q3 q4 q5 q6 q7 q8
  rw [← q8]
  have e : k.toNat = 0 := by omega
  rw [e]
  cases fuel with
  | zero => rfl
  | succ g => unfold powLoop; simp
/-- ksw_end with its premises in the order in which they are to be filled -/
theorem kswE {h₀ : Heap} {L : Addr} {s : Shared} {Led : PS → List (Addr × Obj)} {ps : PS → List (Str × Value)} {Facts : PS → Prop} {stored : List Str} {m₀ m' : Str → Option Value} {P : PS → Prop} {μ : PS → Nat} {c : PS} {h' : Heap} {tk : Nat} {news' : List (Addr × Obj)} (c' : PS)
    (F : Fr h₀ L h' m') (N : News h₀ L h' news') (hk : ∀ p ∈ ps c', m' p.1 = some p.2) (hn : ∀ p ∈ Led c', p ∈ news') (hf : Facts c') (hp : P c') (hm : μ c' < μ c) (hr : ∀ z, (∀ p ∈ ps c', z ≠ p.1) → stored.contains z = false → m' z = m₀ z) :
    KswEnd h₀ L s Led ps Facts stored m₀ P μ c { s with heap := h', toks := tk } := ksw_end c' F N hn hf hk hr hp hm
set_option maxHeartbeats 8000000 in
theorem mpower_c {w : World} {s : Shared} {l1 l2 : Addr} {vs1 vs2 : List Value} {ns1 ns2 : List Int} {n p : Int} {t t2 : Tok} (O : Ok w s.heap) (hl1 : s.heap.IsList l1 vs1.toArray) (hi1 : IntsAre vs1 ns1) (hlen1 : ns1.length < 100)
    (hl2 : s.heap.IsList l2 vs2.toArray) (hi2 : IntsAre vs2 ns2) (hlen2 : ns2.length < 100) (hp : Pr p) (hn1 : Nm p ns1) (hn2 : Nm p ns2) (hne : 0 < ns2.length) (h0 : 0 ≤ n) (h9 : n < 100) :
    CL w 400 4000 101 [.ref l1, .int n t2, .ref l2, .int p t] s (powF ns1 n.toNat ns2 p) := by
  have hp2 := hp.two
  have hp7 := hp.le7
  k_with_none
  w_top off
  k_with "MY_ENTER" => (intro Q E hQ; (obtain ⟨X, loose, mean, mg, mb, T⟩ := (by assumption : Ok _ _)); k_dflt (refine enter (by k_asm) (by exact Top.nolimit (by assumption)) (by k_is) (by k_is) (by decide) (by exact BindsTo.of_eq rfl) (by exact locs rfl) ?_ (by exact rfl) (by exact rfl) (by exact rfl) (by decide); k_whole; intro h' F' N'; (try dsimp only); (try k_fold)))
  k_with "MY_ENTERC" => (intro Q E hQ; (obtain ⟨X, loose, mean, mg, mb, T⟩ := (by assumption : Ok _ _)); k_dflt (refine enterC (by k_asm) (by exact Top.nolimit (by assumption)) (by k_is) (by k_is) (by decide) (by exact BindsTo.of_eq rfl) (by exact rfl) (by decide +kernel) ?_ (by exact rfl) (by exact rfl) (by exact rfl); k_whole; intro h' tk' cells' F' N' Y'; (k_cells Y'); (try simp only [List.cons_append, List.nil_append] at N'); (try dsimp only); (try k_fold)))
  k_with "MY_ZETA" => (dsimp (config := { zetaDelta := true }) only)
  k_with "MY_RET" => ((rename (∀ (h' : Heap) (r : Addr) (us : List Value) (n tk : Nat), (∀ b o, _ = some o → _ = some o) → _) => hq9); (have h9 := CL.ret hq9); (refine h9 _ _ _ _ _ _ _ _ (by assumption) (by assumption) (by k_mem) ?_))
  k_with "MY_RETI" => ((rename (∀ (h' : Heap) (t : Tok) (tk : Nat), (∀ b o, _ = some o → _ = some o) → _) => hq9); (have h9 := CI.ret hq9); (refine h9 _ _ _ _ _ _ (by assumption) ?_))
  k_with "MY_FOR" => (k_here; (rename Fr _ _ _ _ => lF'); (with_unfolding_all refine For_invVF lF' (by exact rfl) (by exact rfl) ?_; k_whole))
  k_with "exec For Name Subscript cons nil" => k_extra "MY_FOR"
  k_with "EnumPost" => (dsimp only [EnumPost])
  k_with "EnumEnd" => ((rename Fr _ _ _ _ => fE'); (rename News _ _ _ _ => nE'); (refine EnumEnd.intro fE' nE' (by k_mem) (by kcj_all) (by kcj_all) (by first | assumption | l_ints) (by (intro z h1 h2 h3; (try simp only [List.contains_cons, List.contains_nil, Bool.or_false, Bool.or_eq_false_iff, beq_eq_false_iff_ne, ne_eq] at h3); (simp [openM, h1, h2, h3]))) (by k_extra "enumend")))
  k_with "DownPost" => (dsimp only [DownPost])
  k_with "DownEnd" => ((rename Fr _ _ _ _ => fE'); (rename News _ _ _ _ => nE'); (refine DownEnd.intro fE' nE' (by k_mem) (by k_mem) (by kcj_all) (by first | assumption | l_ints) (by first | assumption | l_ints) (by (intro z h1 h3; (try simp only [List.contains_cons, List.contains_nil, Bool.or_false, Bool.or_eq_false_iff, beq_eq_false_iff_ne, ne_eq] at h3); (simp [openM, h1, h3]))) (by k_extra "downend")))
  k_with "NPost" => (dsimp only [NPost])
  k_with "NEnd" => ((rename Fr _ _ _ _ => fE'); (rename News _ _ _ _ => nE'); (refine NEnd.intro fE' nE' (by with_unfolding_all rfl) (by k_mem) (by k_mem) (by k_mem) (by k_extra "MY_NE") (by (intro z h1 h2 h3; (try simp only [List.contains_cons, List.contains_nil, Bool.or_false, Bool.or_eq_false_iff, beq_eq_false_iff_ne, ne_eq] at h3); (simp [h1, h2, h3]))) (by first | assumption | l_ints) (by k_extra "nend")))
  k_with "MY_NE" => first | assumption | exact Ne.symm (by assumption) | ((rename (∀ p ∈ _, Prod.fst p ≠ _) => hq7); exact fun e => hq7 (_, _) (by k_mem) e.symm) | ((rename (∀ p ∈ _, Prod.fst p ≠ _) => hq7); exact fun e => hq7 (_, _) (by k_mem) e)
  k_with "execs cons Assign cons" => refine wpAny_execs_cons ?_
  k_with "MY_NE2" => k_dflt (rename (∀ p : Addr × Obj, p ∈ (_ : List (Addr × Obj)) → Prod.fst p ≠ _) => h9; first | (apply neOf h9; k_mem) | (apply neOf' h9; k_mem) | (clear h9; k_extra "MY_NE2"))
  k_with "MY_KNE" => (refine neN ?_; (try dsimp only); first | k_extra "MY_NE2" | omega)
  k_with "MY_OM" => with_reducible first | assumption | ((show @LT.lt Nat _ _ _); first | exact Nat.lt_of_lt_of_le (by assumption) (by decide) | exact Nat.lt_of_le_of_lt (by assumption) (by decide) | fail) | ((show @LE.le Nat _ _ _); first | exact Nat.le_of_lt (Nat.lt_of_lt_of_le (by assumption) (by decide)) | exact Nat.le_trans (by assumption) (by decide) | fail) | ((show @LT.lt Int _ _ _); first | exact Int.lt_of_lt_of_le (by assumption) (by decide) | exact Int.lt_of_le_of_lt (by assumption) (by decide) | exact ltlo (by assumption) (by decide) | exact Int.lt_of_lt_of_le (Int.lt_of_lt_of_le (by assumption) (by assumption)) (by decide) | fail) | ((show @LE.le Int _ _ _); first | exact lelo (by assumption) (by decide) | exact Int.le_trans (by assumption) (by decide) | fail) | fail
  k_with "call ref" => (k_here; (with_reducible show wpAny _ _ (call (Value.ref 80) _) _ _ _); (with_unfolding_all refine CL.use (mrest_c (by exact Ok.keeps (by assumption) (Fr.keep (by assumption))) (by is_list) (by first | l_ints | l_intsW) (by first | assumption | k_extra "MY_FIT" | l_fit) (by is_list) (by first | l_ints | l_intsW) (by first | assumption | k_extra "MY_FIT" | l_fit) (by first | assumption | k_extra "MY_FACT" | omega) (by first | assumption | k_extra "MY_FACT" | omega) (by first | assumption | k_extra "MY_FACT" | omega)) (by assumption) (by assumption) (by rfl) (by exact Nat.le_of_ble_eq_true rfl) (by exact Nat.le_of_ble_eq_true rfl) ?_; k_whole); intro r' us' n' h' tk' F' N' hne' hi'; (try k_sweep))
  k_with "call ref" => (k_here; (with_reducible show wpAny _ _ (call (Value.ref 66) _) _ _ _); (with_unfolding_all refine CL.use (mmul_c (by exact Ok.keeps (by assumption) (Fr.keep (by assumption))) (by is_list) (by first | l_ints | l_intsW) (by first | assumption | k_extra "MY_FIT" | l_fit) (by is_list) (by first | l_ints | l_intsW) (by first | assumption | k_extra "MY_FIT" | l_fit) (by first | assumption | k_extra "MY_FACT" | omega) (by first | assumption | k_extra "MY_FACT" | omega) (by first | assumption | k_extra "MY_FACT" | omega)) (by assumption) (by assumption) (by rfl) (by exact Nat.le_of_ble_eq_true rfl) (by exact Nat.le_of_ble_eq_true rfl) ?_; k_whole); intro r' us' n' h' tk' F' N' hne' hi'; (try k_sweep))
  k_with "MY_FIT" => exact Nat.lt_of_le_of_lt mulF_len (by omega)
  k_with "KswEnd" => ((rename Fr _ _ _ _ => fE'); (rename News _ _ _ _ => nE'); (refine kswE (⟨_, _, _, _, _, _, _, _, _, _⟩ : PS) fE' nE' (by exact List.forall_mem_cons.mpr ⟨by with_unfolding_all rfl, List.forall_mem_cons.mpr ⟨by with_unfolding_all rfl, List.forall_mem_cons.mpr ⟨by with_unfolding_all rfl, List.forall_mem_nil _⟩⟩⟩) (by exact List.forall_mem_cons.mpr ⟨by k_mem, List.forall_mem_cons.mpr ⟨by k_mem, List.forall_mem_nil _⟩⟩) (by exact ⟨by assumption, by assumption⟩) (by k_extra "kswp") (by k_extra "kswm") (by (intro z h2 h3; (simp only [List.forall_mem_cons, List.not_mem_nil, false_implies, implies_true, and_true, ne_eq] at h2); (simp [kstB, h2])))))
  walk_at "MY_ENTER"
  k_with "exec While Compare cons nil" =>
    (rename Fr _ _ _ _ => lF')
    (rename News _ _ _ _ => lN')
    (with_unfolding_all refine' ksw_while (fun c : PS => [(c.d2, listOf c.vs.toArray c.n2), (c.d1, listOf c.us.toArray c.n1)]) (fun c : PS => [(Str.ofString "found", Value.ref c.d1), (Str.ofString "square", Value.ref c.d2), (Str.ofString "n", Value.int c.k c.t)]) (fun c : PS => IntsAre c.us c.fs ∧ IntsAre c.vs c.gs) [] (fun c : PS => PowI ns1 n.toNat ns2 p c) (fun c : PS => c.k.toNat) ⟨_, _, _, _, _, _, _, _, _, _⟩ lF' ?kn ?kf ?kk (powI_0 hp hn1 h0 h9) ?_)
    (case kk => exact List.forall_mem_cons.mpr ⟨by with_unfolding_all rfl, List.forall_mem_cons.mpr ⟨by with_unfolding_all rfl, List.forall_mem_cons.mpr ⟨by with_unfolding_all rfl, List.forall_mem_nil _⟩⟩⟩)
    (case kn => exact kst_newsOf lN' (List.forall_mem_cons.mpr ⟨by k_mem, List.forall_mem_cons.mpr ⟨by k_mem, List.forall_mem_nil _⟩⟩))
    (case kf => exact ⟨by assumption, by assumption⟩)
    (clear lF' lN')
    (rintro ⟨d1, d2, us, fs, n1, vs, gs, n2, k, t1⟩ u1 h1 tk1 ⟨j1, j2⟩ hP1 F1 N1)
    (dsimp only at j1 j2 F1 N1 ⊢)
    have hA1 := hP1.1
    have hA2 := hP1.2.1
    have hA3 := hP1.2.2.1
    have hA4 := hP1.2.2.2.1
    have hA5 := hP1.2.2.2.2.1
    have hA6 := hP1.2.2.2.2.2.1
    have hA7 := hA1.1
    have hA8 := hA2.1
    (dsimp only at hA1 hA2 hA3 hA4 hA5 hA6 hA7 hA8)
    (try k_fold)
  k_with "kswp" => exact (powI_step hp hne hP1 (by assumption) (by first | exact .inl ⟨by assumption, rfl⟩ | exact .inr ⟨by assumption, rfl⟩) (by first | exact .inl ⟨by assumption, rfl⟩ | exact .inr ⟨by assumption, rfl⟩ | exact .inl ⟨pow_half (by assumption) (by assumption), rfl⟩)).1
  k_with "kswm" => exact pow_less (by assumption)
  k_steps
  walk_at "MY_RET"
  rw [← powI_end hP1 (by assumption)]
  assumption
end
section
noncomputable def PutI (g d : List Int) (p : Int) (f : List Int) (i : Nat) (fs : List Int) : Prop := fs = (f.take i).foldl (putStep g d p) [] ∧ Nm p fs ∧ fs.length < 200
theorem putI_0 {g d f : List Int} {p : Int} : PutI g d p f 0 [] := ⟨rfl, ⟨Sm.nil, .inl rfl⟩, by decide⟩
theorem putI_step {g d f fs : List Int} {p k : Int} {i : Nat} (hp : Pr p) (hd : d.length < 100) (h : PutI g d p f i fs) (hk : f[i]? = some k) : PutI g d p f (i + 1) (addF (restF (mulF fs g p) d p) (scaleF [1] k p) p) := by
  refine ⟨?_, addF_nm hp.pos, ?_⟩
  · rw [List.take_add_one, hk, List.foldl_append, ← h.1]
    rfl
  · have h1 := addF_len (a := restF (mulF fs g p) d p) (b := scaleF [1] k p) (p := p)
    have h2 := restF_len (a := mulF fs g p) (b := d) (p := p)
    have h3 := scaleF_len (a := [1]) (k := k) (p := p)
    simp only [List.length_cons, List.length_nil] at h3
    omega
theorem putI_end {g d f fs : List Int} {p : Int} (h : PutI g d p f.reverse f.reverse.length fs) : fs = putF f g d p := by
  rw [h.1, List.take_length]
  rfl
set_option maxHeartbeats 8000000 in
theorem put_c {w : World} {s : Shared} {l1 l2 l3 : Addr} {vs1 vs2 vs3 : List Value} {ns1 ns2 ns3 : List Int} {p : Int} {t : Tok} (O : Ok w s.heap) (hl1 : s.heap.IsList l1 vs1.toArray) (hi1 : IntsAre vs1 ns1) (hlen1 : ns1.length < 100)
    (hl2 : s.heap.IsList l2 vs2.toArray) (hi2 : IntsAre vs2 ns2) (hlen2 : ns2.length < 100) (hl3 : s.heap.IsList l3 vs3.toArray) (hi3 : IntsAre vs3 ns3) (hlen3 : ns3.length < 100)
    (hp : Pr p) (hn1 : Nm p ns1) (hn2 : Nm p ns2) (hn3 : Nm p ns3) (hne : 0 < ns3.length) :
    CL w 400 4000 135 [.ref l1, .ref l2, .ref l3, .int p t] s (putF ns1 ns2 ns3 p) := by
  have hp2 := hp.two
  have hp7 := hp.le7
  k_with_none
  w_top off
  k_with "MY_ENTER" => (intro Q E hQ; (obtain ⟨X, loose, mean, mg, mb, T⟩ := (by assumption : Ok _ _)); k_dflt (refine enter (by k_asm) (by exact Top.nolimit (by assumption)) (by k_is) (by k_is) (by decide) (by exact BindsTo.of_eq rfl) (by exact locs rfl) ?_ (by exact rfl) (by exact rfl) (by exact rfl) (by decide); k_whole; intro h' F' N'; (try dsimp only); (try k_fold)))
  k_with "MY_ENTERC" => (intro Q E hQ; (obtain ⟨X, loose, mean, mg, mb, T⟩ := (by assumption : Ok _ _)); k_dflt (refine enterC (by k_asm) (by exact Top.nolimit (by assumption)) (by k_is) (by k_is) (by decide) (by exact BindsTo.of_eq rfl) (by exact rfl) (by decide +kernel) ?_ (by exact rfl) (by exact rfl) (by exact rfl); k_whole; intro h' tk' cells' F' N' Y'; (k_cells Y'); (try simp only [List.cons_append, List.nil_append] at N'); (try dsimp only); (try k_fold)))
  k_with "MY_ZETA" => (dsimp (config := { zetaDelta := true }) only)
  k_with "MY_RET" => ((rename (∀ (h' : Heap) (r : Addr) (us : List Value) (n tk : Nat), (∀ b o, _ = some o → _ = some o) → _) => hq9); (have h9 := CL.ret hq9); (refine h9 _ _ _ _ _ _ _ _ (by assumption) (by assumption) (by k_mem) ?_))
  k_with "MY_RETI" => ((rename (∀ (h' : Heap) (t : Tok) (tk : Nat), (∀ b o, _ = some o → _ = some o) → _) => hq9); (have h9 := CI.ret hq9); (refine h9 _ _ _ _ _ _ (by assumption) ?_))
  k_with "MY_FOR" => (k_here; (rename Fr _ _ _ _ => lF'); (with_unfolding_all refine For_invVF lF' (by exact rfl) (by exact rfl) ?_; k_whole))
  k_with "exec For Name Subscript cons nil" => k_extra "MY_FOR"
  k_with "EnumPost" => (dsimp only [EnumPost])
  k_with "EnumEnd" => ((rename Fr _ _ _ _ => fE'); (rename News _ _ _ _ => nE'); (refine EnumEnd.intro fE' nE' (by k_mem) (by kcj_all) (by kcj_all) (by first | assumption | l_ints) (by (intro z h1 h2 h3; (try simp only [List.contains_cons, List.contains_nil, Bool.or_false, Bool.or_eq_false_iff, beq_eq_false_iff_ne, ne_eq] at h3); (simp [openM, h1, h2, h3]))) (by k_extra "enumend")))
  k_with "DownPost" => (dsimp only [DownPost])
  k_with "DownEnd" => ((rename Fr _ _ _ _ => fE'); (rename News _ _ _ _ => nE'); (refine DownEnd.intro fE' nE' (by k_mem) (by k_mem) (by kcj_all) (by first | assumption | l_ints) (by first | assumption | l_ints) (by (intro z h1 h3; (try simp only [List.contains_cons, List.contains_nil, Bool.or_false, Bool.or_eq_false_iff, beq_eq_false_iff_ne, ne_eq] at h3); (simp [openM, h1, h3]))) (by k_extra "downend")))
  k_with "NPost" => (dsimp only [NPost])
  k_with "NEnd" => ((rename Fr _ _ _ _ => fE'); (rename News _ _ _ _ => nE'); (refine NEnd.intro fE' nE' (by with_unfolding_all rfl) (by k_mem) (by k_mem) (by k_mem) (by k_extra "MY_NE") (by (intro z h1 h2 h3; (try simp only [List.contains_cons, List.contains_nil, Bool.or_false, Bool.or_eq_false_iff, beq_eq_false_iff_ne, ne_eq] at h3); (simp [h1, h2, h3]))) (by first | assumption | l_ints) (by k_extra "nend")))
  k_with "MY_NE" => first | assumption | exact Ne.symm (by assumption) | ((rename (∀ p ∈ _, Prod.fst p ≠ _) => hq7); exact fun e => hq7 (_, _) (by k_mem) e.symm) | ((rename (∀ p ∈ _, Prod.fst p ≠ _) => hq7); exact fun e => hq7 (_, _) (by k_mem) e)
  k_with "execs cons Assign cons" => refine wpAny_execs_cons ?_
  k_with "MY_NE2" => k_dflt (rename (∀ p : Addr × Obj, p ∈ (_ : List (Addr × Obj)) → Prod.fst p ≠ _) => h9; first | (apply neOf h9; k_mem) | (apply neOf' h9; k_mem) | (clear h9; k_extra "MY_NE2"))
  k_with "MY_KNE" => (refine neN ?_; (try dsimp only); first | k_extra "MY_NE2" | omega)
  k_with "MY_OM" => with_reducible first | assumption | ((show @LT.lt Nat _ _ _); first | exact Nat.lt_of_lt_of_le (by assumption) (by decide) | exact Nat.lt_of_le_of_lt (by assumption) (by decide) | fail) | ((show @LE.le Nat _ _ _); first | exact Nat.le_of_lt (Nat.lt_of_lt_of_le (by assumption) (by decide)) | exact Nat.le_trans (by assumption) (by decide) | fail) | ((show @LT.lt Int _ _ _); first | exact Int.lt_of_lt_of_le (by assumption) (by decide) | exact Int.lt_of_le_of_lt (by assumption) (by decide) | exact ltlo (by assumption) (by decide) | exact Int.lt_of_lt_of_le (Int.lt_of_lt_of_le (by assumption) (by assumption)) (by decide) | fail) | ((show @LE.le Int _ _ _); first | exact lelo (by assumption) (by decide) | exact Int.le_trans (by assumption) (by decide) | fail) | fail
  k_with "call ref" => (k_here; (with_reducible show wpAny _ _ (call (Value.ref 80) _) _ _ _); (with_unfolding_all refine CL.use (mrest_c (by exact Ok.keeps (by assumption) (Fr.keep (by assumption))) (by is_list) (by first | l_ints | l_intsW) (by first | assumption | k_extra "MY_FIT" | l_fit) (by is_list) (by first | l_ints | l_intsW) (by first | assumption | k_extra "MY_FIT" | l_fit) (by first | assumption | k_extra "MY_FACT" | omega) (by first | assumption | k_extra "MY_FACT" | omega) (by first | assumption | k_extra "MY_FACT" | omega)) (by assumption) (by assumption) (by rfl) (by exact Nat.le_of_ble_eq_true rfl) (by exact Nat.le_of_ble_eq_true rfl) ?_; k_whole); intro r' us' n' h' tk' F' N' hne' hi'; (try k_sweep))
  k_with "call ref" => (k_here; (with_reducible show wpAny _ _ (call (Value.ref 66) _) _ _ _); (with_unfolding_all refine CL.use (mmul_c (by exact Ok.keeps (by assumption) (Fr.keep (by assumption))) (by is_list) (by first | l_ints | l_intsW) (by first | assumption | k_extra "MY_FIT" | l_fit) (by is_list) (by first | l_ints | l_intsW) (by first | assumption | k_extra "MY_FIT" | l_fit) (by first | assumption | k_extra "MY_FACT" | omega) (by first | assumption | k_extra "MY_FACT" | omega) (by first | assumption | k_extra "MY_FACT" | omega)) (by assumption) (by assumption) (by rfl) (by exact Nat.le_of_ble_eq_true rfl) (by exact Nat.le_of_ble_eq_true rfl) ?_; k_whole); intro r' us' n' h' tk' F' N' hne' hi'; (try k_sweep))
  k_with "call ref" => (k_here; (with_reducible show wpAny _ _ (call (Value.ref 42) _) _ _ _); (with_unfolding_all refine CL.use (madd_c (by exact Ok.keeps (by assumption) (Fr.keep (by assumption))) (by is_list) (by first | l_ints | l_intsW) (by first | assumption | k_extra "MY_FIT" | l_fit) (by is_list) (by first | l_ints | l_intsW) (by first | assumption | k_extra "MY_FIT" | l_fit) (by first | assumption | k_extra "MY_FACT" | omega)) (by assumption) (by assumption) (by rfl) (by exact Nat.le_of_ble_eq_true rfl) (by exact Nat.le_of_ble_eq_true rfl) ?_; k_whole); intro r' us' n' h' tk' F' N' hne' hi'; (try k_sweep))
  k_with "call ref" => (k_here; (with_reducible show wpAny _ _ (call (Value.ref 59) _) _ _ _); (with_unfolding_all refine CL.use (mscale_c (by exact Ok.keeps (by assumption) (Fr.keep (by assumption))) (by is_list) (by first | l_ints | l_intsW) (by first | assumption | k_extra "MY_FIT" | l_fit) (by first | assumption | k_extra "MY_FACT" | omega) (by first | assumption | k_extra "MY_FACT" | omega) (by first | assumption | k_extra "MY_FACT" | omega)) (by assumption) (by assumption) (by rfl) (by exact Nat.le_of_ble_eq_true rfl) (by exact Nat.le_of_ble_eq_true rfl) ?_; k_whole); intro r' us' n' h' tk' F' N' hne' hi'; (try k_sweep))
  k_with "MY_FIT" => first | exact Nat.lt_of_le_of_lt mulF_len (by omega) | exact Nat.lt_of_le_of_lt restF_len (by omega) | exact Nat.lt_of_le_of_lt scaleF_len (by decide) | decide
  walk_at "MY_ENTER"
  k_with "pyIter ref" =>
    (rename Fr _ _ _ _ => lF')
    (rename News _ _ _ _ => lN')
    (with_unfolding_all refine' newlist_st (y := Str.ofString "found") [] (PutI ns2 ns3 p ns1.reverse) rfl lF' lN' (by k_mem) (by assumption) (by decide) rfl (by k_mem) IntsAre.nil putI_0 ?_ ?_)
    (clear lF' lN')
    (intro i1 k1 t1 D1 us1 fs1 n1 u1 h1 tk1 I1 oI1 hg1 hlt1 hmem1 hI1 hP1 hnD hnl F1 N1)
    have hk1 := hn1.1 k1 (List.mem_reverse.mp hmem1)
    have hk2 := hk1.1
    have hk3 := hk1.2
    have hP2 := hP1.2.1
    have hP3 := hP1.2.2
    have hP4 := hP2.1
    have hk4 : k1 < 100 := by omega
    (try k_fold)
    rotate_left
    (intro D1 us1 fs1 n1 u1 h1 tk1 hI1 hP1 F1 N1)
    (try k_fold)
    rotate_right
  k_with "nend" => exact putI_step hp hlen3 hP1 hg1
  k_steps
  walk_at "MY_RET"
  rw [← putI_end hP1]
  assumption
end
section
/-- the call ends and hands back True; nothing that stood is changed -/
noncomputable def CB (w : World) (d u : Nat) (f : Addr) (args : List Value) (s : Shared) : Prop :=
  ∀ Q E : Value → Shared → Prop, (∀ h' tk, (∀ b o, s.heap.get? b = some o → h'.get? b = some o) → Q (.bool true) { s with heap := h', toks := tk }) →
    wpAny (model PySem.Challenge.rw_tk0026_01.row.prog w) (ar d u) (call (.ref f) args) Q E s
theorem rng_hi {k p : Int} (h : k < 0 + ((p - 0).toNat : Int)) (hp : 2 ≤ p) : k < p := by omega
theorem l100_900 {n : Nat} (h : n < 100) : n < 900 := Nat.lt_of_lt_of_le h (by decide)
theorem l100_800 {n : Nat} (h : n < 100) : n < 800 := Nat.lt_of_lt_of_le h (by decide)
theorem subF_lt100 {p v : Int} {row : List Int} (hp : Pr p) : (subF (polyF row p) [v] p).length < 100 := by
  have h1 := subF_len (a := polyF row p) (b := [v]) (p := p)
  have h2 := polyF_lt (row := row) hp
  simp only [List.length_cons, List.length_nil] at h1
  omega
theorem l100_400 {n : Nat} (h : n < 100) : n < 400 := Nat.lt_of_lt_of_le h (by decide)
theorem pr_ex {x : Int} (h0 : 0 ≤ x) (h3 : x < 3) : ∃ p, Pr p ∧ ([3, 7, 5] : List Int).getD x.toNat 0 = p := by
  have : x = 0 ∨ x = 1 ∨ x = 2 := by omega
  rcases this with rfl | rfl | rfl
  · exact ⟨3, .inl rfl, rfl⟩
  · exact ⟨7, .inr (.inr rfl), rfl⟩
  · exact ⟨5, .inr (.inl rfl), rfl⟩theorem divF_is {us : List Value} {p : Int} (h : IntsAre us ([0, p - 1] ++ (List.replicate (p - 2).toNat [0]).flatten ++ [1])) : IntsAre us (divF p) := h
noncomputable abbrev lawOf {n : Nat} {row : List Int} (p : Int) (_ : Arr n row) : Nat → List Int → List Int → Prop := LawI (polyF row p) p
/-- at the loop's turn: told's list is none of the others -/
theorem neT {base h : Heap} {L : Addr} {D T : Addr × Obj} {rest : List (Addr × Obj)} (_ : News base L h (D :: T :: rest)) (h : ∀ q ∈ rest, q.1 ≠ T.1) : ∀ q ∈ rest, q.1 ≠ T.1 := h
theorem l100_fit {n : Nat} (h : n < 100) : n < 2 ^ 62 := Nat.lt_of_lt_of_le h (by decide)
theorem told_lt100 {p : Int} {gs : List Int} (hp : Pr p) (h : gs.length = (p - 1).toNat) : gs.length < 100 := by
  have := hp.le7
  omega
theorem two_lt100 {a b : Int} : [a, b].length < 100 := by show 2 < 100; decide
theorem one_lt100 {a : Int} : [a].length < 100 := by show 1 < 100; decide
theorem n_lo {x : Int} (h : 0 ≤ x) : 0 ≤ 1 + x := by omega
theorem n_hi {x p : Int} (h : x < p - 1) (hp7 : p ≤ 7) : 1 + x < 100 := by omega
theorem law_next {p : Int} {f fs gs : List Int} {i : Nat} (hP : LawI f p i fs gs) : restF (mulF fs f p) (divF p) p = powS f p (i + 1) := by
  rw [hP.1]; rfl
theorem law_len {p k : Int} (hp : Pr p) {row fs gs : List Int} {i : Nat} (hA : Arr p.toNat row) (hP : LawI (polyF row p) p i fs gs) (hk : k = 1 + (i : Int)) (hlt : k < p) :
    ((((restF (mulF fs (polyF row p) p) (divF p) p).length : Int) == p) != (k == p - 1)) = false := by
  rw [law_next hP]
  have h := powS_len_iff hp hA (t := i + 1) (by omega) (by omega)
  by_cases e : k = p - 1
  · have e2 := h.mpr (by omega)
    simp [e, e2]
  · have e2 : ¬ ((powS (polyF row p) p (i + 1)).length : Int) = p := fun q => e (by have := h.mp q; omega)
    rw [beq_eq_false_iff_ne.mpr e, beq_eq_false_iff_ne.mpr e2]
    rfl
theorem law_pow {p k n : Int} (hp : Pr p) {row fs gs : List Int} {i : Nat} (hP : LawI (polyF row p) p i fs gs) (hk : k = 1 + (i : Int)) (hn : k = n) :
    powF (polyF row p) n.toNat (divF p) p = restF (mulF fs (polyF row p) p) (divF p) p := by
  rw [law_next hP, powF_eq hp (polyF_nm hp).1, show n.toNat = i + 1 by omega]
theorem law_step1 {p k : Int} {f fs gs : List Int} {i : Nat} (hP : LawI f p i fs gs) (hk : k = 1 + (i : Int)) (h : ((restF (mulF [0, 1] (restF (mulF fs f p) (divF p) p) p) (divF p) p).length : Int) = p) :
    LawI f p (i + 1) (restF (mulF fs f p) (divF p) p) (gs.set (p - 1 - k).toNat ((restF (mulF [0, 1] (restF (mulF fs f p) (divF p) p) p) (divF p) p).getD (p - 1).toNat 0)) := by
  refine ⟨law_next hP, ?_⟩
  have e := law_next hP
  rw [e] at h ⊢
  show _ = (toldS f p i).set (p - 1 - (1 + (i : Int))).toNat (topF (powS f p (i + 1)) p)
  unfold topF risenF
  rw [if_pos h, hP.2, hk]
theorem law_step0 {p k : Int} {f fs gs : List Int} {i : Nat} (hP : LawI f p i fs gs) (hk : k = 1 + (i : Int)) (h : ¬ ((restF (mulF [0, 1] (restF (mulF fs f p) (divF p) p) p) (divF p) p).length : Int) = p) :
    LawI f p (i + 1) (restF (mulF fs f p) (divF p) p) (gs.set (p - 1 - k).toNat 0) := by
  refine ⟨law_next hP, ?_⟩
  have e := law_next hP
  rw [e] at h
  show _ = (toldS f p i).set (p - 1 - (1 + (i : Int))).toNat (topF (powS f p (i + 1)) p)
  unfold topF risenF
  rw [if_neg h, hP.2, hk]
theorem law_full {p : Int} (hp : Pr p) {row fs gs : List Int} (hA : Arr p.toNat row) (hP : LawI (polyF row p) p (p - 1).toNat fs gs) : (fs.length : Int) = p := by
  have := hp.two
  rw [hP.1]
  exact (powS_len_iff hp hA (t := (p - 1).toNat) (by omega) (by omega)).mpr (by omega)
theorem law_last {p : Int} (hp : Pr p) {row fs gs : List Int} (hA : Arr p.toNat row) (hP : LawI (polyF row p) p (p - 1).toNat fs gs) : fs.getD (-1 + (fs.length : Int)).toNat 0 = 1 := by
  have h := powS_last hp hA
  have hl := law_full hp hA hP
  have := hp.two
  rw [← hP.1] at h
  rw [show (-1 + (fs.length : Int)).toNat = p.toNat - 1 by omega]
  exact h
/-- behind the loop: the box is none of the others -/
theorem neB {base h : Heap} {L : Addr} {D T r0 r1 r2 r3 r4 B : Addr × Obj} {rest : List (Addr × Obj)} (_ : News base L h (D :: T :: r0 :: r1 :: r2 :: r3 :: r4 :: B :: rest)) (h : ∀ q ∈ T :: r0 :: r1 :: r2 :: r3 :: r4 :: rest, q.1 ≠ B.1) : ∀ q ∈ T :: r0 :: r1 :: r2 :: r3 :: r4 :: rest, q.1 ≠ B.1 := h
theorem lay_arr {p : Int} {row : List Int} (hA : Arr p.toNat row) (hp : Pr p) : PyData.layable0 (.list (row.map .int)) = true := by
  refine layable_ints_perm (arr_perm hA) ?_
  rcases hp with rfl | rfl | rfl <;> decide +kernel
theorem arr_mem2 {p k : Int} {row : List Int} (hA : Arr p.toNat row) (h0 : 0 ≤ k) (h1 : k < p) : k ∈ row := arr_mem hA ⟨h0, by omega⟩
theorem inv_list {p : Int} {row : List Int} : List.map (fun k' => ((List.idxOf k' row : Nat) : Int)) (rangeKs 0 (p - 0).toNat) = invRow row p.toNat := by
  unfold rangeKs invRow
  rw [Int.sub_zero, List.map_map]
  refine List.map_congr_left fun v _ => ?_
  show ((List.idxOf (0 + (v : Int)) row : Nat) : Int) = _
  rw [Int.zero_add]
/-- the numbers that told holds while its last zeros are struck -/
noncomputable abbrev toldOf {p : Int} {row : List Int} (_ : Arr p.toNat row) (gs : List Int) : Prop := trimF gs = polyF (invRow row p.toNat) p ∧ gs.length ≤ 10
theorem told_0 {p : Int} (hp : Pr p) {row fs gs : List Int} (hA : Arr p.toNat row) (hP : LawI (polyF row p) p (p - 1).toNat fs gs) : toldOf hA gs := by
  refine ⟨?_, ?_⟩
  · rw [hP.2]; exact told_eq hp hA
  · have := lawI_told hP
    have := hp.le7
    omega
theorem told_lt {p : Int} {row gs : List Int} {hA : Arr p.toNat row} (h : toldOf hA gs) : gs.length < 100 := Nat.lt_of_le_of_lt h.2 (by decide)
noncomputable abbrev toldIs {p : Int} {row : List Int} (_ : Arr p.toNat row) (gs : List Int) : Prop := gs = polyF (invRow row p.toNat) p
theorem told_is_lt {p : Int} {row gs : List Int} {hA : Arr p.toNat row} (hp : Pr p) (h : toldIs hA gs) : gs.length < 100 := by rw [h]; exact polyF_lt100 hp
end
section
theorem poly_inv_c {w : World} {s : Shared} {l1 : Addr} {vs1 : List Value} {row : List Int} {p : Int} {t0 : Tok} (O : Ok w s.heap) (hl1 : s.heap.IsList l1 vs1.toArray)
    (hi1 : IntsAre vs1 (List.map (fun k' => ((List.idxOf k' row : Nat) : Int)) (rangeKs 0 (p - 0).toNat))) (hp : Pr p) (hA : Arr p.toNat row) :
    CL w 800 8000 128 [.ref l1, .int p t0] s (polyF (invRow row p.toNat) p) := by
  rw [inv_list] at hi1
  have h := inv_arr hA
  exact poly_c O hl1 hi1 (arr_lenI hp h) hp (arr_sm hp h) (polyF_ne hp h)
theorem comp_list {p : Int} {row other : List Int} (g : Arr p.toNat other) : List.map (fun k' => row.getD k'.toNat 0) other = compRow row other p.toNat := by
  refine ext_getD (by rw [List.length_map, g.1]; unfold compRow; simp) fun i hi => ?_
  rw [List.length_map, g.1] at hi
  unfold compRow
  rw [map_range_getD hi, List.getD_eq_getElem?_getD, List.getElem?_map]
  have hi2 : i < other.length := by rw [g.1]; exact hi
  rw [List.getD_eq_getElem?_getD (l := other), List.getElem?_eq_getElem hi2]
  rfl
theorem poly_comp_c {w : World} {s : Shared} {l1 : Addr} {vs1 : List Value} {row other : List Int} {p : Int} {t0 : Tok} (O : Ok w s.heap) (hl1 : s.heap.IsList l1 vs1.toArray)
    (hi1 : IntsAre vs1 (List.map (fun k' => row.getD k'.toNat 0) other)) (hp : Pr p) (hA : Arr p.toNat row) (hB : Arr p.toNat other) :
    CL w 800 8000 128 [.ref l1, .int p t0] s (polyF (compRow row other p.toNat) p) := by
  rw [comp_list hB] at hi1
  have h := comp_arr hA hB
  exact poly_c O hl1 hi1 (arr_lenI hp h) hp (arr_sm hp h) (polyF_ne hp h)
theorem nm_of_eq {p : Int} {fs row : List Int} (hp : Pr p) (h : fs = polyF row p) : Nm p fs := by rw [h]; exact polyF_nm hp
theorem told_step {p : Int} {row gs : List Int} {hA : Arr p.toNat row} (h : toldOf hA gs) (h0 : (0 : Int) < gs.length) (hb : gs.getD (-1 + (gs.length : Int)).toNat 0 = 0) : toldOf hA gs.dropLast ∧ gs.dropLast.length < gs.length := pop_step h (by omega) hb
theorem told_end {p : Int} {row gs : List Int} {hA : Arr p.toNat row} (h : toldOf hA gs) (h0 : (0 : Int) < gs.length) (hb : gs.getD (-1 + (gs.length : Int)).toNat 0 ≠ 0) : gs = polyF (invRow row p.toNat) p := pop_done h (by omega) hb
theorem told_end0 {p : Int} {row gs : List Int} {hA : Arr p.toNat row} (h : toldOf hA gs) (h0 : ¬ (0 : Int) < gs.length) : gs = polyF (invRow row p.toNat) p := by
  have e : gs = [] := List.length_eq_zero_iff.mp (by omega)
  have := h.1
  rw [e] at this ⊢
  exact this
theorem arr_size {p : Int} {vs : List Value} {ns : List Int} (hi : IntsAre vs ns) (hA : Arr p.toNat ns) (hp : Pr p) : vs.toArray.size ≤ sizeLine := by
  have h1 := hi.length
  have h2 := hA.1
  have h3 := hp.le7
  rw [PySem.sizeLine_eq, List.size_toArray]
  omega
theorem arr_item_lo {p k : Int} {other : List Int} (hk : k ∈ other) (hB : Arr p.toNat other) : 0 ≤ k := (hB.2.1 k hk).1
theorem arr_item_hi {p k : Int} {row other : List Int} (hk : k ∈ other) (hB : Arr p.toNat other) (hA : Arr p.toNat row) : k < row.length := by
  have h1 := (hB.2.1 k hk).2
  rw [hA.1]
  exact h1
theorem arr_item_fit {p k : Int} {other : List Int} (hk : k ∈ other) (hB : Arr p.toNat other) (hp : Pr p) : k < 2 ^ 63 := by
  have h1 := (hB.2.1 k hk).2
  have h2 := hp.le7
  omega
theorem put_1 {p : Int} {row fs : List Int} (hp : Pr p) (hA : Arr p.toNat row) (h : fs = polyF (invRow row p.toNat) p) : putF (polyF row p) fs (divF p) p = [0, 1] := by rw [h]; exact put_f_told hp hA
theorem put_2 {p : Int} {row fs : List Int} (hp : Pr p) (hA : Arr p.toNat row) (h : fs = polyF (invRow row p.toNat) p) : putF fs (polyF row p) (divF p) p = [0, 1] := by rw [h]; exact put_told_f hp hA
theorem gcd_ref {p v : Int} {row : List Int} (hn : ¬ gcdF (subF (polyF row p) [v] p) (divF p) p = [Int.fmod (0 - ((row.idxOf v : Nat) : Int)) p, 1]) (hp : Pr p) (hA : Arr p.toNat row) (h0 : 0 ≤ v) (h1 : v < p) : False := hn (gcd_poly hp hA ⟨h0, h1⟩)
theorem mat_list {p : Int} {row : List Int} (hp : Pr p) (hA : Arr p.toNat row) : List.map (fun k' => matF (polyF row p) k' p) (rangeKs 0 (p - 0).toNat) = row := by
  refine ext_getD (by rw [List.length_map, rangeKs_length, hA.1, Int.sub_zero]) fun i hi => ?_
  rw [List.length_map, rangeKs_length, Int.sub_zero] at hi
  unfold rangeKs
  rw [List.map_map, Int.sub_zero, map_range_getD hi]
  show matF (polyF row p) (0 + (i : Int)) p = _
  rw [Int.zero_add]
  exact mat_poly hp hA (by omega)
theorem mat_ref {p : Int} {row : List Int} (hn : ¬ List.map (fun k' => matF (polyF row p) k' p) (rangeKs 0 (p - 0).toNat) = row) (hp : Pr p) (hA : Arr p.toNat row) : False := hn (mat_list hp hA)
end
section
set_option maxHeartbeats 16000000 in
theorem law_c {w : World} {s : Shared} {l1 : Addr} {vs1 : List Value} {ns1 : List Int} (O : Ok w s.heap) (hl1 : s.heap.IsList l1 vs1.toArray) (hi1 : IntsAre vs1 ns1) (hlen1 : ns1.length ≤ 63) :
    CB w 310 3000 140 [.ref l1] s := by
  k_with_none
  w_top off
  k_with "MY_ENTER" => (intro Q E hQ; (obtain ⟨X, loose, mean, mg, mb, T⟩ := (by assumption : Ok _ _)); k_dflt (refine enter (by k_asm) (by exact Top.nolimit (by assumption)) (by k_is) (by k_is) (by decide) (by exact BindsTo.of_eq rfl) (by exact locs rfl) ?_ (by exact rfl) (by exact rfl) (by exact rfl) (by decide); k_whole; intro h' F' N'; (try dsimp only); (try k_fold)))
  k_with "MY_ENTERC" => (intro Q E hQ; (obtain ⟨X, loose, mean, mg, mb, T⟩ := (by assumption : Ok _ _)); k_dflt (refine enterC (by k_asm) (by exact Top.nolimit (by assumption)) (by k_is) (by k_is) (by decide) (by exact BindsTo.of_eq rfl) (by exact rfl) (by decide +kernel) ?_ (by exact rfl) (by exact rfl) (by exact rfl); k_whole; intro h' tk' cells' F' N' Y'; (k_cells Y'); (try simp only [List.cons_append, List.nil_append] at N'); (try dsimp only); (try k_fold)))
  k_with "MY_ZETA" => (dsimp (config := { zetaDelta := true }) only)
  k_with "MY_RET" => ((rename (∀ (h' : Heap) (r : Addr) (us : List Value) (n tk : Nat), (∀ b o, _ = some o → _ = some o) → _) => hq9); (have h9 := CL.ret hq9); (refine h9 _ _ _ _ _ _ _ _ (by assumption) (by assumption) (by k_mem) ?_))
  k_with "MY_RETI" => ((rename (∀ (h' : Heap) (t : Tok) (tk : Nat), (∀ b o, _ = some o → _ = some o) → _) => hq9); (have h9 := CI.ret hq9); (refine h9 _ _ _ _ _ _ (by assumption) ?_))
  k_with "MY_FOR" => (k_here; (rename Fr _ _ _ _ => lF'); (with_unfolding_all refine For_invVF lF' (by exact rfl) (by exact rfl) ?_; k_whole))
  k_with "exec For Name Subscript cons nil" => k_extra "MY_FOR"
  k_with "EnumPost" => (dsimp only [EnumPost])
  k_with "EnumEnd" => ((rename Fr _ _ _ _ => fE'); (rename News _ _ _ _ => nE'); (refine EnumEnd.intro fE' nE' (by k_mem) (by kcj_all) (by kcj_all) (by first | assumption | l_ints) (by (intro z h1 h2 h3; (try simp only [List.contains_cons, List.contains_nil, Bool.or_false, Bool.or_eq_false_iff, beq_eq_false_iff_ne, ne_eq] at h3); (simp [openM, h1, h2, h3]))) (by k_extra "enumend")))
  k_with "DownPost" => (dsimp only [DownPost])
  k_with "DownEnd" => ((rename Fr _ _ _ _ => fE'); (rename News _ _ _ _ => nE'); (refine DownEnd.intro fE' nE' (by k_mem) (by k_mem) (by kcj_all) (by first | assumption | l_ints) (by first | assumption | l_ints) (by (intro z h1 h3; (try simp only [List.contains_cons, List.contains_nil, Bool.or_false, Bool.or_eq_false_iff, beq_eq_false_iff_ne, ne_eq] at h3); (simp [openM, h1, h3]))) (by k_extra "downend")))
  k_with "NPost" => (dsimp only [NPost])
  k_with "NEnd" => ((rename Fr _ _ _ _ => fE'); (rename News _ _ _ _ => nE'); (refine NEnd.intro fE' nE' (by with_unfolding_all rfl) (by k_mem) (by k_mem) (by k_mem) (by k_extra "MY_NE") (by (intro z h1 h2 h3; (try simp only [List.contains_cons, List.contains_nil, Bool.or_false, Bool.or_eq_false_iff, beq_eq_false_iff_ne, ne_eq] at h3); (simp [h1, h2, h3]))) (by first | assumption | l_ints) (by k_extra "nend")))
  k_with "MY_NE" => first | assumption | exact Ne.symm (by assumption) | ((rename (∀ p ∈ _, Prod.fst p ≠ _) => hq7); exact fun e => hq7 (_, _) (by k_mem) e.symm) | ((rename (∀ p ∈ _, Prod.fst p ≠ _) => hq7); exact fun e => hq7 (_, _) (by k_mem) e)
  k_with "execs cons Assign cons" => refine wpAny_execs_cons ?_
  k_with "MY_NE2" => k_dflt (rename (∀ p : Addr × Obj, p ∈ (_ : List (Addr × Obj)) → Prod.fst p ≠ _) => h9; first | (apply neOf h9; k_mem) | (apply neOf' h9; k_mem) | (clear h9; k_extra "MY_NE2"))
  k_with "MY_KNE" => (refine neN ?_; (try dsimp only); first | k_extra "MY_NE2" | omega)
  k_with "MY_OM" => with_reducible first | assumption | ((show @LT.lt Nat _ _ _); first | exact Nat.lt_of_lt_of_le (by assumption) (by decide) | exact Nat.lt_of_le_of_lt (by assumption) (by decide) | fail) | ((show @LE.le Nat _ _ _); first | exact Nat.le_of_lt (Nat.lt_of_lt_of_le (by assumption) (by decide)) | exact Nat.le_trans (by assumption) (by decide) | fail) | ((show @LT.lt Int _ _ _); first | exact Int.lt_of_lt_of_le (by assumption) (by decide) | exact Int.lt_of_le_of_lt (by assumption) (by decide) | exact ltlo (by assumption) (by decide) | exact Int.lt_of_lt_of_le (Int.lt_of_lt_of_le (by assumption) (by assumption)) (by decide) | fail) | ((show @LE.le Int _ _ _); first | exact lelo (by assumption) (by decide) | exact Int.le_trans (by assumption) (by decide) | fail) | fail
  k_with "call ref" => (k_here; (with_reducible show wpAny _ _ (call (Value.ref 128) _) _ _ _); (with_unfolding_all refine CL.use (poly_c (by exact Ok.keeps (by assumption) (Fr.keep (by assumption))) (by is_list) (by first | l_ints | l_intsW) (by first | with_reducible assumption | k_extra "MY_FIT" | l_fit) (by first | with_reducible assumption | k_extra "MY_FACT") (by first | with_reducible assumption | k_extra "MY_FACT") (by first | with_reducible assumption | k_extra "MY_FACT")) (by assumption) (by assumption) (by rfl) (by exact Nat.le_of_ble_eq_true rfl) (by exact Nat.le_of_ble_eq_true rfl) ?_; k_whole); intro r' us' n' h' tk' F' N' hne' hi'; (try k_sweep))
  k_with "call ref" => (k_here; (with_reducible show wpAny _ _ (call (Value.ref 94) _) _ _ _); (with_unfolding_all refine CI.use (mat_c (by exact Ok.keeps (by assumption) (Fr.keep (by assumption))) (by is_list) (by first | l_ints | l_intsW) (by first | with_reducible assumption | k_extra "MY_FIT" | l_fit) (by first | with_reducible assumption | k_extra "MY_FACT") (by first | with_reducible assumption | k_extra "MY_FACT") (by first | with_reducible assumption | k_extra "MY_FACT") (by first | with_reducible assumption | k_extra "MY_FACT")) (by assumption) (by assumption) (by rfl) (by exact Nat.le_of_ble_eq_true rfl) (by exact Nat.le_of_ble_eq_true rfl) ?_; k_whole); intro t' h' tk' F' N'; (try k_sweep))
  k_with "call ref" => (k_here; (with_reducible show wpAny _ _ (call (Value.ref 66) _) _ _ _); (with_unfolding_all refine CL.use (mmul_c (by exact Ok.keeps (by assumption) (Fr.keep (by assumption))) (by is_list) (by first | l_ints | l_intsW) (by first | with_reducible assumption | k_extra "MY_FIT" | l_fit) (by is_list) (by first | l_ints | l_intsW) (by first | with_reducible assumption | k_extra "MY_FIT" | l_fit) (by first | with_reducible assumption | k_extra "MY_FACT") (by first | with_reducible assumption | k_extra "MY_FACT") (by first | with_reducible assumption | k_extra "MY_FACT")) (by assumption) (by assumption) (by rfl) (by exact Nat.le_of_ble_eq_true rfl) (by exact Nat.le_of_ble_eq_true rfl) ?_; k_whole); intro r' us' n' h' tk' F' N' hne' hi'; (try k_sweep))
  k_with "call ref" => (k_here; (with_reducible show wpAny _ _ (call (Value.ref 80) _) _ _ _); (with_unfolding_all refine CL.use (mrest_c (by exact Ok.keeps (by assumption) (Fr.keep (by assumption))) (by is_list) (by first | l_ints | l_intsW) (by first | with_reducible assumption | k_extra "MY_FIT" | l_fit) (by is_list) (by first | l_ints | l_intsW) (by first | with_reducible assumption | k_extra "MY_FIT" | l_fit) (by first | with_reducible assumption | k_extra "MY_FACT") (by first | with_reducible assumption | k_extra "MY_FACT") (by first | with_reducible assumption | k_extra "MY_FACT")) (by assumption) (by assumption) (by rfl) (by exact Nat.le_of_ble_eq_true rfl) (by exact Nat.le_of_ble_eq_true rfl) ?_; k_whole); intro r' us' n' h' tk' F' N' hne' hi'; (try k_sweep))
  k_with "call ref" => (k_here; (with_reducible show wpAny _ _ (call (Value.ref 101) _) _ _ _); (with_unfolding_all refine CL.use (mpower_c (by exact Ok.keeps (by assumption) (Fr.keep (by assumption))) (by is_list) (by first | l_ints | l_intsW) (by first | with_reducible assumption | k_extra "MY_FIT" | l_fit) (by is_list) (by first | l_ints | l_intsW) (by first | with_reducible assumption | k_extra "MY_FIT" | l_fit) (by first | with_reducible assumption | k_extra "MY_FACT") (by first | with_reducible assumption | k_extra "MY_FACT") (by first | with_reducible assumption | k_extra "MY_FACT") (by first | with_reducible assumption | k_extra "MY_FACT") (by first | with_reducible assumption | k_extra "MY_FACT") (by first | with_reducible assumption | k_extra "MY_FACT")) (by assumption) (by assumption) (by rfl) (by exact Nat.le_of_ble_eq_true rfl) (by exact Nat.le_of_ble_eq_true rfl) ?_; k_whole); intro r' us' n' h' tk' F' N' hne' hi'; (try k_sweep))
  k_with "call ref" => (k_here; (with_reducible show wpAny _ _ (call (Value.ref 54) _) _ _ _); (with_unfolding_all refine CL.use (msub_c (by exact Ok.keeps (by assumption) (Fr.keep (by assumption))) (by is_list) (by first | l_ints | l_intsW) (by first | with_reducible assumption | k_extra "MY_FIT" | l_fit) (by is_list) (by first | l_ints | l_intsW) (by first | with_reducible assumption | k_extra "MY_FIT" | l_fit) (by first | with_reducible assumption | k_extra "MY_FACT")) (by assumption) (by assumption) (by rfl) (by exact Nat.le_of_ble_eq_true rfl) (by exact Nat.le_of_ble_eq_true rfl) ?_; k_whole); intro r' us' n' h' tk' F' N' hne' hi'; (try k_sweep))
  k_with "call ref" => (k_here; (with_reducible show wpAny _ _ (call (Value.ref 108) _) _ _ _); (with_unfolding_all refine CL.use (mgcd_c (by exact Ok.keeps (by assumption) (Fr.keep (by assumption))) (by is_list) (by first | l_ints | l_intsW) (by first | with_reducible assumption | k_extra "MY_FIT" | l_fit) (by is_list) (by first | l_ints | l_intsW) (by first | with_reducible assumption | k_extra "MY_FIT" | l_fit) (by first | with_reducible assumption | k_extra "MY_FACT") (by first | with_reducible assumption | k_extra "MY_FACT") (by first | with_reducible assumption | k_extra "MY_FACT")) (by assumption) (by assumption) (by rfl) (by exact Nat.le_of_ble_eq_true rfl) (by exact Nat.le_of_ble_eq_true rfl) ?_; k_whole); intro r' us' n' h' tk' F' N' hne' hi'; (try k_sweep))
  k_with "call ref" => (k_here; (with_reducible show wpAny _ _ (call (Value.ref 135) _) _ _ _); (with_unfolding_all refine CL.use (put_c (by exact Ok.keeps (by assumption) (Fr.keep (by assumption))) (by is_list) (by first | l_ints | l_intsW) (by first | with_reducible assumption | k_extra "MY_FIT" | l_fit) (by is_list) (by first | l_ints | l_intsW) (by first | with_reducible assumption | k_extra "MY_FIT" | l_fit) (by is_list) (by first | l_ints | l_intsW) (by first | with_reducible assumption | k_extra "MY_FIT" | l_fit) (by first | with_reducible assumption | k_extra "MY_FACT") (by first | with_reducible assumption | k_extra "MY_FACT") (by first | with_reducible assumption | k_extra "MY_FACT") (by first | with_reducible assumption | k_extra "MY_FACT") (by first | with_reducible assumption | k_extra "MY_FACT")) (by assumption) (by assumption) (by rfl) (by exact Nat.le_of_ble_eq_true rfl) (by exact Nat.le_of_ble_eq_true rfl) ?_; k_whole); intro r' us' n' h' tk' F' N' hne' hi'; (try k_sweep))
  k_with "call ref" => (k_here; (with_reducible show wpAny _ _ (call (Value.ref 116) _) _ _ _); (with_unfolding_all refine BT.useW (by assumption) (by assumption) (by k_mem) (by assumption) (by is_list) (take_c (by assumption) (by first | assumption | omega) (by omega) (by omega) (by omega) (by omega)) (by first | k_extra "MY_NE2" | omega) (by rfl) (by exact Nat.le_of_ble_eq_true rfl) (by exact Nat.le_of_ble_eq_true rfl) ?_; k_whole); intro x' tx' t2' n2' h' tk' h0' h1' F' NU'; (have N' := NU' _ (by k_upd)); (clear NU'); (try k_sweep))
  k_with "call ref" => (k_here; (with_reducible show wpAny _ _ (call (Value.ref 123) _) _ _ _); (with_unfolding_all refine BA.useW (by assumption) (by assumption) (by k_mem) (by assumption) (by is_list) (arranged_c (by assumption) (by first | assumption | omega) (by omega) (by omega) (by assumption) (by first | k_extra "MY_NE2" | omega)) (by first | k_extra "MY_NE2" | omega) (by rfl) (by exact Nat.le_of_ble_eq_true rfl) (by exact Nat.le_of_ble_eq_true rfl) ?_; k_whole); intro r' us' fs' n' t2' n2' h' tk' hi' hA' hne' F' NU'; (have N' := NU' _ (by k_upd)); (clear NU'); (try k_sweep))
  k_with "MY_FACT" => with_reducible first | (refine rng_hi ?_ ?_ <;> assumption) | (refine n_lo ?_; assumption) | (refine n_hi (p := _) (by assumption) (by assumption)) | (refine arr_sm ?_ ?_ <;> assumption) | (refine polyF_ne ?_ ?_ <;> assumption) | (refine polyF_nm ?_; assumption) | (refine divF_nm ?_; assumption) | (refine nm_of_eq (row := _) (by assumption) (by assumption)) | (refine divF_pos ?_; assumption) | (refine x_sm ?_; assumption) | (refine x_nm ?_; assumption) | (refine mulF_nm (Pr.pos ?_); assumption) | (refine subF_nm (Pr.pos ?_); assumption) | (refine restF_nm (Pr.pos ?_) (mulF_nm (Pr.pos ?_)).1 <;> assumption) | (refine (mulF_nm (Pr.pos ?_)).1; assumption) | (refine (polyF_nm ?_).1; assumption) | (refine (divF_nm ?_).1; assumption) | (refine (restF_nm (Pr.pos ?_) (mulF_nm (Pr.pos ?_)).1).1 <;> assumption)
  k_with "MY_L100" => with_reducible first | assumption | (refine polyF_lt100 ?_; assumption) | (refine restF_lt100 ?_; assumption) | (refine divF_lt100 ?_; assumption) | (refine subF_lt100 ?_ <;> assumption) | (refine told_lt100 (p := _) (by assumption) (by assumption)) | exact two_lt100 | exact one_lt100
  k_with "MY_FIT" => with_reducible first | (refine arr_lenI ?_ ?_ <;> assumption) | (refine mulF_lt400 ?_ ?_ <;> k_extra "MY_L100") | k_extra "MY_L100" | (refine l100_900 ?_; k_extra "MY_L100") | (refine l100_800 ?_; k_extra "MY_L100") | (refine l100_400 ?_; k_extra "MY_L100")
  k_with "MY_LEN" => (refine l100_fit ?_; k_extra "MY_L100")
  k_with "call builtin:len" => (k_here; (with_reducible show wpAny _ _ (call (Value.builtin _) [Value.ref _]) _ _ _); (with_unfolding_all refine len_ints_fit (by is_list) (by l_ints) (by k_extra "MY_LEN") ?_; k_whole))
  k_with "WPost" => (dsimp only [WPost])
  k_with "WEnd" => ((rename Fr _ _ _ _ => fE'); (rename News _ _ _ _ => nE'); (refine WEnd.intro fE' nE' (by with_unfolding_all rfl) (by k_mem) (by k_mem) (by kcj_all) (by k_mem) (by k_ne) (by k_ne) (by (intro z h1 h2 h3; (try simp only [List.contains_cons, List.contains_nil, Bool.or_false, Bool.or_eq_false_iff, beq_eq_false_iff_ne, ne_eq] at h3); (simp [h1, h2, h3]))) (by first | assumption | l_ints) (by first | assumption | l_ints) (by k_extra "wend")))
  k_with "exec For Name Call cons nil" => k_extra "MY_FOR"
  k_with "storeName" => k_extra "gen"
  k_with "call builtin:list.index" => (k_here; (with_reducible show wpAny _ _ (call (Value.builtin _) [Value.ref _, Value.int _ _]) _ _ _); (with_unfolding_all refine index_list_ints (by is_list) (by assumption) (by (refine lay_arr (p := _) (by assumption) (by assumption))) (by (refine arr_mem2 (p := _) (by assumption) (by assumption) (by first | assumption | (refine rng_hi ?_ ?_ <;> assumption)))) ?_; k_whole))
  k_with "PopPost" => (dsimp only [PopPost])
  k_with "PopEnd" => ((rename Fr _ _ _ _ => fE'); (rename News _ _ _ _ => nE'); (refine PopEnd.intro fE' nE' (by k_mem) (by kcj_all) (by first | l_ints | assumption) (by k_extra "popend")))
  k_with "call ref" => (k_here; (with_reducible show wpAny _ _ (call (Value.ref 128) _) _ _ _); (with_unfolding_all refine CL.use (poly_inv_c (by exact Ok.keeps (by assumption) (Fr.keep (by assumption))) (by is_list) (by with_reducible assumption) (by with_reducible assumption) (by with_reducible assumption)) (by assumption) (by assumption) (by rfl) (by exact Nat.le_of_ble_eq_true rfl) (by exact Nat.le_of_ble_eq_true rfl) ?_; k_whole); intro r' us' n' h' tk' F' N' hne' hi'; (try k_sweep))
  k_with "call ref" => (k_here; (with_reducible show wpAny _ _ (call (Value.ref 128) _) _ _ _); (with_unfolding_all refine CL.use (poly_comp_c (by exact Ok.keeps (by assumption) (Fr.keep (by assumption))) (by is_list) (by with_reducible assumption) (by with_reducible assumption) (by with_reducible assumption) (by with_reducible assumption)) (by assumption) (by assumption) (by rfl) (by exact Nat.le_of_ble_eq_true rfl) (by exact Nat.le_of_ble_eq_true rfl) ?_; k_whole); intro r' us' n' h' tk' F' N' hne' hi'; (try k_sweep))
  k_with "MY_SIZE" => (refine arr_size (p := _) (by assumption) (by assumption) (by assumption))
  k_with "CompSrc" => (k_here; k_dflt (refine LCg.CompSrc.ledger (by rfl) (by k_asm) (by k_asm) (by k_mem) (by k_extra "MY_SIZE") ?_; intro g'; (refine' kcf_list _ (by assumption) (fun k' t' I' oI' C' oC' D' m' ys' h' tk' E' hk' hC' hx' F' N' off' ne' hMark' => ?_) ?_); (all_goals (try (simp only [LCg.Off3, and_true] at off'))); kcf_last))
  k_with "subscriptTail Name Name ref int" => ((with_reducible show wpAny _ _ (subscriptTail _ _ (Value.ref _) (Value.int _ _)) _ _ _); (with_unfolding_all refine item_list_ints (by is_list) (by l_ints) (by (refine arr_item_lo (p := _) (other := _) (by assumption) (by assumption))) (by (refine arr_item_hi (p := _) (other := _) (by assumption) (by assumption) (by assumption))) (by (refine arr_item_fit (p := _) (other := _) (by assumption) (by assumption) (by assumption))) ?_; k_whole); intro _)
  k_with "PopOut" => ((rename Fr _ _ _ _ => fE'); (rename News _ _ _ _ => nE'); refine PopOut.intro fE' nE' (by assumption) ?_; k_extra "popout")
  k_with "PopQ" => (dsimp only [PopQ])
  walk_at "MY_ENTERC"
  k_with "gen" =>
    (rename (_ < (3 : Int)) => hx3)
    (have hpe := pr_ex (by assumption) hx3)
    (obtain ⟨p, hp, he⟩ := hpe)
    (rw [he])
    (have hp2 := hp.two)
    (have hp7 := hp.le7)
    (have hMark : Stopped True := Stopped.on trivial)
    (clear he hx3)
  k_with "exec If BoolOp cons nil" =>
    (clear hMark)
    (rename News _ _ _ _ => lN')
    (with_unfolding_all have N9 := news_pick lN' (.cons (i := 1) rfl (.cons (i := 2) rfl (.cons (i := 4) rfl (.cons (i := 11) rfl (.cons (i := 12) rfl (.cons (i := 13) rfl (.cons (i := 14) rfl (.cons (i := 16) rfl (.cons (i := 17) rfl (.cons (i := 18) rfl (.cons (i := 19) rfl .nil))))))))))))
    (clear lN')
  k_with "pyIter ref" =>
    (rename Fr _ _ _ _ => lF')
    (rename News _ _ _ _ => lN')
    (rename (IntsAre _ ([0, p - 1] ++ _ ++ [1])) => hdv)
    (replace hdv := divF_is hdv)
    (rename Arr _ _ => hAo)
    (revert hAo)
    (rename Arr _ _ => hAr)
    (intro hAo)
    (with_unfolding_all refine' twolist_st (y := Str.ofString "power") (fs₀ := [1]) _ (p - 1).toNat [Str.ofString "risen"] (lawOf p hAr) rfl (by assumption) rfl (by decide) (by decide) (by omega) (by omega) lF' lN' rfl (by k_mem) (.tail _ (.head _)) (Picks.sub (.cons (i := 6) rfl (.cons (i := 7) rfl (.cons (i := 8) rfl (.cons (i := 9) rfl (.cons (i := 10) rfl (.cons (i := 11) rfl (.cons (i := 12) rfl (.cons (i := 13) rfl (.cons (i := 14) rfl (.cons (i := 15) rfl (.cons (i := 16) rfl .nil)))))))))))) (by k_ne) (by l_ints) (by assumption) lawI_0 ?_ ?_)
    (clear lF' lN')
    (intro i1 k1 t1 D1 us1 fs1 n1 ws1 gs1 nt1 u1 h1 tk1 I1 oI1 hk1 hlt1 hI1 hJ1 hP1 hDT hne1 F1 N1)
    k_dflt (
      (have hA1 := lawI_nm hp hP1)
      (have hA2 := hA1.1)
      (have hA3 := lawI_len hp hP1)
      (have hA4 := lawI_told hP1)
      (have hk2 : 1 ≤ k1 := by omega)
      (have hk3 : k1 < p := by omega)
      (simp only [List.cons_append, List.nil_append] at N1)
      (have hTn := neT N1 (by k_all))
      (try k_fold)
      (revert hne1 hTn)
      (repeat (rename (@LT.lt Nat _ _ _ ∧ _) => hz; clear hz))
      (repeat (rename (@Ne Addr _ _ ∧ _) => hz; clear hz))
      (repeat (rename (∀ p ∈ _, Prod.fst p ≠ _) => hz; clear hz))
      (repeat (rename (_ < (0 : Int) → _) => hz; clear hz))
      (repeat (rename ((0 : Int) ≤ _ → _) => hz; clear hz))
      (intro hne1 hTn))
    rotate_left
    (intro D1 us1 fs1 n1 ws1 gs1 nt1 u1 h1 tk1 hI1 hJ1 hP1 hDT F1 N1)
    k_dflt (
      (have hA1 := lawI_nm hp hP1)
      (have hA2 := hA1.1)
      (have hA3 := lawI_len hp hP1)
      (have hA4 := lawI_told hP1)
      (have hA5 := law_full hp hAr hP1)
      (have hA6 := law_last hp hAr hP1)
      (have hTn := neT N1 (by k_all))
      (have hBn := neB N1 (by k_all))
      (try k_fold)
      (revert hBn hTn)
      (repeat (rename (@LT.lt Nat _ _ _ ∧ _) => hz; clear hz))
      (repeat (rename (@Ne Addr _ _ ∧ _) => hz; clear hz))
      (repeat (rename (∀ p ∈ _, Prod.fst p ≠ _) => hz; clear hz))
      (repeat (rename (_ < (0 : Int) → _) => hz; clear hz))
      (repeat (rename ((0 : Int) ≤ _ → _) => hz; clear hz))
      (intro hTn hBn))
    rotate_right
  k_with "wend" => first | exact law_step1 hP1 hk1 (by assumption) | exact law_step0 hP1 hk1 (by assumption)
  k_with "exec While BoolOp cons nil" =>
    (rename Fr _ _ _ _ => lF')
    (rename News _ _ _ _ => lN')
    (with_unfolding_all refine' pop_while_out _ (toldOf hAr) (toldIs hAr) lF' lN' (.tail _ (.head _)) (fun p hp => .tail _ (.tail _ hp)) hJ1 (told_0 hp hAr hP1) ?_ ?_ (by passes_own))
    (clear lF' lN')
    (intro us2 fs2 n2 h2 tk2 hI2 hP2 F2 N2)
    (have hu2 := hI2.length)
    (have hf2 := told_lt hP2)
    (have hf3 := hP2.2)
    (try k_fold)
    rotate_left
    (intro us2 fs2 n2 h2 tk2 hI2 hE2 F2 N2)
    (have hf2 := told_is_lt hp hE2)
    (try k_fold)
    rotate_right
  k_with "popout" => first | exact told_end hP2 (by assumption) (by assumption) | exact told_end0 hP2 (by assumption)
  k_with "popend" => exact told_step hP2 (by assumption) (by assumption)
  k_steps
  all_goals first | exact (mat_ref (by assumption) (by assumption) (by assumption)).elim | exact (Bool.false_ne_true ((law_len hp hAr hP1 hk1 hk3).symm.trans (by assumption))).elim | exact absurd (law_pow hp hP1 hk1 (by assumption)) (by assumption) | exact absurd (law_pow hp hP1 hk1 rfl) (by assumption) | exact absurd hA6 (by assumption) | exact absurd hE2 (by assumption) | exact absurd (put_1 hp hAr hE2) (by assumption) | exact absurd (put_2 hp hAr hE2) (by assumption) | exact (gcd_ref (by assumption) hp hAr (by assumption) (by assumption)).elim | ((have e := put_f_h hp hAr hAo); (rw [decide_eq_true e]); (rename (∀ (h' : Heap) (tk : Nat), (∀ b o, _ = some o → _ = some o) → _) => hq9); exact hq9 _ _ (Fr.keep (by assumption)))
end
end Mine
end
open PySem PySem.W PyProof.Rows
set_option maxRecDepth 100000 in
set_option maxHeartbeats 8000000 in
theorem PySem.Challenge.cw_tk0026_01_holds : PySem.Challenge.rw_tk0026_01.Holds := by
  refine Mine.hd ?_
  k_with_none
  w_top off
  k_fill
  intro w s₀ s₁ mg mb G Y fa o pm cd doc dV kV ho hdd hcd hD hmg hg args vals as hpre hlay hrd hwl hlo
  have KX := kIn_of Y
  refine Ground.open G ?_
  intro T B D TE TW
  have e1 := mg_of KX (Top.g T) (n := Str.ofString "law") (v := .ref 140) (by kernel_rfl)
  have e3 : some (Value.ref fa) = some (Value.ref 140) := hmg.symm.trans e1
  injection e3 with e4
  injection e4 with e5
  subst e5
  wrow_args hpre hlay hrd hwl hlo
  rename (Heap.IsList _ _ _) => hL9
  rename (IntsAre _ _) => hI9
  rename (¬ _ < _) => hc9
  refine Mine.weaken rfl (by decide) (by decide) (Mine.law_c ⟨KX, _, _, _, _, T⟩ hL9 hI9 (by omega) _ _ (fun h' tk hk => ?_))
  refine GoodW.toG ⟨.inl ⟨.bool true, .bool true, [], rfl, ?_, ?_, ?_, ?_⟩, hk, rfl, hg⟩
  · intro cls; rfl
  · exact .bool true
  · kc_post
  · exact unshared_nil
