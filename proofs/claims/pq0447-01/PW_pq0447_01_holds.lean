import PyProof.Rows.All
import Wide.All
import OpenK.AllK
import Wide.FinOn
import Lean
import PySem.Challenge.RW_pq0447_01
set_option Elab.async false
set_option maxRecDepth 100000
set_option compiler.extract_closed false
/-! part Hd -/
namespace Mine

open PySem PySem.W PyProof.Rows
/-- the top's run from the state that the library's boot leaves, said with the library's own twins (quicker for the kernel) -/
abbrev Once (p q : Program) (loose : List PySem.Str) (Xt : Shared → Bool) {α : Type} (Yf : Shared → α) (Ya : World → α) (N : Nat) : Prop :=
  ∀ w : World, (opening p, fenceModules? p, Nat.ble 600 N, (boot_heap w.params).isNs mainGlobals && (Array.mk [] : Array GenState).size == 0,
      fun os : OsState => (Fast.tw14082659384304107361 Fast.tw14364793385576792824 p w (boot_heap w.params).objs.size ((boot_heap w.params).nsMap mainGlobals "__annotations__") N ⟨boot_heap w.params, Array.mk [], boot_drawn, boot_toks, os⟩ (topStub p)).map fun s =>
        (staticsOk (importedModules p.main.body) (boot_heap w.params) s.heap && namesBound p s.heap && gensDone s && laidKept (boot_heap w.params) s.heap,
          Fast.tw4187177175401517315 q loose (importedModules p.main.body) Xt true s, Yf s))
    = (plainProg p.main.scope.names, some, true, true, fun _ => some (true, openGood q loose, Ya w))
theorem Once.left {p q : Program} {loose : List PySem.Str} {Xt : Shared → Bool} {α : Type} {Yf : Shared → α} {Ya : World → α} {N : Nat} (h : Once p q loose Xt Yf Ya N) : LeftO p q loose Xt Yf Ya N := fun w => by
  obtain ⟨h1, h2⟩ := Prod.mk.inj (h w)
  obtain ⟨h2, h3⟩ := Prod.mk.inj h2
  obtain ⟨h3, h4⟩ := Prod.mk.inj h3
  obtain ⟨h4, h5⟩ := Prod.mk.inj h4
  obtain ⟨⟨hp, gs, d, k, os⟩, a, b⟩ := Option.map_eq_some_iff.mp (boot_open h1 h3 (fun s => congrFun h2 s) w)
  obtain ⟨rfl, rfl, rfl, rfl⟩ : hp = boot_heap w.params ∧ gs = Array.mk [] ∧ d = boot_drawn ∧ k = boot_toks := by simpa using b
  have h6 := congrFun h5 os
  (try dsimp only at h6)
  rw [← Fast.te14082659384304107361, ← Fast.te14364793385576792824, ← Fast.te4187177175401517315] at h6
  obtain ⟨s, e, f⟩ := Option.map_eq_some_iff.mp h6
  obtain ⟨f1, f2⟩ := Prod.mk.inj f
  unfold openEnds topFrom
  rw [a]
  dsimp only [Option.bind_some]
  rw [h4, e]
  dsimp only [Option.bind_some]
  rw [f1]
  exact congrArg some f2
def PySem.W.holds_open {r : OpenRow} {q loose Xt XP α Yf Ya YP d kwd N} (left : Once r.prog q loose Xt Yf Ya N) :=
  @_root_.PySem.W.holds_open r q loose Xt XP α Yf Ya YP d kwd N left.left
set_option maxRecDepth 100000 in
set_option maxHeartbeats 8000000 in
open_top hd for PySem.Challenge.rw_pq0447_01
end Mine

/-! part B1 -/
namespace Mine
open _root_.PySem _root_.PySem.W _root_.PySem.Calls _root_.PyProof.Rows
example : True := by w_top off; trivial

/-- the heap has gone on, the places of as apart -/
def Ext (as : List Addr) (h h' : Heap) : Prop := ∀ b o, b ∉ as → h.get? b = some o → h'.get? b = some o

theorem Ext.refl {as : List Addr} {h : Heap} : Ext as h h := fun _ _ _ e => e
theorem Ext.trans {as : List Addr} {h h' h'' : Heap} (x : Ext as h h') (y : Ext as h' h'') : Ext as h h'' := fun b o n e => y b o n (x b o n e)
theorem Ext.mono {as bs : List Addr} {h h' : Heap} (x : Ext as h h') (k : ∀ a ∈ as, a ∈ bs) : Ext bs h h' := fun b o n e => x b o (fun m => n (k b m)) e

/-- the ground that every call of the law stands on -/
structure Root (w : World) (lo : List PySem.Str) (mean : ExcName → Option Value) (mg mb : PySem.Str → Option Value) (H : Heap) : Prop where
  X : (Mine.hd.heap_39 w.params).In H
  T : Top Mine.hd.view_39 lo mean mg mb H

theorem enterN {prog : Program} {w : World} {A : Around} {s : Shared} {H : Heap} {mean : ExcName → Option Value} {mg mb : PySem.Str → Option Value} {K : Frag} {p : Program} {lo : List PySem.Str}
    {R : Result → Shared → Prop} {name qual : PySem.Str} {params : Arguments} {body : List Stmt} {scope : Scope} {dV kV doc pm cdv ct oc : Value} {an od : Option Addr} {osl : Array (Option Value)} {f : Addr} {args : Args} {binds : List (PySem.Str × Value)}
    (news : List (Addr × Obj)) (X₀ : K.In H) (T₀ : Top p lo mean mg mb H) (st : H.StaysIn s.heap)
    (N : ∀ q ∈ news, s.heap.get? q.1 = some q.2 ∧ H.get? q.1 = none)
    (ho : K.lookup f = some ⟨oc, od, .func (fnOf name qual params body scope dV kV doc pm an cdv ct), osl⟩) (hcd : codeIn K cdv qual = true) (hroom : A.depth < recursionLimit)
    (hbind : BindsTo s (fnOf name qual params body scope dV kV doc pm an cdv ct) args binds) (hloc : ∀ y ∈ binds, scope.names.lookup y.1 = some .local)
    (h : ∀ g L' h₁, g = hideAll s.heap (news.map (·.1)) → H.StaysIn g → Fr g L' h₁ (fun y => binds.reverse.lookup y) → News g L' h₁ news → K.In g → Top p lo mean mg mb g →
      wpAny (model prog w) (A.deeper (envOf qual scope L' f cdv)) (execs body (envOf qual scope L' f cdv))
        (fun fl s' => R (.ok (.ret (match fl with | .ret v => v | _ => .none))) s') (fun _ _ => False)
        { s with heap := h₁, toks := s.toks + binds.length })
    (hco : scope.isCoroutine = false) (hgen : scope.isGenerator = false) (hk : scope.kind = .function)
    (hcell : ∀ x ∈ scope.names, x.2 ≠ .cell) : codeAny (model prog w) A (.call (.ref f) args) R s := by
  have X : K.In s.heap := X₀.keeps st
  refine codeAny_call_def (fd := fnOf name qual params body scope dV kV doc pm an cdv ct) (body := body) (binds := binds) hroom (X _ _ ho) rfl (T₀.nolimit.keeps st) (codeRec_of X hcd) rfl hbind hcell hloc (fun h₁ hns hk₁ => ?_) hco hgen hk
  have nm : ∀ b o, H.get? b = some o → b ∉ news.map (·.1) := fun b o e q => by
    obtain ⟨p, hp, rfl⟩ := List.mem_map.mp q
    rw [(N p hp).2] at e; cases e
  have st' : H.StaysIn (hideAll s.heap (news.map (·.1))) := fun b o e => hideAll_get _ (st b o e) (nm b o e)
  refine wpAny_mono (h _ s.heap.objs.size h₁ rfl st' ⟨hns, fun b o e => hk₁ b o (of_hideAll _ e), Nat.le_of_eq (hideAll_size _ _)⟩
    (fun p hp => ⟨hk₁ _ _ (N p hp).1, Nat.ne_of_lt (Heap.lt_size (N p hp).1), hideAll_none _ (List.mem_map_of_mem hp)⟩) (X₀.keeps st') (T₀.keeps st')) (fun _ _ y => y) fun _ _ y => y.elim

/-- what the frame says of the heap that stood before the call -/
theorem Ext.of_fr {h g : Heap} {as : List Addr} {L : Addr} {h' : Heap} {m : PySem.Str → Option Value} (e : g = hideAll h as) (F : Fr g L h' m) : Ext as h h' :=
  fun b o n q => F.keep b o (e ▸ hideAll_get _ q n)

theorem Fr.ext {h₀ h h' : Heap} {L : Addr} {m : PySem.Str → Option Value} {as : List Addr} (F : Fr h₀ L h m) (x : Ext as h h') (k : ∀ a ∈ as, h₀.get? a = none ∧ a ≠ L) : Fr h₀ L h' m := by
  obtain ⟨oL, es, ep, hL, r⟩ := F.ns
  exact ⟨⟨oL, es, ep, x L oL (fun q => (k L q).2 rfl) hL, r⟩, fun b o e => x b o (fun q => by rw [(k b q).1] at e; cases e) (F.keep b o e), F.above⟩
end Mine

/-! part B2 -/
namespace Mine
open _root_.PySem _root_.PySem.W _root_.PySem.Calls _root_.PyProof.Rows
example : True := by w_top off; trivial

/-- room for n more frames and u more C units -/
structure Room (A : Around) (n u : Nat) : Prop where
  handled : A.handled = none
  depth : A.depth + n < recursionLimit
  units : A.units + u < cLine
theorem Room.deeper {A : Around} {n u : Nat} {env : Env} (h : Room A (n + 1) (u + 3)) : Room (A.deeper env) n u :=
  ⟨h.1, by have := h.2; show A.depth + 1 + n < _; omega, by have := h.3; show A.units + 3 + u < _; omega⟩
theorem Room.weaken {A : Around} {n u n' u' : Nat} (h : Room A n u) (a : n' ≤ n) (b : u' ≤ u) : Room A n' u' :=
  ⟨h.1, by have := h.2; omega, by have := h.3; omega⟩

/-- the hand's list: its row at ar, its count at most K -/
def HandO (ar : Addr) (o : Obj) (K : Nat) : Prop := ∃ (c : Int) (tk : Tok) (n : Nat), o = listOf [Value.ref ar, .int c tk].toArray n ∧ 0 ≤ c ∧ c ≤ K
theorem HandO.mono {ar : Addr} {o : Obj} {K K' : Nat} (h : HandO ar o K) (k : K ≤ K') : HandO ar o K' := let ⟨c, tk, n, e, a, b⟩ := h; ⟨c, tk, n, e, a, by omega⟩
/-- the row -/
def RowAt (h : Heap) (ar : Addr) : Prop := ∃ (vs : List Value) (ns : List Int), h.IsList ar vs.toArray ∧ IntsAre vs ns ∧ ns.length ≤ 126
theorem RowAt.keeps {h h' : Heap} {ar : Addr} (x : RowAt h ar) (k : ∀ b o, h.get? b = some o → h'.get? b = some o) : RowAt h' ar :=
  let ⟨vs, ns, ⟨o, ho, r⟩, a⟩ := x; ⟨vs, ns, ⟨o, k _ _ ho, r⟩, a⟩
theorem RowAt.ne {h : Heap} {ar ah : Addr} {o : Obj} {K : Nat} (x : RowAt h ar) (y : HandO ar o K) (e : h.get? ah = some o) : ar ≠ ah := by
  rintro rfl
  obtain ⟨vs, ns, ⟨o', ho, hc, n', hd'⟩, hi, _⟩ := x
  obtain ⟨c, tk, n, rfl, _⟩ := y
  rw [e] at ho
  cases ho
  have := (Data.seq.inj hd').1
  cases hi with
  | nil => simp at this
  | cons => simp at this

theorem RowAt.ext {h h' : Heap} {ar : Addr} {as : List Addr} (x : RowAt h ar) (e : Ext as h h') (n : ar ∉ as) : RowAt h' ar :=
  let ⟨vs, ns, ⟨o, ho, r⟩, a⟩ := x; ⟨vs, ns, ⟨o, e _ _ n ho, r⟩, a⟩

def TakeSpec (w : World) (H : Heap) : Prop := ∀ (A : Around) (s : Shared) (R : Result → Shared → Prop) (ah ar : Addr) (oh : Obj) (K : Nat) (ways : Int) (tw : Tok),
  Room A 2 40 → H.StaysIn s.heap → H.get? ah = none → s.heap.get? ah = some oh → HandO ar oh K → RowAt s.heap ar → K < 1000000 → 0 < ways → ways ≤ 6 →
  (∀ r t h' tk' oh', 0 ≤ r → r < ways → Ext [ah] s.heap h' → h'.get? ah = some oh' → HandO ar oh' (K + 1) → R (.ok (.ret (.int r t))) { s with heap := h', toks := tk' }) →
  codeAny (model PySem.Challenge.pw_pq0447_01 w) A (.call (.ref 118) ⟨[.ref ah, .int ways tw], []⟩) R s

local macro_rules | `(tactic| k_ne) => `(tactic| (refine neN ?_; (try dsimp only); first | with_reducible assumption | exact Ne.symm (by with_reducible assumption) | omega))
local macro_rules | `(tactic| walk_at "MyEnter") => `(tactic| (
  (try (case k6 => k_is)); (try (case k7 => k_is)); (try (case k8 => (have := Room.depth (by assumption); dsimp only at this ⊢; omega))); (try (case k9 => exact BindsTo.of_eq rfl));
  (try (case c5 => decide)); (try (case kB => exact locs rfl)); (try (case c2 => exact rfl)); (try (case c3 => exact rfl)); (try (case c4 => exact rfl))))

set_option maxHeartbeats 8000000 in
theorem take_spec {w : World} {lo : List PySem.Str} {mean : ExcName → Option Value} {mg mb : PySem.Str → Option Value} {H : Heap} (G : Root w lo mean mg mb H) : TakeSpec w H := by
  intro A s R ah ar oh K ways tw hr st h0 h1 hO hrow hK hw hw2 ret
  obtain ⟨handled, dp, fr, gd, un⟩ := A
  obtain rfl : handled = none := hr.handled
  have X := G.X
  have T := G.T
  have hne : ar ∉ [ah] := fun q => RowAt.ne hrow hO h1 (List.mem_singleton.mp q)
  obtain ⟨c, tk, n, rfl, hc0, hcK⟩ := hO
  obtain ⟨vs, ns, hl, hi, hlen⟩ := hrow
  refine' enterN (K := Mine.hd.heap_39 w.params) (binds := [(PySem.Str.ofString "hand", .ref ah), (PySem.Str.ofString "ways", .int ways tw)]) [(ah, listOf [.ref ar, .int c tk].toArray n)] X T st ?N ?k6 ?k7 ?k8 ?k9 ?kB ?_ ?c2 ?c3 ?c4 ?c5
  case N => intro q hq; rw [List.mem_singleton] at hq; subst hq; exact ⟨h1, h0⟩
  walk_at "MyEnter"
  intro g' L' h' hg st' F' N' X' T'
  have hl' : g'.IsList ar vs.toArray := by
    obtain ⟨o, ho, r⟩ := hl
    exact ⟨o, hg ▸ hideAll_get _ ho hne, r⟩
  clear hl
  (try dsimp only)
  (try k_fold)
  k_steps
  all_goals (refine ret _ _ _ _ _ ?_ ?_ (Ext.of_fr hg (by assumption)) (News.get (by assumption) (List.Mem.head _)) ⟨c + 1, _, n, rfl, by omega, by omega⟩)
  all_goals first
    | omega
    | exact fmod_lo _ hw
    | exact fmod_hi _ hw
    | exact hw
end Mine

/-! part B3 -/
namespace Mine
open _root_.PySem _root_.PySem.W _root_.PySem.Calls _root_.PyProof.Rows
example : True := by w_top off; trivial

abbrev Led := List (Addr × Obj)
/-- v is a tuple of the ledger that holds xs -/
def Tup (tl : Led) (v : Value) (xs : List Value) : Prop := ∃ a n, v = .ref a ∧ (a, ({ cls := .type "tuple", data := .seq xs.toArray n } : Obj)) ∈ tl
theorem Tup.mono {tl tl' : Led} {v : Value} {xs : List Value} (h : Tup tl v xs) (k : ∀ p ∈ tl, p ∈ tl') : Tup tl' v xs := let ⟨a, n, e, m⟩ := h; ⟨a, n, e, k _ m⟩

/-- two lists side by side -/
inductive Pairs {α β : Type} (P : α → β → Prop) : List α → List β → Prop
  | nil : Pairs P [] []
  | cons {a b as bs} : P a b → Pairs P as bs → Pairs P (a :: as) (b :: bs)
theorem Pairs.mono {α β : Type} {P P' : α → β → Prop} (k : ∀ a b, P a b → P' a b) : ∀ {as : List α} {bs : List β}, Pairs P as bs → Pairs P' as bs
  | _, _, .nil => .nil
  | _, _, .cons h r => .cons (k _ _ h) (r.mono k)
theorem Pairs.append {α β : Type} {P : α → β → Prop} : ∀ {as cs : List α} {bs ds : List β}, Pairs P as bs → Pairs P cs ds → Pairs P (as ++ cs) (bs ++ ds)
  | _, _, _, _, .nil, h => h
  | _, _, _, _, .cons a r, h => .cons a (r.append h)

def isKid : Value → Bool
  | .none => false
  | _ => true

/-- what a tuple's places say: the name that it instantiates itself, its items -/
inductive Shape (tl : Led) : List Value → List PySem.Str → List Value → Prop
  | cas {t t' : Tok} {x y : Value} : Shape tl [.str (PySem.Str.ofString "cassign") t, .int 4 t', .none, .none, x, y] [] []
  | inst {t t' t'' u : Tok} {nm : PySem.Str} {x y : Value} : Shape tl [.str (PySem.Str.ofString "inst") t, .int 5 t', .str nm t'', x, .str (PySem.Str.ofString "u") u, .none, y] [nm] []
  | blk {t t' u : Tok} {b : Value} {vs : List Value} : Tup tl b vs → Shape tl [.str (PySem.Str.ofString "genblock") t, .int 6 t', .str (PySem.Str.ofString "g") u, b] [] vs
  | gfor {t t' u : Tok} {x c : Value} : Shape tl [.str (PySem.Str.ofString "genfor") t, .int 7 t', .str (PySem.Str.ofString "i") u, x, .none, .none, c] [] [c]
  | gcase {t t' : Tok} {x b : Value} {rows cs : List Value} : Tup tl b rows → rows.length ≤ 2 → Pairs (fun r c => Tup tl r [.none, c]) rows cs → Shape tl [.str (PySem.Str.ofString "gencase") t, .int 8 t', x, b] [] (cs.filter isKid)
  | gif {t t' : Tok} {x c c' : Value} : Shape tl [.str (PySem.Str.ofString "genif") t, .int 9 t', x, c, c'] [] ([c, c'].filter isKid)

theorem Shape.mono {tl tl' : Led} {xs : List Value} {own : List PySem.Str} {cs : List Value} (h : Shape tl xs own cs) (k : ∀ p ∈ tl, p ∈ tl') : Shape tl' xs own cs := by
  cases h with
  | cas => exact .cas
  | inst => exact .inst
  | blk b => exact .blk (b.mono k)
  | gfor => exact .gfor
  | gcase b l r => exact .gcase (b.mono k) l (r.mono fun _ _ x => x.mono k)
  | gif => exact .gif

/-- an item of at most d levels: the names it instantiates, its size -/
def Item (tl : Led) : Nat → Value → List PySem.Str × Nat → Prop
  | 0, _, _ => False
  | d + 1, v, p => ∃ xs own cs ps, Tup tl v xs ∧ Shape tl xs own cs ∧ Pairs (Item tl d) cs ps ∧ p.1 = own ++ ps.flatMap (·.1) ∧ p.2 = 1 + (ps.map (·.2)).sum

theorem Item.mono {tl tl' : Led} (k : ∀ p ∈ tl, p ∈ tl') : ∀ {d : Nat} {v : Value} {p : List PySem.Str × Nat}, Item tl d v p → Item tl' d v p
  | 0, _, _, h => h
  | _ + 1, _, _, ⟨xs, own, cs, ps, a, b, c, e⟩ => ⟨xs, own, cs, ps, a.mono k, b.mono k, c.mono fun _ _ x => Item.mono k x, e⟩
theorem Item.up {tl : Led} : ∀ {d : Nat} {v : Value} {p : List PySem.Str × Nat}, Item tl d v p → Item tl (d + 1) v p
  | 0, _, _, h => h.elim
  | _ + 1, _, _, ⟨xs, own, cs, ps, a, b, c, e⟩ => ⟨xs, own, cs, ps, a, b, c.mono fun _ _ x => Item.up x, e⟩

def LedAt (h : Heap) (tl : Led) : Prop := ∀ p ∈ tl, h.get? p.1 = some p.2

def UsedO (o : Obj) (us : List PySem.Str) : Prop := ∃ (vs : List Value) (n : Nat), o = listOf vs.toArray n ∧ StrsAre vs us ∧ us.Nodup

def theNames : List PySem.Str := [PySem.Str.ofString "m0", PySem.Str.ofString "m1", PySem.Str.ofString "m2", PySem.Str.ofString "m3", PySem.Str.ofString "m4", PySem.Str.ofString "m5"]

/-- how many draws, and how many items, an item of d levels may take -/
def lim : Nat → Nat
  | 0 => 2
  | d + 1 => 4 + 2 * lim d

/-- what a builder leaves behind -/
structure Left (h h' : Heap) (ah au ar : Addr) (us : List PySem.Str) (K : Nat) (tl : Led) (nm : List PySem.Str) (us' : List PySem.Str) (oh' ou' : Obj) : Prop where
  ext : Ext [ah, au] h h'
  hand : h'.get? ah = some oh'
  handO : HandO ar oh' K
  used : h'.get? au = some ou'
  usedO : UsedO ou' us'
  names : ∀ x, x ∈ us' ↔ x ∈ us ∨ x ∈ nm
  known : ∀ x ∈ us', x ∈ theNames
  led : LedAt h' tl
  new : ∀ p ∈ tl, h.get? p.1 = none

def ItemSpec (w : World) (H : Heap) (D : Nat) : Prop := ∀ (A : Around) (s : Shared) (R : Result → Shared → Prop) (ah au ar : Addr) (oh ou : Obj) (K : Nat) (us : List PySem.Str) (deep : Int) (td : Tok),
  Room A (2 * D + 4) (6 * D + 60) → H.StaysIn s.heap → H.get? ah = none → H.get? au = none → s.heap.get? ah = some oh → s.heap.get? au = some ou → HandO ar oh K → UsedO ou us → (∀ x ∈ us, x ∈ theNames) → RowAt s.heap ar → ar ≠ au → K + lim D < 1000000 → deep = 3 - (D : Int) → D ≤ 3 →
  (∀ {r h' tk' oh' ou' us' tl nm sz}, Left s.heap h' ah au ar us (K + lim D) tl nm us' oh' ou' → Item tl (D + 1) r (nm, sz) → sz ≤ lim D → R (.ok (.ret r)) { s with heap := h', toks := tk' }) →
  codeAny (model PySem.Challenge.pw_pq0447_01 w) A (.call (.ref 132) ⟨[.ref ah, .int deep td, .ref au], []⟩) R s

def ItemsSpec (w : World) (H : Heap) (D : Nat) : Prop := ∀ (A : Around) (s : Shared) (R : Result → Shared → Prop) (ah au ar : Addr) (oh ou : Obj) (K : Nat) (us : List PySem.Str) (deep : Int) (td : Tok),
  Room A (2 * D + 5) (6 * D + 63) → H.StaysIn s.heap → H.get? ah = none → H.get? au = none → s.heap.get? ah = some oh → s.heap.get? au = some ou → HandO ar oh K → UsedO ou us → (∀ x ∈ us, x ∈ theNames) → RowAt s.heap ar → ar ≠ au → K + (1 + 2 * lim D) < 1000000 → deep = 3 - (D : Int) → D ≤ 3 →
  (∀ {r h' tk' oh' ou' us' tl vs ps}, Tup tl r vs → Pairs (Item tl (D + 1)) vs ps → (ps.map (·.2)).sum ≤ 2 * lim D → Left s.heap h' ah au ar us (K + (1 + 2 * lim D)) tl (ps.flatMap (·.1)) us' oh' ou' → R (.ok (.ret r)) { s with heap := h', toks := tk' }) →
  codeAny (model PySem.Challenge.pw_pq0447_01 w) A (.call (.ref 125) ⟨[.ref ah, .int deep td, .ref au], []⟩) R s

theorem left_of {h g h' : Heap} {L : Addr} {m : PySem.Str → Option Value} {news : Led} {ah au ar : Addr} {us : List PySem.Str} {K : Nat} {tl : Led} {nm us' : List PySem.Str} {oh' ou' : Obj}
    (hg : g = hideAll h [ah, au]) (F : Fr g L h' m) (N : News g L h' news) (m1 : (ah, oh') ∈ news) (m2 : (au, ou') ∈ news) (sub : ∀ p ∈ tl, p ∈ news) (n1 : ∀ p ∈ tl, p.1 ≠ ah) (n2 : ∀ p ∈ tl, p.1 ≠ au)
    (hO : HandO ar oh' K) (hU : UsedO ou' us') (hn : ∀ x, x ∈ us' ↔ x ∈ us ∨ x ∈ nm) (hk : ∀ x ∈ us', x ∈ theNames) : Left h h' ah au ar us K tl nm us' oh' ou' :=
  ⟨Ext.of_fr hg F, (N _ m1).1, hO, (N _ m2).1, hU, hn, hk, fun p hp => (N p (sub p hp)).1, fun p hp => by
    have e := (N p (sub p hp)).2.2
    cases q : h.get? p.1 with
    | none => rfl
    | some o =>
      have := hideAll_get [ah, au] q (by
        intro hm
        rcases List.mem_cons.mp hm with hm | hm
        · exact n1 p hp hm
        · exact n2 p hp (List.mem_singleton.mp hm))
      rw [← hg, e] at this; cases this⟩

section
variable {w : World} {H h₀ : Heap} {A : Around} {s : Shared} {L : Addr} {m : PySem.Str → Option Value} {news : Led} {g : Obj → Led} {ah au ar : Addr} {oh ou : Obj} {K D : Nat} {us : List PySem.Str} {Q E : Value → Shared → Prop}

theorem fr_ext {h h' : Heap} {as : List Addr} (F : Fr h₀ L h m) (x : Ext as h h') (k : ∀ a ∈ as, h₀.get? a = none ∧ a ≠ L) : Fr h₀ L h' m := by
  obtain ⟨oL, es, ep, hL, r⟩ := F.ns
  exact ⟨⟨oL, es, ep, x L oL (fun q => (k L q).2 rfl) hL, r⟩, fun b o e => x b o (fun q => by rw [(k b q).1] at e; cases e) (F.keep b o e), F.above⟩

theorem news_ext1 {h h' : Heap} {o o' : Obj} (N : News h₀ L h news) (U : UpdF ah o news g) (x : Ext [ah] h h') (e : h'.get? ah = some o') : News h₀ L h' (g o') ∧ (∀ a ∈ [ah], h₀.get? a = none ∧ a ≠ L) := by
  obtain ⟨pre, post, rfl, hg, a, b⟩ := U.split
  have Na := N (ah, o) (by simp)
  refine ⟨?_, fun c hc => by rw [List.mem_singleton.mp hc]; exact ⟨Na.2.2, Na.2.1⟩⟩
  rw [hg o']
  intro p hp
  rcases List.mem_append.mp hp with q | q
  · have P := N p (List.mem_append_left _ q)
    exact ⟨x _ _ (fun z => a p q (List.mem_singleton.mp z)) P.1, P.2⟩
  · rcases List.mem_cons.mp q with rfl | q
    · exact ⟨e, Na.2⟩
    · have P := N p (List.mem_append_right _ (.tail _ q))
      exact ⟨x _ _ (fun z => b p q (List.mem_singleton.mp z)) P.1, P.2⟩

theorem take_call {ways : Int} {tw : Tok} (TS : TakeSpec w H) (R : Room A 2 40) (F : Fr h₀ L s.heap m) (N : News h₀ L s.heap news) (st : H.StaysIn h₀) (h0 : H.get? ah = none) (U : UpdF ah oh news g)
    (hO : HandO ar oh K) (hrow : RowAt s.heap ar) (hK : K < 1000000) (hw : 0 < ways) (hw2 : ways ≤ 6)
    (k : ∀ r t h' tk' oh', 0 ≤ r → r < ways → Fr h₀ L h' m → News h₀ L h' (g oh') → HandO ar oh' (K + 1) → Q (.int r t) { s with heap := h', toks := tk' }) :
    wpAny (model PySem.Challenge.pw_pq0447_01 w) A (call (.ref 118) [.ref ah, .int ways tw]) Q E s := by
  obtain ⟨pre, post, e0, _, _, _⟩ := U.split
  refine wpAny_call (TS A s _ ah ar oh K ways tw R (fun b o e => F.keep b o (st b o e)) h0 (N (ah, oh) (by rw [e0]; simp)).1 hO hrow hK hw hw2 fun r t h' tk' oh' a b x e hO' => ?_)
  obtain ⟨N', nn⟩ := news_ext1 N U x e
  exact k r t h' tk' oh' a b (fr_ext F x nn) N' hO'

theorem news_left {h h' : Heap} {g2 : Obj → Obj → Led} {tl : Led} {nm us' : List PySem.Str} {oh' ou' : Obj} (F : Fr h₀ L h m) (N : News h₀ L h news) (U : UpdF ah oh news g) (U2 : ∀ o, UpdF au ou (g o) (g2 o))
    (x : Left h h' ah au ar us K tl nm us' oh' ou') : Fr h₀ L h' m ∧ News h₀ L h' (g2 oh' ou' ++ tl) ∧ (∀ q ∈ news, ∀ p ∈ tl, q.1 ≠ p.1) := by
  have Fk := F.keep
  obtain ⟨pre, post, e0, hg, a, b⟩ := U.split
  have Na := N (ah, oh) (by rw [e0]; simp)
  obtain ⟨pre2, post2, e2, hg2, a2, b2⟩ := (U2 oh').split
  have huh : (au, ou) ∈ news ∧ au ≠ ah := by
    have hm : (au, ou) ∈ g oh := by obtain ⟨p3, q3, e3, _⟩ := (U2 oh).split; rw [e3]; simp
    have e4 : g oh = news := by rw [hg, e0]
    refine ⟨e4 ▸ hm, fun q => ?_⟩
    subst q
    -- ah at two places of the ledger
    have h1 : (au, oh') ∈ g oh' := by rw [hg]; simp
    rw [e2] at h1
    rcases List.mem_append.mp h1 with z | z
    · exact a2 _ z rfl
    · rcases List.mem_cons.mp z with z | z
      · have e5 : oh' = ou := (Prod.mk.inj z).2
        -- the two entries agree in the new ledger, so the frame says nothing; use the split at another object
        obtain ⟨p3, q3, e3, _, a3, b3⟩ := (U2 { cls := .none, data := .freed }).split
        have h2 : (au, ({ cls := .none, data := .freed } : Obj)) ∈ g { cls := .none, data := .freed } := by rw [hg]; simp
        rw [e3] at h2
        rcases List.mem_append.mp h2 with z | z
        · exact a3 _ z rfl
        · rcases List.mem_cons.mp z with z | z
          · have e6 : ({ cls := .none, data := .freed } : Obj) = ou := (Prod.mk.inj z).2
            have e7 := x.hand
            rw [e5, ← e6] at e7
            have := (Heap.get?_some_iff.mp e7).2
            cases this
          · exact b3 _ z rfl
      · exact b2 _ z rfl
  have Nu := N (au, ou) huh.1
  have nn : ∀ c ∈ [ah, au], h₀.get? c = none ∧ c ≠ L := by
    intro c hc
    rcases List.mem_cons.mp hc with rfl | hc
    · exact ⟨Na.2.2, Na.2.1⟩
    · rw [List.mem_singleton.mp hc]; exact ⟨Nu.2.2, Nu.2.1⟩
  have F' := fr_ext F x.ext nn
  have hne : ∀ q ∈ news, ∀ p ∈ tl, q.1 ≠ p.1 := fun q hq p hp e => by
    have h1 := (N q hq).1
    rw [e, x.new p hp] at h1; cases h1
  refine ⟨F', ?_, hne⟩
  intro p hp
  rcases List.mem_append.mp hp with hp | hp
  · rw [hg2] at hp
    have old : p ∈ g oh' → p.1 ≠ au → h'.get? p.1 = some p.2 ∧ p.1 ≠ L ∧ h₀.get? p.1 = none := by
      intro hp hpu
      rw [hg] at hp
      rcases List.mem_append.mp hp with q | q
      · have P := N p (by rw [e0]; exact List.mem_append_left _ q)
        exact ⟨x.ext _ _ (by simp [a p q, hpu]) P.1, P.2⟩
      · rcases List.mem_cons.mp q with rfl | q
        · exact ⟨x.hand, Na.2⟩
        · have P := N p (by rw [e0]; exact List.mem_append_right _ (.tail _ q))
          exact ⟨x.ext _ _ (by simp [b p q, hpu]) P.1, P.2⟩
    rcases List.mem_append.mp hp with q | q
    · exact old (by rw [e2]; exact List.mem_append_left _ q) (a2 p q)
    · rcases List.mem_cons.mp q with rfl | q
      · exact ⟨x.used, Nu.2⟩
      · exact old (by rw [e2]; exact List.mem_append_right _ (.tail _ q)) (b2 p q)
  · refine ⟨x.led p hp, fun e => ?_, ?_⟩
    · obtain ⟨oL, _, _, hL, _⟩ := F.ns
      have := x.new p hp
      rw [e, hL] at this; cases this
    · cases q : h₀.get? p.1 with
      | none => rfl
      | some o => have := Fk _ _ q; rw [x.new p hp] at this; cases this

theorem item_call {g2 : Obj → Obj → Led} {deep : Int} {td : Tok} (IS : ItemSpec w H D) (R : Room A (2 * D + 4) (6 * D + 60)) (F : Fr h₀ L s.heap m) (N : News h₀ L s.heap news) (st : H.StaysIn h₀) (h0 : H.get? ah = none) (h0u : H.get? au = none)
    (U : UpdF ah oh news g) (U2 : ∀ o, UpdF au ou (g o) (g2 o)) (hO : HandO ar oh K) (hU : UsedO ou us) (hk : ∀ x ∈ us, x ∈ theNames) (hrow : RowAt s.heap ar) (hru : ar ≠ au) (hK : K + lim D < 1000000) (hdeep : deep = 3 - (D : Int)) (hD : D ≤ 3)
    (k : ∀ r h' tk' oh' ou' us' tl nm sz, Fr h₀ L h' m → News h₀ L h' (g2 oh' ou' ++ tl) → (∀ q ∈ news, ∀ p ∈ tl, q.1 ≠ p.1) → HandO ar oh' (K + lim D) → UsedO ou' us' → (∀ x, x ∈ us' ↔ x ∈ us ∨ x ∈ nm) → (∀ x ∈ us', x ∈ theNames) →
      Item tl (D + 1) r (nm, sz) → sz ≤ lim D → Q r { s with heap := h', toks := tk' }) :
    wpAny (model PySem.Challenge.pw_pq0447_01 w) A (call (.ref 132) [.ref ah, .int deep td, .ref au]) Q E s := by
  obtain ⟨pre, post, e0, hg, _, _⟩ := U.split
  have hm : (au, ou) ∈ news := by
    obtain ⟨p3, q3, e3, _⟩ := (U2 oh).split
    have e4 : g oh = news := by rw [hg, e0]
    rw [← e4, e3]; simp
  refine wpAny_call (IS A s _ ah au ar oh ou K us deep td R (fun b o e => F.keep b o (st b o e)) h0 h0u (N (ah, oh) (by rw [e0]; simp)).1 (N _ hm).1 hO hU hk hrow hru hK hdeep hD @fun r h' tk' oh' ou' us' tl nm sz x it hsz => ?_)
  obtain ⟨F', N', hne⟩ := news_left F N U U2 x
  exact k r h' tk' oh' ou' us' tl nm sz F' N' hne x.handO x.usedO x.names x.known it hsz

theorem items_call {g2 : Obj → Obj → Led} {deep : Int} {td : Tok} (IS : ItemsSpec w H D) (R : Room A (2 * D + 5) (6 * D + 63)) (F : Fr h₀ L s.heap m) (N : News h₀ L s.heap news) (st : H.StaysIn h₀) (h0 : H.get? ah = none) (h0u : H.get? au = none)
    (U : UpdF ah oh news g) (U2 : ∀ o, UpdF au ou (g o) (g2 o)) (hO : HandO ar oh K) (hU : UsedO ou us) (hk : ∀ x ∈ us, x ∈ theNames) (hrow : RowAt s.heap ar) (hru : ar ≠ au) (hK : K + (1 + 2 * lim D) < 1000000) (hdeep : deep = 3 - (D : Int)) (hD : D ≤ 3)
    (k : ∀ r h' tk' oh' ou' us' tl vs ps, Fr h₀ L h' m → News h₀ L h' (g2 oh' ou' ++ tl) → (∀ q ∈ news, ∀ p ∈ tl, q.1 ≠ p.1) → HandO ar oh' (K + (1 + 2 * lim D)) → UsedO ou' us' → (∀ x, x ∈ us' ↔ x ∈ us ∨ x ∈ ps.flatMap (·.1)) → (∀ x ∈ us', x ∈ theNames) →
      Tup tl r vs → Pairs (Item tl (D + 1)) vs ps → (ps.map (·.2)).sum ≤ 2 * lim D → Q r { s with heap := h', toks := tk' }) :
    wpAny (model PySem.Challenge.pw_pq0447_01 w) A (call (.ref 125) [.ref ah, .int deep td, .ref au]) Q E s := by
  obtain ⟨pre, post, e0, hg, _, _⟩ := U.split
  have hm : (au, ou) ∈ news := by
    obtain ⟨p3, q3, e3, _⟩ := (U2 oh).split
    have e4 : g oh = news := by rw [hg, e0]
    rw [← e4, e3]; simp
  refine wpAny_call (IS A s _ ah au ar oh ou K us deep td R (fun b o e => F.keep b o (st b o e)) h0 h0u (N (ah, oh) (by rw [e0]; simp)).1 (N _ hm).1 hO hU hk hrow hru hK hdeep hD @fun r h' tk' oh' ou' us' tl vs ps it hp hsz x => ?_)
  obtain ⟨F', N', hne⟩ := news_left F N U U2 x
  exact k r h' tk' oh' ou' us' tl vs ps F' N' hne x.handO x.usedO x.names x.known it hp hsz

theorem tail_ne {d : Addr} {o : Obj} {tl : Led} (hl : ∀ q ∈ news, ∀ p ∈ tl, q.1 ≠ p.1) (m : (d, o) ∈ news) : ∀ p ∈ tl, p.1 ≠ d := fun p hp e => hl _ m p hp e.symm

inductive Drop (I : Addr) (it : Obj) : Led → Led → Prop
  | head {r} : Drop I it ((I, it) :: r) r
  | tail {p r r'} : Drop I it r r' → Drop I it (p :: r) (p :: r')
theorem Drop.sub {I : Addr} {it : Obj} : ∀ {l l' : Led}, Drop I it l l' → ∀ p ∈ (I, it) :: l', p ∈ l
  | _, _, .head, _, h => h
  | _, _, .tail (p := q) d, p, h => by
    rcases List.mem_cons.mp h with rfl | h
    · exact .tail _ (d.sub _ (.head _))
    · rcases List.mem_cons.mp h with rfl | h
      · exact .head _
      · exact .tail _ (d.sub _ (.tail _ h))
theorem unrEnd {I : Addr} {it : Obj} {rest : (PySem.Str → Option Value) → Led → Prop} {s₁ : Shared} {h' : Heap} {tk : Nat} {m' : PySem.Str → Option Value} {all news' : Led} (F : Fr h₀ L h' m') (N : News h₀ L h' all)
    (d : Drop I it all news') (off : ∀ p ∈ news', p.1 ≠ I) (r : rest m' news') : UnrEnd h₀ L s₁ I it rest { s₁ with heap := h', toks := tk } := UnrEnd.intro F N news' d.sub off r

theorem range_split3 {M : Model} {r : Int} {t : Tok} (h0 : 0 ≤ r) (h3 : r < 3) (a : wpAny M A (call (.type "range") [.int 0 t]) Q E s) (b : wpAny M A (call (.type "range") [.int 1 t]) Q E s) (c : wpAny M A (call (.type "range") [.int 2 t]) Q E s) :
    wpAny M A (call (.type "range") [.int r t]) Q E s := by
  have : r = 0 ∨ r = 1 ∨ r = 2 := by omega
  rcases this with rfl | rfl | rfl <;> assumption
end

theorem tup_of {g h' : Heap} {L : Addr} {news tl : Led} {a : Addr} {xs : List Value} {n : Nat} (_ : News g L h' news) (_ : (a, ({ cls := .type "tuple", data := .seq xs.toArray n } : Obj)) ∈ news) :
    Tup ((a, ({ cls := .type "tuple", data := .seq xs.toArray n } : Obj)) :: tl) (.ref a) xs := ⟨_, _, rfl, List.Mem.head _⟩
theorem names0 {us : List PySem.Str} : ∀ x, x ∈ us ↔ x ∈ us ∨ x ∈ ([] : List PySem.Str) := fun x => by simp
theorem names1 {us us1 n1 : List PySem.Str} (h1 : ∀ x, x ∈ us1 ↔ x ∈ us ∨ x ∈ n1) : ∀ x, x ∈ us1 ↔ x ∈ us ∨ x ∈ n1 ++ [] := fun x => by rw [h1, List.append_nil]
theorem names2 {us us1 us2 n1 n2 : List PySem.Str} (h1 : ∀ x, x ∈ us1 ↔ x ∈ us ∨ x ∈ n1) (h2 : ∀ x, x ∈ us2 ↔ x ∈ us1 ∨ x ∈ n2) : ∀ x, x ∈ us2 ↔ x ∈ us ∨ x ∈ n1 ++ (n2 ++ []) := fun x => by
  rw [h2, h1, List.append_nil, List.mem_append, or_assoc]
theorem forall_cons {q : Addr × Obj} {tl : Led} {P : Addr × Obj → Prop} (a : P q) (b : ∀ p ∈ tl, P p) : ∀ p ∈ q :: tl, P p := List.forall_mem_cons.mpr ⟨a, b⟩
theorem mname_mem {r : Int} (h0 : 0 ≤ r) (h6 : r < 6) : PySem.Str.ofString "m" ++ PySem.Str.ofString (toString r) ∈ theNames := by
  have : r = 0 ∨ r = 1 ∨ r = 2 ∨ r = 3 ∨ r = 4 ∨ r = 5 := by omega
  rcases this with rfl | rfl | rfl | rfl | rfl | rfl <;> decide +kernel
theorem nodup_len {α : Type} [DecidableEq α] : ∀ {l m : List α}, l.Nodup → (∀ x ∈ l, x ∈ m) → l.length ≤ m.length
  | [], _, _, _ => Nat.zero_le _
  | x :: r, m, h, k => by
    have h' := List.nodup_cons.mp h
    have hx : x ∈ m := k x (.head _)
    have := nodup_len (l := r) (m := m.erase x) h'.2 fun y hy => (List.mem_erase_of_ne (show y ≠ x from fun e => h'.1 (e ▸ hy))).mpr (k y (.tail _ hy))
    rw [List.length_erase_of_mem hx] at this
    have : 0 < m.length := List.length_pos_of_mem hx
    rw [List.length_cons]; omega
theorem us_size {us : List PySem.Str} {uv : List Value} (hs : StrsAre uv us) (h : us.Nodup) (k : ∀ x ∈ us, x ∈ theNames) : uv.toArray.size ≤ sizeLine := by
  have := nodup_len h k
  rw [← StrsAre.length hs] at this
  rw [sizeLine_eq, List.size_toArray]
  have e : theNames.length = 6 := rfl
  omega
theorem any_false {us : List PySem.Str} {n : PySem.Str} (h : (us.any fun x => x == n) = false) : n ∉ us := fun m => by
  have := List.any_eq_false.mp h n m
  simp at this
theorem any_true {us : List PySem.Str} {n : PySem.Str} (h : (us.any fun x => x == n) = true) : n ∈ us := by
  obtain ⟨x, hx, e⟩ := List.any_eq_true.mp h
  exact (beq_iff_eq.mp e) ▸ hx
theorem usedO_old {us : List PySem.Str} {uv : List Value} {n : Nat} (hs : StrsAre uv us) (h : us.Nodup) : UsedO (listOf uv.toArray n) us := ⟨uv, n, rfl, hs, h⟩
theorem usedO_new {us : List PySem.Str} {uv : List Value} {n : Nat} {x : PySem.Str} {t : Tok} (hs : StrsAre uv us) (h : us.Nodup) (hx : (us.any fun y => y == x) = false) : UsedO (listOf (uv.toArray.push (.str x t)) n) (us ++ [x]) := by
  refine ⟨uv ++ [.str x t], n, by simp, StrsAre.append' hs (.cons x t .nil), ?_⟩
  rw [List.nodup_append]
  refine ⟨h, by simp, fun a ha b hb e => ?_⟩
  rw [List.mem_singleton] at hb
  subst hb; subst e
  exact any_false hx ha
theorem names_old {us : List PySem.Str} {x : PySem.Str} (hx : (us.any fun y => y == x) = true) : ∀ y, y ∈ us ↔ y ∈ us ∨ y ∈ [x] := fun y => by
  refine ⟨.inl, fun h => h.elim id fun h => ?_⟩
  rw [List.mem_singleton.mp h]; exact any_true hx
theorem names_new {us : List PySem.Str} {x : PySem.Str} : ∀ y, y ∈ us ++ [x] ↔ y ∈ us ∨ y ∈ [x] := fun y => List.mem_append
theorem known_new {us : List PySem.Str} {x : PySem.Str} (h : ∀ y ∈ us, y ∈ theNames) (hx : x ∈ theNames) : ∀ y ∈ us ++ [x], y ∈ theNames := fun y hy =>
  (List.mem_append.mp hy).elim (h y) fun e => (List.mem_singleton.mp e) ▸ hx

theorem item_leaf {tl : Led} {d : Nat} {v : Value} {xs : List Value} {own : List PySem.Str} (a : Tup tl v xs) (b : Shape tl xs own []) : Item tl (d + 1) v (own, 1) :=
  ⟨xs, own, [], [], a, b, .nil, by simp, by simp⟩
theorem Item.kid {tl : Led} : ∀ {d : Nat} {v : Value} {p : List PySem.Str × Nat}, Item tl d v p → isKid v = true
  | 0, _, _, h => h.elim
  | _ + 1, _, _, ⟨_, _, _, _, ⟨_, _, e, _⟩, _⟩ => by rw [e]; rfl
def OptItem (tl : Led) (d : Nat) (c : Value) (p : List PySem.Str × Nat) : Prop := (c = .none ∧ p = ([], 0)) ∨ Item tl d c p
theorem kids_of {tl : Led} {d : Nat} : ∀ {cs : List Value} {ps : List (List PySem.Str × Nat)}, Pairs (OptItem tl d) cs ps →
    ∃ ps', Pairs (Item tl d) (cs.filter isKid) ps' ∧ ps'.flatMap (·.1) = ps.flatMap (·.1) ∧ (ps'.map (·.2)).sum = (ps.map (·.2)).sum
  | _, _, .nil => ⟨[], .nil, rfl, rfl⟩
  | c :: cs, p :: ps, .cons h r => by
    obtain ⟨ps', a, b, e⟩ := kids_of r
    rcases h with ⟨rfl, rfl⟩ | h
    · exact ⟨ps', a, by simp [b], by simp [e]⟩
    · refine ⟨p :: ps', ?_, by simp [b], by simp [e]⟩
      rw [List.filter_cons_of_pos h.kid]
      exact .cons h a
theorem item_of {tl : Led} {d : Nat} {v : Value} {xs : List Value} {own : List PySem.Str} {cs : List Value} {ps : List (List PySem.Str × Nat)} (a : Tup tl v xs) (b : Shape tl xs own (cs.filter isKid)) (c : Pairs (OptItem tl d) cs ps) :
    Item tl (d + 1) v (own ++ ps.flatMap (·.1), 1 + (ps.map (·.2)).sum) := by
  obtain ⟨ps', h1, h2, h3⟩ := kids_of c
  exact ⟨xs, own, _, ps', a, b, h1, by rw [h2], by rw [h3]⟩
theorem item_blk {tl : Led} {d : Nat} {v b : Value} {vs : List Value} {ps : List (List PySem.Str × Nat)} {t t' u : Tok} (a : Tup tl v [.str (PySem.Str.ofString "genblock") t, .int 6 t', .str (PySem.Str.ofString "g") u, b]) (h : Tup tl b vs) (c : Pairs (Item tl d) vs ps) :
    Item tl (d + 1) v (ps.flatMap (·.1), 1 + (ps.map (·.2)).sum) := ⟨_, [], _, ps, a, .blk h, c, rfl, rfl⟩
theorem item_gfor {tl : Led} {d : Nat} {v x c : Value} {p : List PySem.Str × Nat} {t t' u : Tok} (a : Tup tl v [.str (PySem.Str.ofString "genfor") t, .int 7 t', .str (PySem.Str.ofString "i") u, x, .none, .none, c]) (h : Item tl d c p) :
    Item tl (d + 1) v (p.1 ++ [], 1 + (p.2 + 0)) := ⟨_, [], _, [p], a, .gfor, .cons h .nil, rfl, rfl⟩
theorem tup_in {tl : Led} {a : Addr} {xs : List Value} {n : Nat} (h : (a, ({ cls := .type "tuple", data := .seq xs.toArray n } : Obj)) ∈ tl) : Tup tl (.ref a) xs := ⟨_, _, rfl, h⟩

theorem left_of2 {h g h' : Heap} {L : Addr} {m : PySem.Str → Option Value} {news l1 : Led} {ah au ar : Addr} {us : List PySem.Str} {K : Nat} {tl : Led} {nm us' : List PySem.Str} {oh' ou' : Obj}
    (hg : g = hideAll h [ah, au]) (F : Fr g L h' m) (N : News g L h' news) (d1 : Drop ah oh' news l1) (d2 : Drop au ou' l1 tl) (n1 : ∀ p ∈ tl, p.1 ≠ ah) (n2 : ∀ p ∈ tl, p.1 ≠ au)
    (hO : HandO ar oh' K) (hU : UsedO ou' us') (hn : ∀ x, x ∈ us' ↔ x ∈ us ∨ x ∈ nm) (hk : ∀ x ∈ us', x ∈ theNames) : Left h h' ah au ar us K tl nm us' oh' ou' :=
  left_of hg F N (d1.sub _ (.head _)) (d1.sub _ (.tail _ (d2.sub _ (.head _)))) (fun p hp => d1.sub _ (.tail _ (d2.sub _ (.tail _ hp)))) n1 n2 hO hU hn hk
theorem namesA {us us1 us2 n1 n2 : List PySem.Str} (h1 : ∀ x, x ∈ us1 ↔ x ∈ us ∨ x ∈ n1) (h2 : ∀ x, x ∈ us2 ↔ x ∈ us1 ∨ x ∈ n2) : ∀ x, x ∈ us2 ↔ x ∈ us ∨ x ∈ n1 ++ n2 := fun x => by
  rw [h2, h1, List.mem_append, or_assoc]
theorem item_mono' {tl tl' : Led} {d : Nat} {v : Value} {p : List PySem.Str × Nat} (h : Item tl d v p) (k : ∀ p ∈ tl, p ∈ tl') : Item tl' d v p := h.mono k
theorem items_mono' {tl tl' : Led} {d : Nat} {vs : List Value} {ps : List (List PySem.Str × Nat)} (h : Pairs (Item tl d) vs ps) (k : ∀ p ∈ tl, p ∈ tl') : Pairs (Item tl' d) vs ps := h.mono fun _ _ x => x.mono k
theorem tup_mono' {tl tl' : Led} {v : Value} {xs : List Value} (h : Tup tl v xs) (k : ∀ p ∈ tl, p ∈ tl') : Tup tl' v xs := h.mono k
/-- the tuples of a ledger -/
def filt (l : Led) : Led := l.filter fun p => p.2.cls == .type "tuple"
theorem mem_filt {l : Led} {p : Addr × Obj} : p ∈ filt l ↔ p ∈ l ∧ p.2.cls = .type "tuple" := by
  unfold filt
  rw [List.mem_filter, beq_iff_eq]
theorem Tup.monoT {tl tl' : Led} {v : Value} {xs : List Value} (h : Tup tl v xs) (k : ∀ p ∈ tl, p ∈ tl') : Tup (filt tl') v xs := let ⟨a, n, e, m⟩ := h; ⟨a, n, e, mem_filt.mpr ⟨k _ m, rfl⟩⟩
theorem tup_filt {tl : Led} {a : Addr} {xs : List Value} {n : Nat} (h : (a, ({ cls := .type "tuple", data := .seq xs.toArray n } : Obj)) ∈ tl) : Tup (filt tl) (.ref a) xs := ⟨_, _, rfl, mem_filt.mpr ⟨h, rfl⟩⟩
theorem Item.toFilt {tl : Led} : ∀ {d : Nat} {v : Value} {p : List PySem.Str × Nat}, Item tl d v p → Item (filt tl) d v p
  | 0, _, _, h => h
  | _ + 1, _, _, ⟨xs, own, cs, ps, a, b, c, e⟩ => ⟨xs, own, cs, ps, a.monoT fun _ h => h, by
    cases b with
    | cas => exact .cas
    | inst => exact .inst
    | blk b => exact .blk (b.monoT fun _ h => h)
    | gfor => exact .gfor
    | gcase b l r => exact .gcase (b.monoT fun _ h => h) l (r.mono fun _ _ x => x.monoT fun _ h => h)
    | gif => exact .gif, c.mono fun _ _ x => Item.toFilt x, e⟩
theorem filt_sub {tl tl' : Led} (k : ∀ p ∈ tl, p ∈ tl') : ∀ p ∈ filt tl, p ∈ filt tl' := fun p h => mem_filt.mpr ⟨k p (mem_filt.mp h).1, (mem_filt.mp h).2⟩
theorem item_monoT {tl tl' : Led} {d : Nat} {v : Value} {p : List PySem.Str × Nat} (h : Item tl d v p) (k : ∀ p ∈ tl, p ∈ tl') : Item (filt tl') d v p := h.toFilt.mono (filt_sub k)
theorem items_monoT {tl tl' : Led} {d : Nat} {vs : List Value} {ps : List (List PySem.Str × Nat)} (h : Pairs (Item tl d) vs ps) (k : ∀ p ∈ tl, p ∈ tl') : Pairs (Item (filt tl') d) vs ps := h.mono fun _ _ x => item_monoT x k
theorem tup_monoT {tl tl' : Led} {v : Value} {xs : List Value} (h : Tup tl v xs) (k : ∀ p ∈ tl, p ∈ tl') : Tup (filt tl') v xs := h.monoT k
theorem HandO.cls {ar : Addr} {o : Obj} {K : Nat} (h : HandO ar o K) : o.cls = .type "list" := by obtain ⟨c, tk, n, rfl, _⟩ := h; rfl
theorem UsedO.cls {o : Obj} {us : List PySem.Str} (h : UsedO o us) : o.cls = .type "list" := by obtain ⟨c, n, rfl, _⟩ := h; rfl
theorem left_filt {h g h' : Heap} {L : Addr} {m : PySem.Str → Option Value} {news : Led} {ah au ar : Addr} {us : List PySem.Str} {K : Nat} {nm us' : List PySem.Str} {oh' ou' : Obj}
    (hg : g = hideAll h [ah, au]) (F : Fr g L h' m) (N : News g L h' news) (m1 : (ah, oh') ∈ news) (m2 : (au, ou') ∈ news)
    (hO : HandO ar oh' K) (hU : UsedO ou' us') (hn : ∀ x, x ∈ us' ↔ x ∈ us ∨ x ∈ nm) (hk : ∀ x ∈ us', x ∈ theNames) : Left h h' ah au ar us K (filt news) nm us' oh' ou' := by
  have key : ∀ a o, (a, o) ∈ news → o.cls = .type "list" → ∀ p ∈ filt news, p.1 ≠ a := by
    intro a o hm hc p hp e
    have h1 := (N _ hm).1
    have h2 := (N p (mem_filt.mp hp).1).1
    rw [e, h1] at h2
    have h3 := (mem_filt.mp hp).2
    rw [← Option.some.inj h2, hc] at h3
    exact absurd (Value.type.inj h3) (by decide)
  exact left_of hg F N m1 m2 (fun p hp => (mem_filt.mp hp).1) (key _ _ m1 hO.cls) (key _ _ m2 hU.cls) hO hU hn hk
theorem item_fin {G : Prop} {h g h' : Heap} {L : Addr} {m : PySem.Str → Option Value} {news : Led} {ah au ar : Addr} {us : List PySem.Str} {K d B sz : Nat} {nm us' : List PySem.Str} {oh' ou' : Obj} {r : Value}
    (hg : g = hideAll h [ah, au]) (F : Fr g L h' m) (N : News g L h' news) (m1 : (ah, oh') ∈ news) (m2 : (au, ou') ∈ news)
    (it : Item (filt news) d r (nm, sz)) (hsz : sz ≤ B) (hO : HandO ar oh' K) (hU : UsedO ou' us') (hn : ∀ x, x ∈ us' ↔ x ∈ us ∨ x ∈ nm) (hk : ∀ x ∈ us', x ∈ theNames)
    (ret : Left h h' ah au ar us K (filt news) nm us' oh' ou' → Item (filt news) d r (nm, sz) → sz ≤ B → G) : G := ret (left_filt hg F N m1 m2 hO hU hn hk) it hsz
theorem HandO.ne_used {ar : Addr} {o : Obj} {K : Nat} {us : List PySem.Str} (x : HandO ar o K) (y : UsedO o us) : False := by
  obtain ⟨c, tk, n, rfl, _⟩ := x
  obtain ⟨vs, n', e, h, _⟩ := y
  have := (Data.seq.inj (Obj.mk.inj e).2.2.1).1
  cases h with
  | nil => simp at this
  | cons => simp at this
theorem ah_ne_au {h : Heap} {ah au ar : Addr} {oh ou : Obj} {K : Nat} {us : List PySem.Str} (x : HandO ar oh K) (y : UsedO ou us) (e : h.get? ah = some oh) (e' : h.get? au = some ou) : @Ne Nat ah au := by
  rintro rfl
  rw [e] at e'
  cases e'
  exact x.ne_used y
end Mine

/-! part B4 -/
namespace Mine
open _root_.PySem _root_.PySem.W _root_.PySem.Calls _root_.PyProof.Rows
example : True := by w_top off; trivial

local macro_rules | `(tactic| k_ne) => `(tactic| (refine neN ?_; (try dsimp only); first | with_reducible assumption | exact Ne.symm (by with_reducible assumption) | omega))
local macro_rules | `(tactic| walk_at "MySub") => `(tactic| first | assumption | (refine List.Mem.tail _ ?_; walk_at "MySub") | fail "MySub")
local macro_rules | `(tactic| k_all) => `(tactic| first | (refine List.forall_mem_append.mpr ⟨?a, ?b⟩; (case a => k_all); (case b => k_all)) | exact tail_ne (by assumption) (by k_mem) | fail "k_all")

local macro_rules | `(tactic| walk_at "MyDrop") => `(tactic| first | exact Drop.head | (refine' Drop.tail ?a; (case a => walk_at "MyDrop")) | fail "MyDrop")
set_option maxHeartbeats 8000000 in
theorem items_of_item {w : World} {lo : List PySem.Str} {mean : ExcName → Option Value} {mg mb : PySem.Str → Option Value} {H : Heap} (G : Root w lo mean mg mb H) (TS : TakeSpec w H) {D : Nat} (IS : ItemSpec w H D) : ItemsSpec w H D := by
  intro A s R ah au ar oh ou K us deep td hr st h0 h0u h1 h1u hO hU hk hrow hru hK hdeep hD ret
  obtain ⟨handled, dp, fr, gd, un⟩ := A
  obtain rfl : handled = none := hr.handled
  have X := G.X
  have T := G.T
  have hne : ar ∉ [ah, au] := fun q => (List.mem_cons.mp q).elim (fun q => RowAt.ne hrow hO h1 q) fun q => hru (List.mem_singleton.mp q)
  have hau : @Ne Nat ah au := ah_ne_au hO hU h1 h1u
  refine' enterN (K := Mine.hd.heap_39 w.params) (binds := [(PySem.Str.ofString "hand", .ref ah), (PySem.Str.ofString "deep", .int deep td), (PySem.Str.ofString "used", .ref au)]) [(ah, oh), (au, ou)] X T st ?N ?k6 ?k7 ?k8 ?k9 ?kB ?_ ?c2 ?c3 ?c4 ?c5
  case N => intro q hq; rcases List.mem_cons.mp hq with rfl | hq; exact ⟨h1, h0⟩; rw [List.mem_singleton] at hq; subst hq; exact ⟨h1u, h0u⟩
  ((try (case k6 => k_is)); (try (case k7 => k_is)); (try (case k8 => (have := Room.depth (by assumption); dsimp only at this ⊢; omega))); (try (case k9 => exact BindsTo.of_eq rfl)); (try (case c5 => decide)); (try (case kB => exact locs rfl)); (try (case c2 => exact rfl)); (try (case c3 => exact rfl)); (try (case c4 => exact rfl)))
  intro g' L' h' hg st' F' N' X' T'
  have hrow' : RowAt g' ar := by
    obtain ⟨vs, ns, ⟨o, ho, r⟩, q⟩ := hrow
    exact ⟨vs, ns, ⟨o, hg ▸ hideAll_get _ ho hne, r⟩, q⟩
  clear hrow
  (try dsimp only)
  (try k_fold)
  (repeat' (first | ((with_reducible show RangeRest ..); (first | (with_reducible refine RangeRest.zero (fun zh ztk zF zN => ?_)) | (with_reducible refine RangeRest.succ (fun zt zh ztk zF zN => ?_)) | fail "RangeRest")) | ((with_reducible show wpAny _ _ (callWith _ (Value.builtin "list.append") ..) _ _ _); (with_unfolding_all refine PyProof.Rows.callWith_method1 ?_)) | ((with_reducible show wpAny _ _ (callWith _ (Value.type "tuple") ..) _ _ _); (with_unfolding_all refine Pv.callWith_type1 ?_)) | ((with_reducible show UnrEnd ..); (refine' unrEnd ?zqF ?zqN ?zqD ?zqoff ?_; (case zqF => k_asm); (case zqN => k_asm); (case zqD => walk_at "MyDrop"); (case zqoff => k_all))) | (((with_reducible show wpAny _ _ (call (Value.ref 132) _) _ _ _); k_dflt (refine' item_call ?zqIS ?zqR ?zqF ?zqN ?zqst ?zqh0 ?zqh0u ?zqU ?zqU2 ?zqhO ?zqhU ?zqhk ?zqhrow ?zqhru ?zqhK ?zqhdeep ?zqhD ?_; (case zqIS => assumption); (case zqR => (refine Room.deeper (Room.weaken (by assumption) ?_ ?_) <;> omega)); (case zqF => k_asm); (case zqN => k_asm); (case zqst => assumption); (case zqh0 => assumption); (case zqh0u => assumption); (case zqU => k_updF); (case zqU2 => intro o; (try dsimp only); k_updF); (case zqhO => assumption); (case zqhU => assumption); (case zqhk => assumption); (case zqhrow => exact RowAt.keeps (by assumption) (Fr.keep (by assumption))); (case zqhru => assumption); (case zqhK => omega); (case zqhdeep => omega); (case zqhD => omega); k_whole); intro zr zh ztk zoh zou zus ztl znm zsz zF zN zhne zhO zhU zhn zhk zhi zhs; (try dsimp only at zN); (try simp only [List.nil_append, List.cons_append, List.append_nil, List.append_assoc] at zN); (try k_sweep))) | (((with_reducible show wpAny _ _ (call (Value.type "range") [Value.int _ _]) _ _ _); refine range_split3 (by with_reducible assumption) (by with_reducible assumption) ?_ ?_ ?_)) | (((with_reducible show wpAny _ _ (call (Value.ref 118) _) _ _ _); k_dflt (refine' take_call ?zqTS ?zqR ?zqF ?zqN ?zqst ?zqh0 ?zqU ?zqhO ?zqhrow ?zqhK ?zqhw ?zqhw2 ?_; (case zqTS => assumption); (case zqR => (refine Room.deeper (Room.weaken (by assumption) ?_ ?_) <;> omega)); (case zqF => k_asm); (case zqN => k_asm); (case zqst => assumption); (case zqh0 => assumption); (case zqU => k_updF); (case zqhO => assumption); (case zqhrow => exact RowAt.keeps (by assumption) (Fr.keep (by assumption))); (case zqhK => omega); (case zqhw => decide); (case zqhw2 => decide); k_whole); intro zr zt zh ztk zoh zhr1 zhr2 zF zN zhO; (try dsimp only at zN); (try k_sweep))) | (k_unfold; (try dsimp only)) | (k_end; kc_close) | walk1 | (dsimp only; walk1) | (leave1; walk_say "STEP leave1"; (try dsimp only)) | fail "no step"))
  · exact ret (ps := []) (tup_of (tl := []) (by k_asm) (by k_mem)) .nil (Nat.zero_le _) (left_of hg (by k_asm) (by k_asm) (by k_mem) (by k_mem) (forall_cons (by k_mem) (fun _ h => nomatch h)) (by k_all) (by k_all) (HandO.mono (by assumption) (by omega)) (by assumption) names0 (by assumption))
  · exact ret (tup_of (by k_asm) (by k_mem)) (.cons (Item.mono (fun _ h => List.mem_cons_of_mem _ h) (by assumption)) .nil) (by simp only [List.map_cons, List.map_nil, List.sum_cons, List.sum_nil]; omega)
      (left_of hg (by k_asm) (by k_asm) (by k_mem) (by k_mem) (forall_cons (by k_mem) (fun _ h => by walk_at "MySub")) (by k_all) (by k_all) (HandO.mono (by assumption) (by omega)) (by assumption) (names1 (by assumption)) (by assumption))
  · exact ret (tup_of (by k_asm) (by k_mem)) (.cons (Item.mono (fun _ h => List.mem_cons_of_mem _ (List.mem_append_left _ h)) (by assumption)) (.cons (Item.mono (fun _ h => List.mem_cons_of_mem _ (List.mem_append_right _ h)) (by assumption)) .nil))
      (by simp only [List.map_cons, List.map_nil, List.sum_cons, List.sum_nil]; omega)
      (left_of hg (by k_asm) (by k_asm) (by k_mem) (by k_mem) (forall_cons (by k_mem) (fun _ h => by walk_at "MySub")) (by k_all) (by k_all) (HandO.mono (by assumption) (by omega)) (by assumption) (names2 (by assumption) (by assumption)) (by assumption))
end Mine

/-! part B5 -/
namespace Mine
open _root_.PySem _root_.PySem.W _root_.PySem.Calls _root_.PyProof.Rows
example : True := by w_top off; trivial

local macro_rules | `(tactic| k_ne) => `(tactic| (refine neN ?_; (try dsimp only); first | with_reducible assumption | exact Ne.symm (by with_reducible assumption) | omega))
local macro_rules | `(tactic| walk_at "MySub") => `(tactic| first | assumption | (refine List.Mem.tail _ ?_; walk_at "MySub") | fail "MySub")
local macro_rules | `(tactic| k_all) => `(tactic| first | (refine List.forall_mem_append.mpr ⟨?a, ?b⟩; (case a => k_all); (case b => k_all)) | exact tail_ne (by assumption) (by k_mem) | fail "k_all")

local macro_rules | `(tactic| walk_at "MyDrop") => `(tactic| first | exact Drop.head | (refine' Drop.tail ?a; (case a => walk_at "MyDrop")) | fail "MyDrop")
set_option maxHeartbeats 8000000 in
theorem item_zero {w : World} {lo : List PySem.Str} {mean : ExcName → Option Value} {mg mb : PySem.Str → Option Value} {H : Heap} (G : Root w lo mean mg mb H) (TS : TakeSpec w H) : ItemSpec w H 0 := by
  intro A s R ah au ar oh ou K us deep td hr st h0 h0u h1 h1u hO hU hk hrow hru hK hdeep hD ret
  obtain ⟨handled, dp, fr, gd, un⟩ := A
  obtain rfl : handled = none := hr.handled
  have X := G.X
  have T := G.T
  have hne : ar ∉ [ah, au] := fun q => (List.mem_cons.mp q).elim (fun q => RowAt.ne hrow hO h1 q) fun q => hru (List.mem_singleton.mp q)
  have hau : @Ne Nat ah au := ah_ne_au hO hU h1 h1u
  obtain ⟨uv, nu, rfl, hus, hnd⟩ := hU
  have hl0 : lim 0 = 2 := rfl
  have husz := us_size hus hnd hk
  refine' enterN (K := Mine.hd.heap_39 w.params) (binds := [(PySem.Str.ofString "hand", .ref ah), (PySem.Str.ofString "deep", .int deep td), (PySem.Str.ofString "used", .ref au)]) [(ah, oh), (au, listOf uv.toArray nu)] X T st ?N ?k6 ?k7 ?k8 ?k9 ?kB ?_ ?c2 ?c3 ?c4 ?c5
  case N => intro q hq; rcases List.mem_cons.mp hq with rfl | hq; exact ⟨h1, h0⟩; rw [List.mem_singleton] at hq; subst hq; exact ⟨h1u, h0u⟩
  ((try (case k6 => k_is)); (try (case k7 => k_is)); (try (case k8 => (have := Room.depth (by assumption); dsimp only at this ⊢; omega))); (try (case k9 => exact BindsTo.of_eq rfl)); (try (case c5 => decide)); (try (case kB => exact locs rfl)); (try (case c2 => exact rfl)); (try (case c3 => exact rfl)); (try (case c4 => exact rfl)))
  intro g' L' h' hg st' F' N' X' T'
  have hrow' : RowAt g' ar := by
    obtain ⟨vs, ns, ⟨o, ho, r⟩, q⟩ := hrow
    exact ⟨vs, ns, ⟨o, hg ▸ hideAll_get _ ho hne, r⟩, q⟩
  clear hrow
  (try dsimp only)
  (try k_fold)
  (repeat' (first | ((with_reducible show wpAny _ _ (callWith _ (Value.builtin "list.append") ..) _ _ _); (with_unfolding_all refine PyProof.Rows.callWith_method1 ?_)) | ((with_reducible show wpAny _ _ (callWith _ (Value.type "str") ..) _ _ _); (with_unfolding_all refine Pv.callWith_type1 ?_)) | (((with_reducible show wpAny _ _ (call (Value.ref 118) _) _ _ _); k_dflt (refine' take_call ?zqTS ?zqR ?zqF ?zqN ?zqst ?zqh0 ?zqU ?zqhO ?zqhrow ?zqhK ?zqhw ?zqhw2 ?_; (case zqTS => assumption); (case zqR => (refine Room.deeper (Room.weaken (by assumption) ?_ ?_) <;> omega)); (case zqF => k_asm); (case zqN => k_asm); (case zqst => assumption); (case zqh0 => assumption); (case zqU => k_updF); (case zqhO => assumption); (case zqhrow => exact RowAt.keeps (by assumption) (Fr.keep (by assumption))); (case zqhK => omega); (case zqhw => decide); (case zqhw2 => decide); k_whole); intro zr zt zh ztk zoh zhr1 zhr2 zF zN zhO; (try dsimp only at zN); (try k_sweep))) | (k_unfold; (try dsimp only)) | (k_end; kc_close) | walk1 | (dsimp only; walk1) | (leave1; walk_say "STEP leave1"; (try dsimp only)) | fail "no step"))
  · exact ret (left_of2 hg (by k_asm) (by k_asm) (by walk_at "MyDrop") (by walk_at "MyDrop") (by k_all) (by k_all) (HandO.mono (by assumption) (by omega)) (usedO_old hus hnd) names0 hk) (item_leaf (tup_in (by k_mem)) .cas) (by omega)
  all_goals (try (exfalso; omega))
  all_goals first
    | exact ret (left_of2 hg (by k_asm) (by k_asm) (by walk_at "MyDrop") (by walk_at "MyDrop") (by k_all) (by k_all) (HandO.mono (by assumption) (by omega)) (usedO_old hus hnd) (names_old (by assumption)) hk) (item_leaf (tup_in (by k_mem)) .inst) (by omega)
    | exact ret (left_of2 hg (by k_asm) (by k_asm) (by walk_at "MyDrop") (by walk_at "MyDrop") (by k_all) (by k_all) (HandO.mono (by assumption) (by omega)) (usedO_new hus hnd (by assumption)) names_new (known_new hk (mname_mem (by assumption) (by assumption)))) (item_leaf (tup_in (by k_mem)) .inst) (by omega)
    | fail "no end"
end Mine

/-! part B6 -/
namespace Mine
open _root_.PySem _root_.PySem.W _root_.PySem.Calls _root_.PyProof.Rows
example : True := by w_top off; trivial

local macro_rules | `(tactic| k_ne) => `(tactic| (refine neN ?_; (try dsimp only); first | with_reducible assumption | exact Ne.symm (by with_reducible assumption) | omega))
local macro_rules | `(tactic| walk_at "MySub") => `(tactic| first | assumption | (refine List.Mem.tail _ ?_; walk_at "MySub") | fail "MySub")
local macro_rules | `(tactic| k_all) => `(tactic| first | (refine List.forall_mem_append.mpr ⟨?a, ?b⟩; (case a => k_all); (case b => k_all)) | exact tail_ne (by assumption) (by k_mem) | fail "k_all")

local macro_rules | `(tactic| walk_at "MyDrop") => `(tactic| first | exact Drop.head | (refine' Drop.tail ?a; (case a => walk_at "MyDrop")) | fail "MyDrop")
local macro_rules | `(tactic| walk_at "MySub") => `(tactic| first | assumption | (refine List.Mem.tail _ ?_; walk_at "MySub") | (refine List.mem_append_left _ ?_; walk_at "MySub") | (refine List.mem_append_right _ ?_; walk_at "MySub") | fail "MySub")
set_option maxHeartbeats 8000000 in
theorem item_succ {w : World} {lo : List PySem.Str} {mean : ExcName → Option Value} {mg mb : PySem.Str → Option Value} {H : Heap} (G : Root w lo mean mg mb H) (TS : TakeSpec w H) {D : Nat} (IS : ItemSpec w H D) : ItemSpec w H (D + 1) := by
  have IsS := items_of_item G TS IS
  intro A s R ah au ar oh ou K us deep td hr st h0 h0u h1 h1u hO hU hk hrow hru hK hdeep hD ret
  obtain ⟨handled, dp, fr, gd, un⟩ := A
  obtain rfl : handled = none := hr.handled
  have X := G.X
  have T := G.T
  have hne : ar ∉ [ah, au] := fun q => (List.mem_cons.mp q).elim (fun q => RowAt.ne hrow hO h1 q) fun q => hru (List.mem_singleton.mp q)
  have hau : @Ne Nat ah au := ah_ne_au hO hU h1 h1u
  obtain ⟨uv, nu, rfl, hus, hnd⟩ := hU
  have hlS : lim (D + 1) = 4 + 2 * lim D := rfl
  have hdeep' : deep + 1 = 3 - (D : Int) := by omega
  have husz := us_size hus hnd hk
  have hUs : UsedO (listOf uv.toArray nu) us := usedO_old hus hnd
  refine' enterN (K := Mine.hd.heap_39 w.params) (binds := [(PySem.Str.ofString "hand", .ref ah), (PySem.Str.ofString "deep", .int deep td), (PySem.Str.ofString "used", .ref au)]) [(ah, oh), (au, listOf uv.toArray nu)] X T st ?N ?k6 ?k7 ?k8 ?k9 ?kB ?_ ?c2 ?c3 ?c4 ?c5
  case N => intro q hq; rcases List.mem_cons.mp hq with rfl | hq; exact ⟨h1, h0⟩; rw [List.mem_singleton] at hq; subst hq; exact ⟨h1u, h0u⟩
  ((try (case k6 => k_is)); (try (case k7 => k_is)); (try (case k8 => (have := Room.depth (by assumption); dsimp only at this ⊢; omega))); (try (case k9 => exact BindsTo.of_eq rfl)); (try (case c5 => decide)); (try (case kB => exact locs rfl)); (try (case c2 => exact rfl)); (try (case c3 => exact rfl)); (try (case c4 => exact rfl)))
  intro g' L' h' hg st' F' N' X' T'
  have hrow' : RowAt g' ar := by
    obtain ⟨vs, ns, ⟨o, ho, r⟩, q⟩ := hrow
    exact ⟨vs, ns, ⟨o, hg ▸ hideAll_get _ ho hne, r⟩, q⟩
  clear hrow
  (try dsimp only)
  (try k_fold)
  (repeat' (first | ((with_reducible show RangeRest ..); (first | (with_reducible refine RangeRest.zero (fun zh ztk zF zN => ?_)) | (with_reducible refine RangeRest.succ (fun zt zh ztk zF zN => ?_)) | fail "RangeRest")) | ((with_reducible show wpAny _ _ (callWith _ (Value.builtin "list.append") ..) _ _ _); (with_unfolding_all refine PyProof.Rows.callWith_method1 ?_)) | ((with_reducible show wpAny _ _ (callWith _ (Value.type "str") ..) _ _ _); (with_unfolding_all refine Pv.callWith_type1 ?_)) | ((with_reducible show wpAny _ _ (callWith _ (Value.type "tuple") ..) _ _ _); (with_unfolding_all refine Pv.callWith_type1 ?_)) | (((with_reducible show wpAny _ _ (call (Value.ref 125) _) _ _ _); k_dflt (refine' items_call ?zqIS ?zqR ?zqF ?zqN ?zqst ?zqh0 ?zqh0u ?zqU ?zqU2 ?zqhO ?zqhU ?zqhk ?zqhrow ?zqhru ?zqhK ?zqhdeep ?zqhD ?_; (case zqIS => assumption); (case zqR => (refine Room.deeper (Room.weaken (by assumption) ?_ ?_) <;> omega)); (case zqF => k_asm); (case zqN => k_asm); (case zqst => assumption); (case zqh0 => assumption); (case zqh0u => assumption); (case zqU => k_updF); (case zqU2 => intro o; (try dsimp only); k_updF); (case zqhO => assumption); (case zqhU => assumption); (case zqhk => assumption); (case zqhrow => exact RowAt.keeps (by assumption) (Fr.keep (by assumption))); (case zqhru => assumption); (case zqhK => omega); (case zqhdeep => omega); (case zqhD => omega); k_whole); intro zr zh ztk zoh zou zus ztl zvs zps zF zN zhne zhO zhU zhn zhk zhi zhp zhs; (try dsimp only at zN); (try simp only [List.nil_append, List.cons_append, List.append_nil, List.append_assoc] at zN); (try k_sweep))) | ((with_reducible show UnrEnd ..); (refine' unrEnd ?zqF ?zqN ?zqD ?zqoff ?_; (case zqF => k_asm); (case zqN => k_asm); (case zqD => walk_at "MyDrop"); (case zqoff => k_all))) | (((with_reducible show wpAny _ _ (call (Value.ref 132) _) _ _ _); k_dflt (refine' item_call ?zqIS ?zqR ?zqF ?zqN ?zqst ?zqh0 ?zqh0u ?zqU ?zqU2 ?zqhO ?zqhU ?zqhk ?zqhrow ?zqhru ?zqhK ?zqhdeep ?zqhD ?_; (case zqIS => assumption); (case zqR => (refine Room.deeper (Room.weaken (by assumption) ?_ ?_) <;> omega)); (case zqF => k_asm); (case zqN => k_asm); (case zqst => assumption); (case zqh0 => assumption); (case zqh0u => assumption); (case zqU => k_updF); (case zqU2 => intro o; (try dsimp only); k_updF); (case zqhO => assumption); (case zqhU => assumption); (case zqhk => assumption); (case zqhrow => exact RowAt.keeps (by assumption) (Fr.keep (by assumption))); (case zqhru => assumption); (case zqhK => omega); (case zqhdeep => omega); (case zqhD => omega); k_whole); intro zr zh ztk zoh zou zus ztl znm zsz zF zN zhne zhO zhU zhn zhk zhi zhs; (try dsimp only at zN); (try simp only [List.nil_append, List.cons_append, List.append_nil, List.append_assoc] at zN); (try k_sweep))) | (((with_reducible show wpAny _ _ (call (Value.type "range") [Value.int _ _]) _ _ _); refine range_split3 (by with_reducible assumption) (by with_reducible assumption) ?_ ?_ ?_)) | (((with_reducible show wpAny _ _ (call (Value.ref 118) _) _ _ _); k_dflt (refine' take_call ?zqTS ?zqR ?zqF ?zqN ?zqst ?zqh0 ?zqU ?zqhO ?zqhrow ?zqhK ?zqhw ?zqhw2 ?_; (case zqTS => assumption); (case zqR => (refine Room.deeper (Room.weaken (by assumption) ?_ ?_) <;> omega)); (case zqF => k_asm); (case zqN => k_asm); (case zqst => assumption); (case zqh0 => assumption); (case zqU => k_updF); (case zqhO => assumption); (case zqhrow => exact RowAt.keeps (by assumption) (Fr.keep (by assumption))); (case zqhK => omega); (case zqhw => decide); (case zqhw2 => decide); k_whole); intro zr zt zh ztk zoh zhr1 zhr2 zF zN zhO; (try dsimp only at zN); (try k_sweep))) | (k_unfold; (try dsimp only)) | (k_end; kc_close) | walk1 | (dsimp only; walk1) | (leave1; walk_say "STEP leave1"; (try dsimp only)) | fail "no step"))
  · exact item_fin hg (by k_asm) (by k_asm) (by k_mem) (by k_mem) (item_leaf (tup_filt (by k_mem)) .cas) (by omega) (HandO.mono (by assumption) (by omega)) hUs names0 hk ret
  iterate 2
    first
      | exact item_fin hg (by k_asm) (by k_asm) (by k_mem) (by k_mem) (item_leaf (tup_filt (by k_mem)) .inst) (by omega) (HandO.mono (by assumption) (by omega)) hUs (names_old (by assumption)) hk ret
      | exact item_fin hg (by k_asm) (by k_asm) (by k_mem) (by k_mem) (item_leaf (tup_filt (by k_mem)) .inst) (by omega) (HandO.mono (by assumption) (by omega)) (usedO_new hus hnd (by assumption)) names_new (known_new hk (mname_mem (by assumption) (by assumption))) ret
  · exact item_fin hg (by k_asm) (by k_asm) (by k_mem) (by k_mem) (item_blk (tup_filt (by k_mem)) (tup_monoT (by assumption) (fun _ h => by walk_at "MySub")) (items_monoT (by assumption) (fun _ h => by walk_at "MySub"))) (by ((try simp only [List.map_cons, List.map_nil, List.sum_cons, List.sum_nil]); omega)) (HandO.mono (by assumption) (by omega)) (by assumption) (by (first | assumption | (simp only [List.flatMap_cons, List.flatMap_nil, List.nil_append, List.append_nil]; first | assumption | exact names0 | exact namesA (by assumption) (by assumption) | fail "MyNames") | fail "MyNames")) (by assumption) ret
  · exact item_fin hg (by k_asm) (by k_asm) (by k_mem) (by k_mem) (item_gfor (tup_filt (by k_mem)) (item_monoT (by assumption) (fun _ h => by walk_at "MySub"))) (by ((try simp only [List.map_cons, List.map_nil, List.sum_cons, List.sum_nil]); omega)) (HandO.mono (by assumption) (by omega)) (by assumption) (by (first | assumption | (simp only [List.flatMap_cons, List.flatMap_nil, List.nil_append, List.append_nil]; first | assumption | exact names0 | exact namesA (by assumption) (by assumption) | fail "MyNames") | fail "MyNames")) (by assumption) ret
  · exact item_fin hg (by k_asm) (by k_asm) (by k_mem) (by k_mem) (item_of (tup_filt (by k_mem)) (.gcase (cs := []) (tup_filt (by k_mem)) (by exact Nat.le_of_ble_eq_true rfl) .nil) .nil) (by ((try simp only [List.map_cons, List.map_nil, List.sum_cons, List.sum_nil]); omega)) (HandO.mono (by assumption) (by omega)) (by assumption) (by (first | assumption | (simp only [List.flatMap_cons, List.flatMap_nil, List.nil_append, List.append_nil]; first | assumption | exact names0 | exact namesA (by assumption) (by assumption) | fail "MyNames") | fail "MyNames")) (by assumption) ret
  iterate 2
    exact item_fin hg (by k_asm) (by k_asm) (by k_mem) (by k_mem) (item_of (tup_filt (by k_mem)) (.gcase (cs := [_]) (tup_filt (by k_mem)) (by exact Nat.le_of_ble_eq_true rfl) (.cons (tup_filt (by k_mem)) .nil)) (.cons (by (first | exact .inl ⟨rfl, rfl⟩ | exact .inr (item_monoT (by assumption) (fun _ h => by walk_at "MySub")) | fail "MyOpt")) .nil)) (by ((try simp only [List.map_cons, List.map_nil, List.sum_cons, List.sum_nil]); omega)) (HandO.mono (by assumption) (by omega)) (by assumption) (by (first | assumption | (simp only [List.flatMap_cons, List.flatMap_nil, List.nil_append, List.append_nil]; first | assumption | exact names0 | exact namesA (by assumption) (by assumption) | fail "MyNames") | fail "MyNames")) (by assumption) ret
  iterate 4
    exact item_fin hg (by k_asm) (by k_asm) (by k_mem) (by k_mem) (item_of (tup_filt (by k_mem)) (.gcase (cs := [_, _]) (tup_filt (by k_mem)) (by exact Nat.le_of_ble_eq_true rfl) (.cons (tup_filt (by k_mem)) (.cons (tup_filt (by k_mem)) .nil))) (.cons (by (first | exact .inl ⟨rfl, rfl⟩ | exact .inr (item_monoT (by assumption) (fun _ h => by walk_at "MySub")) | fail "MyOpt")) (.cons (by (first | exact .inl ⟨rfl, rfl⟩ | exact .inr (item_monoT (by assumption) (fun _ h => by walk_at "MySub")) | fail "MyOpt")) .nil))) (by ((try simp only [List.map_cons, List.map_nil, List.sum_cons, List.sum_nil]); omega)) (HandO.mono (by assumption) (by omega)) (by assumption) (by (first | assumption | (simp only [List.flatMap_cons, List.flatMap_nil, List.nil_append, List.append_nil]; first | assumption | exact names0 | exact namesA (by assumption) (by assumption) | fail "MyNames") | fail "MyNames")) (by assumption) ret
  iterate 4
    exact item_fin hg (by k_asm) (by k_asm) (by k_mem) (by k_mem) (item_of (cs := [_, _]) (tup_filt (by k_mem)) .gif (.cons (by (first | exact .inl ⟨rfl, rfl⟩ | exact .inr (item_monoT (by assumption) (fun _ h => by walk_at "MySub")) | fail "MyOpt")) (.cons (by (first | exact .inl ⟨rfl, rfl⟩ | exact .inr (item_monoT (by assumption) (fun _ h => by walk_at "MySub")) | fail "MyOpt")) .nil))) (by ((try simp only [List.map_cons, List.map_nil, List.sum_cons, List.sum_nil]); omega)) (HandO.mono (by assumption) (by omega)) (by assumption) (by (first | assumption | (simp only [List.flatMap_cons, List.flatMap_nil, List.nil_append, List.append_nil]; first | assumption | exact names0 | exact namesA (by assumption) (by assumption) | fail "MyNames") | fail "MyNames")) (by assumption) ret
end Mine

/-! part B7 -/
namespace Mine
open _root_.PySem _root_.PySem.W _root_.PySem.Calls _root_.PyProof.Rows
example : True := by w_top off; trivial

local macro_rules | `(tactic| k_ne) => `(tactic| (refine neN ?_; (try dsimp only); first | with_reducible assumption | exact Ne.symm (by with_reducible assumption) | omega))
local macro_rules | `(tactic| walk_at "MySub") => `(tactic| first | assumption | (refine List.Mem.tail _ ?_; walk_at "MySub") | fail "MySub")
local macro_rules | `(tactic| k_all) => `(tactic| first | (refine List.forall_mem_append.mpr ⟨?a, ?b⟩; (case a => k_all); (case b => k_all)) | exact tail_ne (by assumption) (by k_mem) | fail "k_all")

local macro_rules | `(tactic| walk_at "MyDrop") => `(tactic| first | exact Drop.head | (refine' Drop.tail ?a; (case a => walk_at "MyDrop")) | fail "MyDrop")
local macro_rules | `(tactic| walk_at "MySub") => `(tactic| first | assumption | (refine List.Mem.tail _ ?_; walk_at "MySub") | (refine List.mem_append_left _ ?_; walk_at "MySub") | (refine List.mem_append_right _ ?_; walk_at "MySub") | fail "MySub")

theorem led_filt {h g h' : Heap} {L : Addr} {news : Led} {ah ar : Addr} {K : Nat} {oh' : Obj}
    (hg : g = hideAll h [ah]) (N : News g L h' news) (m1 : (ah, oh') ∈ news) (hO : HandO ar oh' K) : LedAt h' (filt news) ∧ ∀ p ∈ filt news, h.get? p.1 = none := by
  refine ⟨fun p hp => (N p (mem_filt.mp hp).1).1, fun p hp => ?_⟩
  have ne : p.1 ≠ ah := by
    intro e
    have h1 := (N _ m1).1
    have h2 := (N p (mem_filt.mp hp).1).1
    rw [e, h1] at h2
    have h3 := (mem_filt.mp hp).2
    rw [← Option.some.inj h2, hO.cls] at h3
    exact absurd (Value.type.inj h3) (by decide)
  have e := (N p (mem_filt.mp hp).1).2.2
  cases q : h.get? p.1 with
  | none => rfl
  | some o =>
    have := hideAll_get [ah] q (by intro hm; exact ne (List.mem_singleton.mp hm))
    rw [← hg, e] at this; cases this

def parKd (b : Bool) : PySem.Str := if b then PySem.Str.ofString "parameter" else PySem.Str.ofString "localparam"
def Par (tl : Led) (v : Value) (p : Bool × PySem.Str) : Prop := ∃ t t' t'' u, Tup tl v [.str (PySem.Str.ofString "param") t, .int 1 t', .str (parKd p.1) t'', .bool false, .none, .str p.2 u, .none]
def theParams : List PySem.Str := [PySem.Str.ofString "p0", PySem.Str.ofString "p1", PySem.Str.ofString "q0", PySem.Str.ofString "q1"]

theorem parT {tl : Led} {v : Value} {nm : PySem.Str} {t t' t'' u : Tok} (h : Tup tl v [.str (PySem.Str.ofString "param") t, .int 1 t', .str (PySem.Str.ofString "parameter") t'', .bool false, .none, .str nm u, .none]) : Par tl v (true, nm) := ⟨_, _, _, _, h⟩
theorem parF {tl : Led} {v : Value} {nm : PySem.Str} {t t' t'' u : Tok} (h : Tup tl v [.str (PySem.Str.ofString "param") t, .int 1 t', .str (PySem.Str.ofString "localparam") t'', .bool false, .none, .str nm u, .none]) : Par tl v (false, nm) := ⟨_, _, _, _, h⟩
theorem pn0 {sv : PySem.Str} (h : sv = PySem.Str.ofString "p" ∨ sv = PySem.Str.ofString "q") : sv ++ PySem.Str.ofString (toString ((0 : Int) + ((0 : Nat) : Int))) ∈ theParams := by
  rcases h with rfl | rfl <;> decide +kernel
theorem pn1 {sv : PySem.Str} (h : sv = PySem.Str.ofString "p" ∨ sv = PySem.Str.ofString "q") : sv ++ PySem.Str.ofString (toString ((0 : Int) + ((0 + 1 : Nat) : Int))) ∈ theParams := by
  rcases h with rfl | rfl <;> decide +kernel

def ParsSpec (w : World) (H : Heap) : Prop := ∀ (A : Around) (s : Shared) (R : Result → Shared → Prop) (ah ar : Addr) (oh : Obj) (K : Nat) (sv : PySem.Str) (ts : Tok),
  Room A 4 60 → H.StaysIn s.heap → H.get? ah = none → s.heap.get? ah = some oh → HandO ar oh K → RowAt s.heap ar → K + 5 < 1000000 → (sv = PySem.Str.ofString "p" ∨ sv = PySem.Str.ofString "q") →
  (∀ {r h' tk' oh' tl vs ps}, Ext [ah] s.heap h' → h'.get? ah = some oh' → HandO ar oh' (K + 5) → LedAt h' tl → (∀ p ∈ tl, s.heap.get? p.1 = none) → Tup tl r vs → Pairs (Par tl) vs ps → (∀ p ∈ ps, p.2 ∈ theParams) → ps.length ≤ 2 → R (.ok (.ret r)) { s with heap := h', toks := tk' }) →
  codeAny (model PySem.Challenge.pw_pq0447_01 w) A (.call (.ref 139) ⟨[.ref ah, .str sv ts], []⟩) R s

set_option maxHeartbeats 8000000 in
theorem pars_spec {w : World} {lo : List PySem.Str} {mean : ExcName → Option Value} {mg mb : PySem.Str → Option Value} {H : Heap} (G : Root w lo mean mg mb H) (TS : TakeSpec w H) : ParsSpec w H := by
  intro A s R ah ar oh K sv ts hr st h0 h1 hO hrow hK hsv ret
  obtain ⟨handled, dp, fr, gd, un⟩ := A
  obtain rfl : handled = none := hr.handled
  have X := G.X
  have T := G.T
  have hne : ar ∉ [ah] := fun q => RowAt.ne hrow hO h1 (List.mem_singleton.mp q)
  refine' enterN (K := Mine.hd.heap_39 w.params) (binds := [(PySem.Str.ofString "hand", .ref ah), (PySem.Str.ofString "stem", .str sv ts)]) [(ah, oh)] X T st ?N ?k6 ?k7 ?k8 ?k9 ?kB ?_ ?c2 ?c3 ?c4 ?c5
  case N => intro q hq; rw [List.mem_singleton] at hq; subst hq; exact ⟨h1, h0⟩
  ((try (case k6 => k_is)); (try (case k7 => k_is)); (try (case k8 => (have := Room.depth (by assumption); dsimp only at this ⊢; omega))); (try (case k9 => exact BindsTo.of_eq rfl)); (try (case c5 => decide)); (try (case kB => exact locs rfl)); (try (case c2 => exact rfl)); (try (case c3 => exact rfl)); (try (case c4 => exact rfl)))
  intro g' L' h' hg st' F' N' X' T'
  have hrow' : RowAt g' ar := by
    obtain ⟨vs, ns, ⟨o, ho, r⟩, q⟩ := hrow
    exact ⟨vs, ns, ⟨o, hg ▸ hideAll_get _ ho hne, r⟩, q⟩
  clear hrow
  have hsl : sv.length = 1 := by rcases hsv with rfl | rfl <;> decide
  (try dsimp only)
  (try k_fold)
  (repeat' (first | ((with_reducible show RangeRest ..); (first | (with_reducible refine RangeRest.zero (fun zh ztk zF zN => ?_)) | (with_reducible refine RangeRest.succ (fun zt zh ztk zF zN => ?_)) | fail "RangeRest")) | ((with_reducible show wpAny _ _ (callWith _ (Value.builtin "list.append") ..) _ _ _); (with_unfolding_all refine PyProof.Rows.callWith_method1 ?_)) | ((with_reducible show wpAny _ _ (callWith _ (Value.type "str") ..) _ _ _); (with_unfolding_all refine Pv.callWith_type1 ?_)) | ((with_reducible show wpAny _ _ (callWith _ (Value.type "tuple") ..) _ _ _); (with_unfolding_all refine Pv.callWith_type1 ?_)) | ((with_reducible show UnrEnd ..); (refine' unrEnd ?zqF ?zqN ?zqD ?zqoff ?_; (case zqF => k_asm); (case zqN => k_asm); (case zqD => walk_at "MyDrop"); (case zqoff => k_all))) | (((with_reducible show wpAny _ _ (call (Value.type "range") [Value.int _ _]) _ _ _); refine range_split3 (by with_reducible assumption) (by with_reducible assumption) ?_ ?_ ?_)) | (((with_reducible show wpAny _ _ (call (Value.ref 118) _) _ _ _); k_dflt (refine' take_call ?zqTS ?zqR ?zqF ?zqN ?zqst ?zqh0 ?zqU ?zqhO ?zqhrow ?zqhK ?zqhw ?zqhw2 ?_; (case zqTS => assumption); (case zqR => (refine Room.deeper (Room.weaken (by assumption) ?_ ?_) <;> omega)); (case zqF => k_asm); (case zqN => k_asm); (case zqst => assumption); (case zqh0 => assumption); (case zqU => k_updF); (case zqhO => assumption); (case zqhrow => exact RowAt.keeps (by assumption) (Fr.keep (by assumption))); (case zqhK => omega); (case zqhw => decide); (case zqhw2 => decide); k_whole); intro zr zt zh ztk zoh zhr1 zhr2 zF zN zhO; (try dsimp only at zN); (try k_sweep))) | (k_unfold; (try dsimp only)) | (k_end; kc_close) | walk1 | (dsimp only; walk1) | (leave1; walk_say "STEP leave1"; (try dsimp only)) | fail "no step"))
  · exact ret (Ext.of_fr hg (by k_asm)) (News.get (by k_asm) (by k_mem)) (HandO.mono (by assumption) (by omega)) (led_filt hg (by k_asm) (by k_mem) (by assumption)).1 (led_filt hg (by k_asm) (by k_mem) (by assumption)).2 (tup_filt (by k_mem)) .nil (fun _ h => nomatch h) (by decide)
  iterate 2
    exact ret (Ext.of_fr hg (by k_asm)) (News.get (by k_asm) (by k_mem)) (HandO.mono (by assumption) (by omega)) (led_filt hg (by k_asm) (by k_mem) (by assumption)).1 (led_filt hg (by k_asm) (by k_mem) (by assumption)).2 (tup_filt (by k_mem)) (.cons (by (first | exact parT (tup_filt (by k_mem)) | exact parF (tup_filt (by k_mem)) | fail "MyPar")) .nil) (List.forall_mem_cons.mpr ⟨pn0 hsv, fun _ h => nomatch h⟩) (Nat.le_of_ble_eq_true rfl)
  iterate 4
    exact ret (Ext.of_fr hg (by k_asm)) (News.get (by k_asm) (by k_mem)) (HandO.mono (by assumption) (by omega)) (led_filt hg (by k_asm) (by k_mem) (by assumption)).1 (led_filt hg (by k_asm) (by k_mem) (by assumption)).2 (tup_filt (by k_mem)) (.cons (by (first | exact parT (tup_filt (by k_mem)) | exact parF (tup_filt (by k_mem)) | fail "MyPar")) (.cons (by (first | exact parT (tup_filt (by k_mem)) | exact parF (tup_filt (by k_mem)) | fail "MyPar")) .nil)) (List.forall_mem_cons.mpr ⟨pn0 hsv, List.forall_mem_cons.mpr ⟨pn1 hsv, fun _ h => nomatch h⟩⟩) (Nat.le_of_ble_eq_true rfl)
end Mine

/-! part B8 -/
namespace Mine
open _root_.PySem _root_.PySem.W _root_.PySem.Calls _root_.PyProof.Rows
example : True := by w_top off; trivial

local macro_rules | `(tactic| k_ne) => `(tactic| (refine neN ?_; (try dsimp only); first | with_reducible assumption | exact Ne.symm (by with_reducible assumption) | omega))

def RowSpec (w : World) (H : Heap) : Prop := ∀ (A : Around) (s : Shared) (R : Result → Shared → Prop) (asr : Addr) (vs : List Value) (ns : List Int),
  Room A 2 40 → H.StaysIn s.heap → s.heap.IsList asr vs.toArray → IntsAre vs ns → ns.length ≤ 63 →
  (∀ {h' tk' ah ar oh orr rv rn n}, Ext [] s.heap h' → s.heap.get? ah = none → s.heap.get? ar = none → h'.get? ah = some oh → HandO ar oh 0 → h'.get? ar = some orr → orr = listOf rv.toArray n → IntsAre rv rn → rn.length ≤ 126 → @Ne Nat ah ar → R (.ok (.ret (.ref ah))) { s with heap := h', toks := tk' }) →
  codeAny (model PySem.Challenge.pw_pq0447_01 w) A (.call (.ref 111) ⟨[.ref asr], []⟩) R s

theorem none_of {h g h' : Heap} {L a : Addr} {o : Obj} {news : Led} (hg : g = h) (N : News g L h' news) (m : (a, o) ∈ news) : h.get? a = none := hg ▸ (N _ m).2.2

theorem row_fin {G : Prop} {h g h' : Heap} {L ah ar : Addr} {m : PySem.Str → Option Value} {news : Led} {tk : Tok} {n n' : Nat} {rv : List Value} {rn : List Int} (hg : g = h) (F : Fr g L h' m) (N : News g L h' news)
    (m1 : (ah, listOf [Value.ref ar, .int 0 tk].toArray n') ∈ news) (m2 : (ar, listOf rv.toArray n) ∈ news) (hi : IntsAre rv rn) (hl : rn.length ≤ 126) (hne : @Ne Nat ah ar)
    (ret : Ext [] h h' → h.get? ah = none → h.get? ar = none → h'.get? ah = some (listOf [Value.ref ar, .int 0 tk].toArray n') → HandO ar (listOf [Value.ref ar, .int 0 tk].toArray n') 0 → h'.get? ar = some (listOf rv.toArray n) → listOf rv.toArray n = listOf rv.toArray n → IntsAre rv rn → rn.length ≤ 126 → @Ne Nat ah ar → G) : G :=
  ret (fun b o _ q => F.keep b o (hg ▸ q)) (none_of hg N m1) (none_of hg N m2) (N _ m1).1 ⟨0, _, _, rfl, by decide, by decide⟩ (N _ m2).1 rfl hi hl hne

set_option maxHeartbeats 8000000 in
theorem row_spec {w : World} {lo : List PySem.Str} {mean : ExcName → Option Value} {mg mb : PySem.Str → Option Value} {H : Heap} (G : Root w lo mean mg mb H) : RowSpec w H := by
  intro A s R asr vs ns hr st hl hi hlen ret
  obtain ⟨handled, dp, fr, gd, un⟩ := A
  obtain rfl : handled = none := hr.handled
  have X := G.X
  have T := G.T
  refine' enterN (K := Mine.hd.heap_39 w.params) (binds := [(PySem.Str.ofString "script", .ref asr)]) [] X T st ?N ?k6 ?k7 ?k8 ?k9 ?kB ?_ ?c2 ?c3 ?c4 ?c5
  case N => intro q hq; cases hq
  ((try (case k6 => k_is)); (try (case k7 => k_is)); (try (case k8 => (have := Room.depth (by assumption); dsimp only at this ⊢; omega))); (try (case k9 => exact BindsTo.of_eq rfl)); (try (case c5 => decide)); (try (case kB => exact locs rfl)); (try (case c2 => exact rfl)); (try (case c3 => exact rfl)); (try (case c4 => exact rfl)))
  intro g' L' h' hg st' F' N' X' T'
  have hl' : g'.IsList asr vs.toArray := by
    obtain ⟨o, ho, r⟩ := hl
    exact ⟨o, hg ▸ hideAll_get _ ho (by simp), r⟩
  clear hl
  (try dsimp only)
  (try k_fold)
  (repeat' (first | ((with_reducible show wpAny _ _ (pyIter (Value.ref _)) _ _ _); (k_state (fun pre row => row.length ≤ 2 * pre.length) "row")) | ((with_reducible show wpAny _ _ (exec (Stmt.For ..) _) _ _ _); ((rename Fr _ _ _ _ => zlF); (with_unfolding_all refine' For_invVF zlF ?zqk1 ?zqk2 ?_; (case zqk1 => exact rfl); (case zqk2 => exact rfl); k_whole))) | (k_unfold; (try dsimp only)) | (k_end; kc_close) | walk1 | (dsimp only; walk1) | (leave1; walk_say "STEP leave1"; (try dsimp only)) | fail "no step"))
  exact row_fin hg (by k_asm) (by k_asm) (by k_mem) (by k_mem) (by assumption) (by omega) (by omega) ret
end Mine

/-! part B9a -/
namespace Mine
open _root_.PySem _root_.PySem.W _root_.PySem.Calls _root_.PyProof.Rows
example : True := by w_top off; trivial

abbrev tupO (xs : List Value) (n : Nat) : Obj := { cls := .type "tuple", data := .seq xs.toArray n }
theorem tup_at {h : Heap} {tl : Led} {v : Value} {xs : List Value} (l : LedAt h tl) (t : Tup tl v xs) : ∃ a n, v = .ref a ∧ h.get? a = some (tupO xs n) := let ⟨a, n, e, m⟩ := t; ⟨a, n, e, l _ m⟩
theorem isTup_of {h : Heap} {a n : Nat} {xs : List Value} (e : h.get? a = some (tupO xs n)) : IsTup h a xs.toArray := ⟨_, e, rfl, n, rfl⟩

section
variable {prog : Program} {w : World} {A : Around} {E : Value → Shared → Prop} {s : Shared} {env : Env}

/-- a list or a tuple that is walked -/
def SeqAt (h : Heap) (a : Addr) (items : List Value) : Prop := h.IsList a items.toArray ∨ IsTup h a items.toArray

theorem pyIter_seq {a : Addr} {items : List Value} {Q : Value → Shared → Prop} (hh : A.handled = none) (ha : SeqAt s.heap a items)
    (k : ∀ I h' St, Walks prog w A I [I, a] [I] items.toArray.size (fun i v => items.toArray[i]? = some v) St → St 0 h' → s.heap.get? I = none → (∀ b ∈ [I, a], b < h'.objs.size) → (∀ b o, s.heap.get? b = some o → h'.get? b = some o) → I = s.heap.objs.size → Q (.ref I) { s with heap := h' }) :
    wpAny (model prog w) A (pyIter (.ref a)) Q E s := by
  have hnone : s.heap.get? s.heap.objs.size = none := by
    cases q : s.heap.get? s.heap.objs.size with
    | none => rfl
    | some o => exact absurd (Heap.lt_size q) (Nat.lt_irrefl _)
  rcases ha with hl | ht
  · obtain ⟨o, ho, _⟩ := id hl
    have hne : a ≠ s.heap.objs.size := Nat.ne_of_lt (Heap.lt_size ho)
    refine wpAny_pyIter_list hl (k _ _ _ (Walks.list hh s.heap.objs.size a hne items.toArray) ⟨⟨_, Heap.get?_push_size _ rfl, rfl, rfl⟩, hl.at fun o e => Heap.get?_push_of_some _ e⟩ hnone ?_ (fun b o e => Heap.get?_push_of_some _ e) rfl)
    intro b hb
    rw [Heap.size_push]
    rcases List.mem_cons.mp hb with rfl | hb
    · exact Nat.lt_succ_self _
    · rw [List.mem_singleton.mp hb]; exact Nat.lt_succ_of_lt (Heap.lt_size ho)
  · obtain ⟨o, ho, hc, n, hd⟩ := id ht
    have hne : a ≠ s.heap.objs.size := Nat.ne_of_lt (Heap.lt_size ho)
    refine wpAny_pyIter_tuple ht (k _ _ _ (Walks.tuple hh s.heap.objs.size a hne items.toArray) ⟨⟨_, Heap.get?_push_size _ rfl, rfl, rfl⟩, ⟨o, Heap.get?_push_of_some _ ho, hc, n, hd⟩⟩ hnone ?_ (fun b o e => Heap.get?_push_of_some _ e) rfl)
    intro b hb
    rw [Heap.size_push]
    rcases List.mem_cons.mp hb with rfl | hb
    · exact Nat.lt_succ_self _
    · rw [List.mem_singleton.mp hb]; exact Nat.lt_succ_of_lt (Heap.lt_size ho)

theorem paired_map {f : Value → Value} : ∀ {l ys : List Value}, Paired (fun v y => y = f v) l ys → ys = l.map f
  | _, _, .nil => rfl
  | _, _, .cons h r => by rw [h, paired_map r]; rfl

/-- a comprehension over a sequence, its test and its item read off the heap alone -/
theorem lc_seq {elt iter : Expr} {x : PySem.Str} {px : Pos} {ifs : List Expr} {scope : Scope} {cl : List (PySem.Str × Addr)} {pos : Pos} {Q : Value → Shared → Prop} (p : Value → Bool) (F : Value → Value → Prop)
    (hh : A.handled = none) (hclos : closureFor scope env = pure cl) (hcell : ∀ y ∈ scope.names, y.2 ≠ .cell) (hkind : scope.kind = .function)
    (hnames : ∀ y ∈ scope.names, y.2 = .local → scope.names.lookup y.1 = some .local) (hx : scope.names.lookup x = some .local)
    (h : wpAny (model prog w) A (eval iter env) (fun xv s₁ => ∃ a items, xv = .ref a ∧ SeqAt s₁.heap a items ∧ items.length ≤ sizeLine ∧
      (∀ C v s₃ m₃ E', s₁.heap.objs.size ≤ C → v ∈ items → s₃.heap.Ns C m₃ → m₃ x = some v → (∀ b o, s₁.heap.get? b = some o → s₃.heap.get? b = some o) →
        wpAny (model prog w) A (forIn ifs true fun c r => if r = true then do let ok ← isTrue c (compEnvC scope cl C env) (eval c (compEnvC scope cl C env)); pure (ForInStep.yield ok) else pure (ForInStep.yield r))
          (fun ok s₄ => ok = p v ∧ Keeps s₃ s₄) E' s₃) ∧
      (∀ C v s₃ m₃ E', s₁.heap.objs.size ≤ C → v ∈ items → p v = true → s₃.heap.Ns C m₃ → m₃ x = some v → (∀ b o, s₁.heap.get? b = some o → s₃.heap.get? b = some o) →
        wpAny (model prog w) A (eval elt (compEnvC scope cl C env)) (fun y s₄ => F v y ∧ Keeps s₃ s₄) E' s₃) ∧
      (∀ D h' tk ys n, s₁.heap.get? D = none → h'.get? D = some (listOf (List.toArray ys) n) → Paired F (items.filter p) ys → (∀ b o, s₁.heap.get? b = some o → h'.get? b = some o) → Q (.ref D) { s₁ with heap := h', toks := tk })) E s)
    (hs : ∀ x, foldedSetIterable iter env x = pure x := by intro _; rfl) :
    wpAny (model prog w) A (eval (.ListComp elt [⟨.Name x px, iter, ifs, 0⟩] scope pos) env) Q E s := by
  refine wpAny_ListComp_free p F hclos hcell hkind hnames hx (wpAny_mono h (fun xv s₁ h₁ => ?_) fun _ _ e => e) hs
  obtain ⟨a, items, rfl, ha, hsz, ht, he, hk⟩ := h₁
  refine pyIter_seq hh ha fun I h' St W st0 hI hb keep hIe => ?_
  have notI : ∀ b o, s₁.heap.get? b = some o → b ∉ [I] := fun b o e q => by rw [List.mem_singleton.mp q, hI] at e; cases e
  have hsz' : s₁.heap.objs.size ≤ h'.objs.size := by
    have := hb I (by simp)
    rw [hIe] at this
    exact Nat.le_of_lt this
  refine ⟨I, _, _, _, _, St, rfl, W, (by rw [List.size_toArray]; exact hsz), st0, hb, ⟨?_, ?_⟩, ?_⟩
  · intro C i v s₃ m₃ E' hC hP hn hm hk₃ _
    exact ht C v s₃ m₃ E' (Nat.le_trans hsz' hC) (List.mem_of_getElem? (by simpa using hP)) hn hm fun b o e => hk₃ b o (notI b o e) (keep b o e)
  · intro C i v s₃ m₃ E' hC hP hp hn hm hk₃ _
    exact he C v s₃ m₃ E' (Nat.le_trans hsz' hC) (List.mem_of_getElem? (by simpa using hP)) hp hn hm fun b o e => hk₃ b o (notI b o e) (keep b o e)
  · intro D h'' tk ys vs hD hl hpl hlen hP hF hk₃
    obtain ⟨n, hn⟩ := hpl
    have hvs : vs = items := by
      have := list_of_places (items := items.toArray) hlen hP
      simpa using this
    subst hvs
    have hD' : s₁.heap.get? D = none := by
      cases q : s₁.heap.get? D with
      | none => rfl
      | some o => rw [keep _ _ q] at hD; cases hD
    exact hk D h'' tk ys.toList n hD' (by simpa using hn) hF fun b o e => hk₃ b o (notI b o e) (keep b o e)

/-- which items a comprehension takes, and what it makes of them: said to the walk -/
structure LcMark (p : Value → Bool) (F : Value → Value → Prop) : Prop where
/-- what is asked of the sequence that a comprehension walks (a name, so that the walk stops there) -/
def LcSrc (prog : Program) (w : World) (A : Around) (env : Env) (elt : Expr) (x : PySem.Str) (ifs : List Expr) (scope : Scope) (cl : List (PySem.Str × Addr)) (p : Value → Bool) (F : Value → Value → Prop) (Q : Value → Shared → Prop) (xv : Value) (s₁ : Shared) : Prop :=
  ∃ a items, xv = .ref a ∧ SeqAt s₁.heap a items ∧ items.length ≤ sizeLine ∧
      (∀ C v s₃ m₃ E', s₁.heap.objs.size ≤ C → v ∈ items → s₃.heap.Ns C m₃ → m₃ x = some v → (∀ b o, s₁.heap.get? b = some o → s₃.heap.get? b = some o) →
        wpAny (model prog w) A (forIn ifs true fun c r => if r = true then do let ok ← isTrue c (compEnvC scope cl C env) (eval c (compEnvC scope cl C env)); pure (ForInStep.yield ok) else pure (ForInStep.yield r))
          (fun ok s₄ => ok = p v ∧ Keeps s₃ s₄) E' s₃) ∧
      (∀ C v s₃ m₃ E', s₁.heap.objs.size ≤ C → v ∈ items → p v = true → s₃.heap.Ns C m₃ → m₃ x = some v → (∀ b o, s₁.heap.get? b = some o → s₃.heap.get? b = some o) →
        wpAny (model prog w) A (eval elt (compEnvC scope cl C env)) (fun y s₄ => F v y ∧ Keeps s₃ s₄) E' s₃) ∧
      (∀ D h' tk ys n, s₁.heap.get? D = none → h'.get? D = some (listOf (List.toArray ys) n) → Paired F (items.filter p) ys → (∀ b o, s₁.heap.get? b = some o → h'.get? b = some o) → Q (.ref D) { s₁ with heap := h', toks := tk })
theorem lc_seqM {elt iter : Expr} {x : PySem.Str} {px : Pos} {ifs : List Expr} {scope : Scope} {cl : List (PySem.Str × Addr)} {pos : Pos} {Q : Value → Shared → Prop} {p : Value → Bool} {F : Value → Value → Prop} (_ : LcMark p F)
    (hh : A.handled = none) (hclos : closureFor scope env = pure cl) (hcell : ∀ y ∈ scope.names, y.2 ≠ .cell) (hkind : scope.kind = .function)
    (hnames : ∀ y ∈ scope.names, y.2 = .local → scope.names.lookup y.1 = some .local) (hx : scope.names.lookup x = some .local)
    (hs : ∀ x, foldedSetIterable iter env x = pure x)
    (h : wpAny (model prog w) A (eval iter env) (LcSrc prog w A env elt x ifs scope cl p F Q) E s) :
    wpAny (model prog w) A (eval (.ListComp elt [⟨.Name x px, iter, ifs, 0⟩] scope pos) env) Q E s := lc_seq p F hh hclos hcell hkind hnames hx h hs
theorem lc_src {elt : Expr} {x : PySem.Str} {ifs : List Expr} {scope : Scope} {cl : List (PySem.Str × Addr)} {Q : Value → Shared → Prop} {p : Value → Bool} {F : Value → Value → Prop} {a : Addr} {items : List Value} {h₀ : Heap} {L : Addr} {m : PySem.Str → Option Value} {news : Led} {s₁ : Shared}
    (Fr1 : Fr h₀ L s₁.heap m) (N1 : News h₀ L s₁.heap news) (ha : SeqAt s₁.heap a items) (hsz : items.length ≤ sizeLine)
    (ht : ∀ C v s₃ m₃ E', v ∈ items → Fr s₁.heap C s₃.heap m₃ → News s₁.heap C s₃.heap [] → m₃ x = some v →
        wpAny (model prog w) A (forIn ifs true fun c r => if r = true then do let ok ← isTrue c (compEnvC scope cl C env) (eval c (compEnvC scope cl C env)); pure (ForInStep.yield ok) else pure (ForInStep.yield r))
          (fun ok s₄ => ok = p v ∧ Keeps s₃ s₄) E' s₃)
    (he : ∀ C v s₃ m₃ E', v ∈ items → p v = true → Fr s₁.heap C s₃.heap m₃ → News s₁.heap C s₃.heap [] → m₃ x = some v →
        wpAny (model prog w) A (eval elt (compEnvC scope cl C env)) (fun y s₄ => F v y ∧ Keeps s₃ s₄) E' s₃)
    (hk : ∀ D h' tk ys n, Fr h₀ L h' m → News h₀ L h' ((D, listOf (List.toArray ys) n) :: news) → (∀ p ∈ news, p.1 < D ∨ p.1 ≠ D) → Paired F (items.filter p) ys → Q (.ref D) { s₁ with heap := h', toks := tk }) :
    LcSrc prog w A env elt x ifs scope cl p F Q (.ref a) s₁ := by
  refine ⟨a, items, rfl, ha, hsz, fun C v s₃ m₃ E' hC hv hn hm k => ht C v s₃ m₃ E' hv ⟨hn, k, hC⟩ News.nil hm, fun C v s₃ m₃ E' hC hv hp hn hm k => he C v s₃ m₃ E' hv hp ⟨hn, k, hC⟩ News.nil hm, fun D h' tk ys n hD hy hF keep => ?_⟩
  refine hk D h' tk ys n (Fr1.keeps keep) ?_ (fun p hp => .inr fun e => by have := (N1 p hp).1; rw [e, hD] at this; cases this) hF
  intro q hq
  rcases List.mem_cons.mp hq with rfl | hq
  · refine ⟨hy, fun e => ?_, ?_⟩
    · obtain ⟨oL, _, _, hL, _⟩ := Fr1.ns
      have e' : D = L := e
      rw [e', hL] at hD; cases hD
    · cases q : h₀.get? D with
      | none => rfl
      | some o => have := Fr1.keep _ _ q; rw [hD] at this; cases this
  · exact ⟨keep _ _ (N1 q hq).1, (N1 q hq).2⟩

theorem name_any {M : Model} {h₀ : Heap} {m : PySem.Str → Option Value} {x : PySem.Str} {pos : Pos} {v : Value} {Q : Value → Shared → Prop} (F : Fr h₀ env.locals s.heap m) (hv : m x = some v) (h : Q v s)
    (hk : env.scope.kind = .function) (hl : env.kindOf x = some .local) (hd : (x == ("__debug__" : PySem.Str)) = false) : wpAny M A (eval (.Name x pos) env) Q E s := wpAny_Name (wpAny_loadName_local hk hl F.ns hv h) hd
theorem paired_id : ∀ {l ys : List Value}, Paired (fun v y => y = v) l ys → ys = l
  | _, _, .nil => rfl
  | _, _, .cons h r => by rw [h, paired_id r]

/-- the last two of five -/
theorem slice35 {value : Expr} {pl pu : Option Expr} {sp : Pos} {t : Addr} {x0 x1 x2 x3 x4 : Value} {u u' : Tok} {h₀ : Heap} {L : Addr} {m : PySem.Str → Option Value} {news : Led} {Q : Value → Shared → Prop}
    (F : Fr h₀ L s.heap m) (N : News h₀ L s.heap news) (ht : IsTup s.heap t [x0, x1, x2, x3, x4].toArray)
    (h : ∀ D h', Fr h₀ L h' m → News h₀ L h' ((D, tupO [x3, x4] 0) :: news) → (∀ p ∈ news, p.1 < D) → Q (.ref D) { s with heap := h' })
    (hs : subscripted (.Slice pl pu none sp) false (.ref t) (.ref s.heap.objs.size) = operate [.ref s.heap.objs.size, .ref t] (getItem (.ref t) (.ref s.heap.objs.size)) := by with_unfolding_all rfl)
    (hg : ∀ r, letTemporaryGo value (.ref t) r = pure () := by intro _; with_unfolding_all rfl) :
    wpAny (model prog w) A (subscriptTail value (.Slice pl pu none sp) (.ref t) (.ref s.heap.objs.size)) Q E { s with heap := s.heap.push { cls := .type "slice", data := .fields #[.int 3 u, .int 5 u', .none] } } := by
  have ht' : IsTup (s.heap.push { cls := .type "slice", data := .fields #[.int 3 u, .int 5 u', .none] }) t [x0, x1, x2, x3, x4].toArray := ht.keeps fun _ _ e => Heap.get?_push_of_some _ e
  have hsl : (s.heap.push { cls := .type "slice", data := .fields #[.int 3 u, .int 5 u', .none] }).IsSliceOf s.heap.objs.size (.int 3 u) (.int 5 u') .none := Heap.IsSliceOf.new ..
  refine subscriptTail_ops (s := { s with heap := s.heap.push { cls := .type "slice", data := .fields #[.int 3 u, .int 5 u', .none] } }) ht'.typeIs slot_tuple_getitem.lookup ?_ hs hg
  have N1 := News.push (F.push { cls := .type "slice", data := .fields #[.int 3 u, .int 5 u', .none] }) (N.grown fun _ _ e => Heap.get?_push_of_some _ e) (tupO [x3, x4] 0)
  have fin := h _ _ ((F.push { cls := .type "slice", data := .fields #[.int 3 u, .int 5 u', .none] }).push (tupO [x3, x4] 0)) N1 (fun p hp => by rw [Heap.size_push]; exact Nat.lt_succ_of_lt (Heap.lt_size (N p hp).1))
  generalize hH : s.heap.push { cls := .type "slice", data := .fields #[.int 3 u, .int 5 u', .none] } = H at ht' hsl fin ⊢
  obtain ⟨os, hos, hcs, hds⟩ := id hsl
  have hTs : ({ s with heap := H } : Shared).TypeIs (.ref s.heap.objs.size) "slice" := ⟨os, hos, hcs⟩
  unfold getItem
  try with_reducible refine wpAny_holding ?_
  first | refine wpAny_bind (wpAny_pure ?_) | skip
  refine wpAny_bind (wpAny_sequenceKey (s := { s with heap := H }) ht'.typeIs (by decide) ?_)
  refine wpAny_bind (wpAny_callSpecial?_slot (s := { s with heap := H }) (name := PySem.Str.ofString "__getitem__") ht'.typeIs slot_tuple_getitem
    (wpAny_call_entry (s := { s with heap := H }) slot_tuple_getitem ht'.typeIs entry_tuple_getitem ?_ (args_tuple_getitem _ _)))
  show wpAny _ _ (Builtin.Tuple.tupleItemsOf (.ref t) >>= _) _ _ { s with heap := H }
  refine wpAny_bind (tupleItemsOf_ (s := { s with heap := H }) ht' ?_)
  refine wpAny_bind (wpAny_typeOf hTs ?_)
  rw [if_pos (by decide)]
  have app : ∀ {Q : Int × Int × Nat → Shared → Prop} {A E}, Q ((3 : Int), 1, 2) { s with heap := H } → wpAny (model prog w) A (Builtin.Slice.sliceApplied (.ref s.heap.objs.size) (pure (([x0, x1, x2, x3, x4].toArray.size : Nat) : Int))) Q E { s with heap := H } := by
    intro Q A E h
    unfold Builtin.Slice.sliceApplied Builtin.Slice.sliceFields
    refine wpAny_bind (wpAny_bind (wpAny_field hos hds (x := .int 3 u) rfl (wpAny_bind (wpAny_field hos hds (x := .int 5 u') rfl (wpAny_bind (wpAny_field hos hds (x := .none) rfl (wpAny_pure ?_)))))))
    refine wpAny_bind (slicePart_none ?_)
    show wpAny _ _ (if ((1 : Int) == 0) = true then _ else _) _ _ _
    rw [if_neg (by decide)]
    exact wpAny_bind (slicePart_int (wpAny_bind (slicePart_int (wpAny_bind (wpAny_pure (wpAny_pure h))))))
  refine wpAny_bind (app ?_)
  show wpAny _ _ (if ((3 : Int) == 0 && (1 : Int) == 1 && 2 == [x0, x1, x2, x3, x4].toArray.size) = true then _ else _) _ _ _
  rw [if_neg (by simp)]
  have hdrop : sizeOk (.seq [x3, x4].toArray) := by
    show 2 ≤ sizeLine
    rw [sizeLine_eq]; omega
  first
    | exact wpAny_bind (m := Builtin.Tuple.tupleExact _) (wpAny_newObj_type (wpAny_pure ⟨_, rfl, wpAny_pure fin⟩) hdrop)
    | exact wpAny_bind (m := Builtin.Tuple.tupleExact _) (wpAny_newObj_type (wpAny_bind (wpAny_pure (wpAny_pure ⟨_, rfl, wpAny_pure fin⟩))) hdrop)
    | exact wpAny_bind (wpAny_bind (m := Builtin.Tuple.tupleExact _) (wpAny_newObj_type (wpAny_pure (wpAny_pure ⟨_, rfl, wpAny_pure fin⟩)) hdrop))
    | exact wpAny_bind (wpAny_bind (m := Builtin.Tuple.tupleExact _) (wpAny_newObj_type (wpAny_pure ⟨_, rfl, wpAny_pure fin⟩) hdrop))
end
end Mine

/-! part B9 -/
namespace Mine
open _root_.PySem _root_.PySem.W _root_.PySem.Calls _root_.PyProof.Rows
example : True := by w_top off; trivial

local macro_rules | `(tactic| k_ne) => `(tactic| (refine neN ?_; (try dsimp only); first | with_reducible assumption | exact Ne.symm (by with_reducible assumption) | omega))

/-- the places of an item or of a parameter -/
inductive ShapeP (tl : Led) : List Value → List PySem.Str → List Value → Prop
  | of {xs : List Value} {own : List PySem.Str} {cs : List Value} : Shape tl xs own cs → ShapeP tl xs own cs
  | par {t t' t'' u : Tok} {kd nm : PySem.Str} : ShapeP tl [.str (PySem.Str.ofString "param") t, .int 1 t', .str kd t'', .bool false, .none, .str nm u, .none] [] []
def InnerSpec (w : World) (H : Heap) : Prop := ∀ (A : Around) (s : Shared) (R : Result → Shared → Prop) (tl : Led) (v : Value) (xs : List Value) (own : List PySem.Str) (cs : List Value),
  Room A 2 40 → H.StaysIn s.heap → LedAt s.heap tl → Tup tl v xs → ShapeP tl xs own cs → (∀ k ∈ cs, ∃ a, k = .ref a) → cs.length ≤ 1000000 →
  (∀ {h' tk' b n}, Ext [] s.heap h' → h'.get? b = some (tupO cs n) → R (.ok (.ret (.ref b))) { s with heap := h', toks := tk' }) →
  codeAny (model PySem.Challenge.pw_pq0447_01 w) A (.call (.ref 71) ⟨[v], []⟩) R s

theorem kid_cases {c : Value} {l : List Value} (h : ∀ k ∈ l.filter isKid, ∃ a, k = .ref a) (m : c ∈ l) : c = .none ∨ ∃ a, c = .ref a := by
  cases hk : isKid c with
  | true => exact .inr (h c (List.mem_filter.mpr ⟨m, hk⟩))
  | false => cases c <;> first | exact .inl rfl | cases hk

theorem pairs_left {α β : Type} {P : α → β → Prop} : ∀ {as : List α} {bs : List β}, Pairs P as bs → ∀ a ∈ as, ∃ b ∈ bs, P a b
  | _, _, .cons h r, a, m => by
    rcases List.mem_cons.mp m with rfl | m
    · exact ⟨_, .head _, h⟩
    · obtain ⟨b, hb, hp⟩ := pairs_left r a m
      exact ⟨b, .tail _ hb, hp⟩
theorem pairs_map {α β : Type} {P : α → β → Prop} {f : α → β} : ∀ {as : List α} {bs : List β}, Pairs P as bs → (∀ a b, P a b → f a = b) → as.map f = bs
  | _, _, .nil, _ => rfl
  | _, _, .cons h r, k => by rw [List.map_cons, k _ _ h, pairs_map r k]
def sndOf (h : Heap) : Value → Value
  | .ref a => match h.get? a with
    | some ⟨_, _, .seq xs _, _⟩ => xs.toList.getD 1 .none
    | _ => .none
  | _ => .none
theorem sndOf_eq {h : Heap} {a n : Nat} {x c : Value} (e : h.get? a = some (tupO [x, c] n)) : sndOf h (.ref a) = c := by
  unfold sndOf
  dsimp only
  rw [e]
  rfl
theorem keeps_refl {s : Shared} {tk : Nat} : Keeps s { s with toks := tk } := ⟨_, _, rfl, fun _ _ e => e⟩
set_option maxHeartbeats 8000000 in
theorem inner_spec {w : World} {lo : List PySem.Str} {mean : ExcName → Option Value} {mg mb : PySem.Str → Option Value} {H : Heap} (G : Root w lo mean mg mb H) : InnerSpec w H := by
  intro A s R tl v xs own cs hr st hled ht hsh hkids hcl ret
  obtain ⟨handled, dp, fr, gd, un⟩ := A
  obtain rfl : handled = none := hr.handled
  have X := G.X
  have T := G.T
  obtain ⟨a, na, rfl, ha⟩ := tup_at hled ht
  refine' enterN (K := Mine.hd.heap_39 w.params) (binds := [(PySem.Str.ofString "item", .ref a)]) [] X T st ?N ?k6 ?k7 ?k8 ?k9 ?kB ?_ ?c2 ?c3 ?c4 ?c5
  case N => intro q hq; cases hq
  ((try (case k6 => k_is)); (try (case k7 => k_is)); (try (case k8 => (have := Room.depth (by assumption); dsimp only at this ⊢; omega))); (try (case k9 => exact BindsTo.of_eq rfl)); (try (case c5 => decide)); (try (case kB => exact locs rfl)); (try (case c2 => exact rfl)); (try (case c3 => exact rfl)); (try (case c4 => exact rfl)))
  intro g' L' h' hg st' F' N' X' T'
  have hg' : g' = s.heap := hg
  have haT : IsTup g' a xs.toArray := hg' ▸ isTup_of ha
  have ret' : ∀ {h' tk' b n}, (∀ b o, g'.get? b = some o → h'.get? b = some o) → h'.get? b = some (tupO cs n) → R (.ok (.ret (.ref b))) { s with heap := h', toks := tk' } := fun k e => ret (fun b o _ q => k b o (hg' ▸ q)) e
  clear ret
  (try dsimp only)
  (try k_fold)
  rcases hsh with hsh | _
  case par => k_steps; exact ret' (Fr.keep (by assumption)) (News.get (by k_asm) (by k_mem))
  cases hsh with
  | cas => k_steps; exact ret' (Fr.keep (by assumption)) (News.get (by k_asm) (by k_mem))
  | inst => k_steps; exact ret' (Fr.keep (by assumption)) (News.get (by k_asm) (by k_mem))
  | gfor => k_steps; exact ret' (Fr.keep (by assumption)) (News.get (by k_asm) (by k_mem))
  | blk hb =>
    obtain ⟨ab, nb, rfl, hgb⟩ := tup_at hled hb
    k_steps
    exact ret' (Fr.keep (by assumption)) (Fr.keep (by assumption) _ _ (hg' ▸ hgb))
  | @gcase t t' x b rows cs hb hrl hrows =>
    obtain ⟨ab, nb, rfl, hgb⟩ := tup_at hled hb
    have hgb' : IsTup g' ab rows.toArray := hg' ▸ isTup_of hgb
    have hrow : ∀ v ∈ rows, ∃ br nr c, v = .ref br ∧ g'.get? br = some (tupO [.none, c] nr) ∧ (c = .none ∨ ∃ a, c = .ref a) := by
      intro v hv
      obtain ⟨c, hc, ht⟩ := pairs_left hrows v hv
      obtain ⟨br, nr, e, h⟩ := tup_at hled ht
      exact ⟨br, nr, c, e, hg' ▸ h, kid_cases hkids hc⟩
    have hsnd : rows.map (sndOf g') = cs := pairs_map hrows fun v c ht => by
      obtain ⟨br, nr, e, h⟩ := tup_at hled ht
      rw [e]; exact sndOf_eq (hg' ▸ h)
    have mkk : LcMark (fun v => isKid (sndOf g' v)) (fun v y => y = sndOf g' v) := ⟨⟩
    (repeat' (first | ((with_reducible show wpAny _ _ (eval (Expr.ListComp ..) _) _ _ _); (k_dflt (refine' lc_seqM ?zqmk ?zqhh ?zqhclos ?zqhcell ?zqhkind ?zqhnames ?zqhx ?zqhs ?_; (case zqmk => assumption); (case zqhh => exact rfl); (case zqhclos => exact closureFor_none (by decide)); (case zqhcell => decide); (case zqhkind => exact rfl); (case zqhnames => decide); (case zqhx => exact rfl); (case zqhs => exact fun _ => rfl); k_whole))) | ((with_reducible show wpAny _ _ (callWith _ (Value.type "tuple") ..) _ _ _); (with_unfolding_all refine Pv.callWith_type1 ?_)) | (k_unfold; (try dsimp only)) | (k_end; kc_close) | walk1 | (dsimp only; walk1) | (leave1; walk_say "STEP leave1"; (try dsimp only)) | fail "no step"))
    rename Fr _ _ _ _ => F1
    rename News _ _ _ _ => N1
    refine lc_src F1 N1 (items := rows) (.inr (hgb'.keeps F1.keep)) (by rw [sizeLine_eq]; omega) ?_ ?_ ?_
    · intro C v s₃ m₃ E' hv F3 N3 hm
      have X3 := X'.keeps (F1.keep)
      have T3 := T'.keeps (F1.keep)
      refine wpAny_tests_one ?_
      obtain ⟨br, nr, c, rfl, hbr, hc⟩ := hrow v hv
      have e := sndOf_eq hbr
      have hbr3 := isTup_of (F1.keep _ _ hbr)
      (try dsimp only)
      rw [e]
      clear F1 N1
      rcases hc with rfl | ⟨b, rfl⟩
      · (repeat' (first | ((with_reducible show wpAny _ _ (eval (Expr.Name ..) _) _ _ _); (k_dflt (refine' name_any ?zqF ?zqv ?_ ?zqa ?zqb ?zqc; (case zqF => k_asm); (case zqa => exact rfl); (case zqb => exact rfl); (case zqv => with_reducible assumption); (case zqc => decide); k_whole))) | (k_unfold; (try dsimp only)) | (k_end; kc_close) | walk1 | (dsimp only; walk1) | (leave1; walk_say "STEP leave1"; (try dsimp only)) | fail "no step"))
        exact keeps_refl
      · (repeat' (first | ((with_reducible show wpAny _ _ (eval (Expr.Name ..) _) _ _ _); (k_dflt (refine' name_any ?zqF ?zqv ?_ ?zqa ?zqb ?zqc; (case zqF => k_asm); (case zqa => exact rfl); (case zqb => exact rfl); (case zqv => with_reducible assumption); (case zqc => decide); k_whole))) | (k_unfold; (try dsimp only)) | (k_end; kc_close) | walk1 | (dsimp only; walk1) | (leave1; walk_say "STEP leave1"; (try dsimp only)) | fail "no step"))
        exact keeps_refl
    · intro C v s₃ m₃ E' hv hp F3 N3 hm
      obtain ⟨br, nr, c, rfl, hbr, hc⟩ := hrow v hv
      have e := sndOf_eq hbr
      have hbr3 := isTup_of (F1.keep _ _ hbr)
      (try dsimp only)
      rw [e]
      clear F1 N1
      (repeat' (first | ((with_reducible show wpAny _ _ (eval (Expr.Name ..) _) _ _ _); (k_dflt (refine' name_any ?zqF ?zqv ?_ ?zqa ?zqb ?zqc; (case zqF => k_asm); (case zqa => exact rfl); (case zqb => exact rfl); (case zqv => with_reducible assumption); (case zqc => decide); k_whole))) | (k_unfold; (try dsimp only)) | (k_end; kc_close) | walk1 | (dsimp only; walk1) | (leave1; walk_say "STEP leave1"; (try dsimp only)) | fail "no step"))
      exact keeps_refl
    · intro D h'' tk ys n F4 N4 hne hF
      clear F1 N1
      obtain rfl := paired_map hF
      have e : (rows.filter fun v => isKid (sndOf g' v)).map (sndOf g') = cs.filter isKid := by rw [← hsnd, List.filter_map]; rfl
      rw [e] at N4
      k_steps
      exact ret' (Fr.keep (by assumption)) (News.get (by k_asm) (by k_mem))
  | @gif t t' x c c' =>
    have hcc : ∀ v ∈ [c, c'], v = .none ∨ ∃ a, v = .ref a := fun v hv => kid_cases hkids hv
    have mkk : LcMark isKid (fun v y => y = v) := ⟨⟩
    (repeat' (first | ((with_reducible show wpAny _ _ (eval (Expr.ListComp ..) _) _ _ _); (k_dflt (refine' lc_seqM ?zqmk ?zqhh ?zqhclos ?zqhcell ?zqhkind ?zqhnames ?zqhx ?zqhs ?_; (case zqmk => assumption); (case zqhh => exact rfl); (case zqhclos => exact closureFor_none (by decide)); (case zqhcell => decide); (case zqhkind => exact rfl); (case zqhnames => decide); (case zqhx => exact rfl); (case zqhs => exact fun _ => rfl); k_whole))) | ((with_reducible show wpAny _ _ (subscriptTail (Expr.Name ..) (Expr.Slice ..) (Value.ref _) (Value.ref _)) _ _ _); (k_dflt (refine' slice35 ?zqF ?zqN ?zqt ?_; (case zqF => k_asm); (case zqN => k_asm); (case zqt => exact IsTup.keeps (by assumption) (Fr.keep (by k_asm))); k_whole); intro zD zh zF zN zl1; (try k_lt zl1); (try k_sweep))) | ((with_reducible show wpAny _ _ (callWith _ (Value.type "tuple") ..) _ _ _); (with_unfolding_all refine Pv.callWith_type1 ?_)) | (k_unfold; (try dsimp only)) | (k_end; kc_close) | walk1 | (dsimp only; walk1) | (leave1; walk_say "STEP leave1"; (try dsimp only)) | fail "no step"))
    rename Fr _ _ _ _ => F1
    rename News _ _ _ _ => N1
    refine lc_src F1 N1 (items := [c, c']) (.inr (News.isTup N1 (.head _))) (by rw [sizeLine_eq]; exact Nat.le_of_ble_eq_true rfl) ?_ ?_ ?_
    · intro C v s₃ m₃ E' hv F3 N3 hm
      have X3 := X'.keeps (F1.keep)
      have T3 := T'.keeps (F1.keep)
      refine wpAny_tests_one ?_
      clear F1 N1
      rcases hcc v hv with rfl | ⟨b, rfl⟩
      · (repeat' (first | ((with_reducible show wpAny _ _ (eval (Expr.Name ..) _) _ _ _); (k_dflt (refine' name_any ?zqF ?zqv ?_ ?zqa ?zqb ?zqc; (case zqF => k_asm); (case zqa => exact rfl); (case zqb => exact rfl); (case zqv => with_reducible assumption); (case zqc => decide); k_whole))) | (k_unfold; (try dsimp only)) | (k_end; kc_close) | walk1 | (dsimp only; walk1) | (leave1; walk_say "STEP leave1"; (try dsimp only)) | fail "no step"))
        exact keeps_refl
      · (repeat' (first | ((with_reducible show wpAny _ _ (eval (Expr.Name ..) _) _ _ _); (k_dflt (refine' name_any ?zqF ?zqv ?_ ?zqa ?zqb ?zqc; (case zqF => k_asm); (case zqa => exact rfl); (case zqb => exact rfl); (case zqv => with_reducible assumption); (case zqc => decide); k_whole))) | (k_unfold; (try dsimp only)) | (k_end; kc_close) | walk1 | (dsimp only; walk1) | (leave1; walk_say "STEP leave1"; (try dsimp only)) | fail "no step"))
        exact keeps_refl
    · intro C v s₃ m₃ E' hv hp F3 N3 hm
      (repeat' (first | ((with_reducible show wpAny _ _ (eval (Expr.Name ..) _) _ _ _); (k_dflt (refine' name_any ?zqF ?zqv ?_ ?zqa ?zqb ?zqc; (case zqF => k_asm); (case zqa => exact rfl); (case zqb => exact rfl); (case zqv => with_reducible assumption); (case zqc => decide); k_whole))) | (k_unfold; (try dsimp only)) | (k_end; kc_close) | walk1 | (dsimp only; walk1) | (leave1; walk_say "STEP leave1"; (try dsimp only)) | fail "no step"))
      exact keeps_refl
    · intro D h'' tk ys n F4 N4 hne hF
      clear F1 N1
      obtain rfl := paired_id hF
      k_steps
      exact ret' (Fr.keep (by assumption)) (News.get (by k_asm) (by k_mem))
end Mine

/-! part B10a -/
namespace Mine
open _root_.PySem _root_.PySem.W _root_.PySem.Calls _root_.PyProof.Rows
example : True := by w_top off; trivial

section
variable {prog : Program} {w : World} {A : Around} {E : Value → Shared → Prop} {s : Shared} {h₀ : Heap} {L d D : Addr} {m : PySem.Str → Option Value} {news news' : Led} {g : Obj → Led}

theorem set_str {od : Obj} {kvs : List (PySem.Str × Value)} {k : PySem.Str} {t : Tok} {v : Value} {Q : Unit → Shared → Prop} (F : Fr h₀ L s.heap m) (N : News h₀ L s.heap news) (U : UpdF d od news g) (hd : od.IsDictOf (PySem.strKind prog w) kvs) (hsz : kvs.length ≤ sizeLine)
    (h : ∀ h' o', Fr h₀ L h' m → News h₀ L h' (g o') → o'.IsDictOf (PySem.strKind prog w) (stored kvs k v) → Q () { s with heap := h', toks := s.toks + 1 }) :
    wpAny (model prog w) A (setItem (.ref d) (.str k t) v) Q E s := by
  obtain ⟨pre, post, rfl, hg, a, b⟩ := U.split
  have z := N (d, od) (by simp)
  refine wpAny_setItem_pairs (knd := PySem.strKind prog w) (hsz := hsz) (strKind_is prog w k t) (Heap.dictOf_iff.mpr ⟨od, z.1, hd⟩) fun h' hd' hs => ?_
  obtain ⟨o', ho', hd''⟩ := Heap.dictOf_iff.mp hd'
  refine h h' o' (F.change hs z.2.1 z.2.2) ?_ hd''
  rw [hg]
  exact news_set N a b hs ho'

theorem dict_list {od : Obj} {kvs : List (PySem.Str × Value)} {Q : Value → Shared → Prop} (hh : A.handled = none) (F : Fr h₀ L s.heap m) (N : News h₀ L s.heap news) (hm : (d, od) ∈ news) (hd : od.IsDictOf (PySem.strKind prog w) kvs) (lo : (d == sysModules) = false) (hn : kvs.length ≤ sizeLine)
    (h : ∀ (B : Addr) (n : Nat) h' tk vs, Fr h₀ L h' m → News h₀ L h' ((B, listOf (List.toArray vs) n) :: news) → (∀ q ∈ news, q.1 < B) → StrsAre vs (kvs.map (·.1)) → Q (.ref B) { s with heap := h', toks := tk }) :
    wpAny (model prog w) A (call (.type "list") [.ref d]) Q E s := by
  have hD : s.heap.DictOf (PySem.strKind prog w) d kvs := Heap.dictOf_iff.mpr ⟨od, (N _ hm).1, hd⟩
  obtain ⟨ep, hat⟩ := hD.dictAt
  refine kdl_N (kdl_dict (knd := PySem.strKind prog w) (kvs := kvs) (ep := ep) lo) hh F N hat hn fun B n h' tk vs F' N' l1 hl hv => ?_
  refine h B n h' tk vs F' N' l1 (kdy_strs (by rw [hl, List.length_map]) fun j v hvj => ?_)
  obtain ⟨k, x, hx, hk⟩ := hv j v hvj
  obtain ⟨t, rfl⟩ := Value.isStrOf_shape hk
  exact ⟨k, by rw [List.getElem?_map, hx]; rfl, t, rfl⟩

theorem pop_last {p : List Value} {y : Value} {n : Nat} {Q : Value → Shared → Prop} (F : Fr h₀ L s.heap m) (N : News h₀ L s.heap news) (U : Upd D (listOf (p ++ [y]).toArray n) (listOf p.toArray (n + 1)) news news')
    (hz : p.length + 1 ≤ sizeLine) (h : ∀ h', Fr h₀ L h' m → News h₀ L h' news' → Q y { s with heap := h' }) : wpAny (model prog w) A (call (.builtin "list.pop") [.ref D]) Q E s := by
  have e : ∀ p : List Value, kl_last (p ++ [y]) = some (p, y) := by
    intro p
    induction p with
    | nil => rfl
    | cons x r ih => show (match kl_last (r ++ [y]) with | some (p, z) => some (x :: p, z) | none => some ([], x)) = _; rw [ih]
  exact kl_pop F N (e p) U (by simpa using hz) h

theorem item0 {value slice : Expr} {t : Addr} {x : Value} {rest : List Value} {u : Tok} {Q : Value → Shared → Prop} (ht : IsTup s.heap t (x :: rest).toArray) (hl : rest.length ≤ 1000) (h : Q x s)
    (hs : subscripted slice false (.ref t) (.int 0 u) = operate [.ref t, .int 0 u] (getItem (.ref t) (.int 0 u)) := by with_unfolding_all rfl) :
    wpAny (model prog w) A (subscriptTail value slice (.ref t) (.int 0 u)) Q E s :=
  item_tupleT ht (by decide) (by decide) (j := 0) (by unfold seqIndex?; simp [List.length_cons]) rfl h hs
theorem len_snoc {p : List Value} {y : Value} {n : Nat} {Q : Value → Shared → Prop} (N : News h₀ L s.heap news) (hm : (D, listOf (p ++ [y]).toArray n) ∈ news) (hz : p.length + 1 ≤ 1000000)
    (h : Q (.int ((p.length : Int) + 1) (s.toks + 1)) { s with toks := s.toks + 1 + 1 }) : wpAny (model prog w) A (call (.builtin "len") [.ref D]) Q E s := by
  have e : (((p ++ [y]).toArray.size : Nat) : Int) = (p.length : Int) + 1 := by simp
  refine call_len_list (News.isList N hm) (by rw [e]; omega) ?_
  rw [e]; exact h
theorem extend_tup {p cs : List Value} {n n2 : Nat} {b : Addr} {Q : Value → Shared → Prop} (F : Fr h₀ L s.heap m) (N : News h₀ L s.heap news) (hb : s.heap.get? b = some (tupO cs n2)) (U : UpdF D (listOf p.toArray n) news g)
    (hz : p.length + cs.length ≤ 1000000) (h : ∀ h' n', Fr h₀ L h' m → News h₀ L h' (g (listOf (p ++ cs).toArray n')) → Q .none { s with heap := h' }) : wpAny (model prog w) A (call (.builtin "list.extend") [.ref D, .ref b]) Q E s := by
  obtain ⟨pre, post, rfl, hg, a, c⟩ := U.split
  have z := N (D, listOf p.toArray n) (by simp)
  have hd : ¬(!p.toArray.isEmpty && Builtin.List.listTooLong (p.toArray.size + cs.toArray.size)) = true := extend_door (by rw [sizeLine_eq]; simp only [List.size_toArray]; omega)
  refine call_meets PySem.F.slot_list_extend ⟨_, z.1, rfl⟩ PySem.F.entry_list_extend (PySem.F.args_list_extend_2 _ _) (PySem.AutoSeq1.list_extend_list_tuple_0 D p.toArray n b cs.toArray n2 hd (by rw [sizeLine_eq]; simp only [List.size_toArray]; omega) (by rw [sizeLine_eq]; simp only [List.size_toArray]; omega)) ⟨z.1, hb, ?_⟩
  have q := PySem.IsL.update z.1 (fun x => x ++ cs.toArray)
  have e : p.toArray ++ cs.toArray = (p ++ cs).toArray := by simp
  rw [e] at q
  refine h _ (if (p ++ cs).toArray.size == p.toArray.size then n else n + 1) (F.change (Heap.SameBut.update ..) z.2.1 z.2.2) ?_
  rw [hg]
  exact news_set N a c (Heap.SameBut.update ..) q

theorem inner_call {H : Heap} {tl : Led} {v : Value} {xs cs : List Value} {own : List PySem.Str} {Q : Value → Shared → Prop} (IS : InnerSpec w H) (R : Room A 2 40) (F : Fr h₀ L s.heap m) (N : News h₀ L s.heap news) (st : H.StaysIn h₀) (hled : LedAt h₀ tl)
    (ht : Tup tl v xs) (hsh : ShapeP tl xs own cs) (hk : ∀ k ∈ cs, ∃ a, k = .ref a) (hl : cs.length ≤ 1000000)
    (k : ∀ h' tk' b n, Fr h₀ L h' m → News h₀ L h' news → h'.get? b = some (tupO cs n) → Q (.ref b) { s with heap := h', toks := tk' }) :
    wpAny (model PySem.Challenge.pw_pq0447_01 w) A (call (.ref 71) [v]) Q E s := by
  refine wpAny_call (IS A s _ tl v xs own cs R (fun b o e => F.keep b o (st b o e)) (fun p hp => F.keep _ _ (hled p hp)) ht hsh hk hl @fun h' tk' b n x e => ?_)
  exact k h' tk' b n (F.keeps fun b o e => x b o (by simp) e) (N.grown fun b o e => x b o (by simp) e) e

def WhlEnd (I : Nat → Shared → Prop) (n : Nat) (Q : Flow → Shared → Prop) (f : Flow) (s' : Shared) : Prop :=
  match f with | .next => ∃ n', n' < n ∧ I n' s' | .cont => ∃ n', n' < n ∧ I n' s' | .brk => Q .next s' | .ret v => Q (.ret v) s'
def WhlHere (prog : Program) (w : World) (A : Around) (E : Value → Shared → Prop) (env : Env) (test : Expr) (body orelse : List Stmt) (Q : Flow → Shared → Prop) (s : Shared) : Prop := WhlRest prog w A E env test body orelse Q 0 s
theorem whl_here {env : Env} {test : Expr} {body orelse : List Stmt} {Q : Flow → Shared → Prop} {pos : Pos} (h : WhlHere prog w A E env test body orelse Q s) : wpAny (model prog w) A (exec (.While test body orelse pos) env) Q E s := whl_start 0 h
/-- a while by a measure: at each turn the state may be left for one of less measure -/
theorem whl_by {env : Env} {test : Expr} {body orelse : List Stmt} {Q : Flow → Shared → Prop} (I : Nat → Shared → Prop) (hE : PassesOwn (model prog w) A env E)
    (step : ∀ n s, I n s → wpAny (model prog w) A (isTrue test env (eval test env)) (fun b s₂ => WhlIf b
      (wpAny (model prog w) A (execs body env) (WhlEnd I n Q) E s₂)
      (wpAny (model prog w) A (execs orelse env) Q E s₂)) E s) {n : Nat} {s : Shared} (h : I n s) : WhlHere prog w A E env test body orelse Q s := by
  unfold WhlHere
  induction n using Nat.strongRecOn generalizing s with
  | ind n ih =>
    refine (show WhlRest prog w A E env test body orelse Q 1 s from whl_turn hE (wpAny_mono (step n s h) (fun b s₂ hb => ?_) fun _ _ e => e))
    unfold WhlIf at hb ⊢
    split
    · rename_i hbt
      rw [if_pos hbt] at hb
      refine wpAny_mono hb (fun f s' hf => ?_) fun _ _ e => e
      unfold WhlPost
      cases f with
      | next => obtain ⟨n', hn, hI⟩ := hf; exact ih n' hn hI
      | cont => obtain ⟨n', hn, hI⟩ := hf; exact ih n' hn hI
      | brk => exact hf
      | ret v => exact hf
    · rename_i hbt
      rw [if_neg hbt] at hb
      exact hb

theorem whl_ind {env : Env} {test : Expr} {body orelse : List Stmt} {Q : Flow → Shared → Prop} (I : Nat → Shared → Prop)
    (step : ∀ n s, I n s → (∀ n' s', n' < n → I n' s' → WhlRest prog w A E env test body orelse Q 0 s') → WhlRest prog w A E env test body orelse Q 1 s) {n : Nat} {s : Shared} (h : I n s) : WhlRest prog w A E env test body orelse Q 0 s := by
  induction n using Nat.strongRecOn generalizing s with
  | ind n ih => exact step n s h fun n' s' hn hI => ih n' hn hI
end

theorem stored_keys {kvs : List (PySem.Str × Value)} {k : PySem.Str} {v : Value} : ∀ x, x ∈ (stored kvs k v).map (·.1) ↔ x ∈ kvs.map (·.1) ∨ x = k := by
  intro x
  unfold stored
  split
  · rename_i h
    have e : (kvs.map fun kv => if kv.1 = k then (kv.1, v) else kv).map (·.1) = kvs.map (·.1) := by
      rw [List.map_map]
      apply List.map_congr_left
      intro a _
      show (if a.1 = k then (a.1, v) else a).1 = a.1
      split <;> rfl
    rw [e]
    refine ⟨.inl, fun h' => h'.elim id fun e' => ?_⟩
    obtain ⟨kv, hm, hk⟩ := List.any_eq_true.mp h
    rw [e', ← of_decide_eq_true hk]
    exact List.mem_map_of_mem hm
  · rw [List.map_append, List.mem_append]
    simp
theorem Item.pos {tl : Led} : ∀ {d : Nat} {v : Value} {p : List PySem.Str × Nat}, Item tl d v p → 1 ≤ p.2
  | 0, _, _, h => h.elim
  | _ + 1, _, _, ⟨_, _, _, _, _, _, _, _, e⟩ => by omega
theorem pairs_len {α β : Type} {P : α → β → Prop} : ∀ {as : List α} {bs : List β}, Pairs P as bs → as.length = bs.length
  | _, _, .nil => rfl
  | _, _, .cons _ r => by rw [List.length_cons, List.length_cons, pairs_len r]
/-- an item or a parameter -/
def ItemP (tl : Led) (v : Value) (p : List PySem.Str × Nat) : Prop := (∃ d, Item tl d v p) ∨ (∃ t t' t'' u kd nm, Tup tl v [.str (PySem.Str.ofString "param") t, .int 1 t', .str kd t'', .bool false, .none, .str nm u, .none] ∧ p = ([], 1))
theorem ItemP.view {tl : Led} {v : Value} {p : List PySem.Str × Nat} (h : ItemP tl v p) : ∃ xs own cs ps, Tup tl v xs ∧ ShapeP tl xs own cs ∧ Pairs (ItemP tl) cs ps ∧ p.1 = own ++ ps.flatMap (·.1) ∧ p.2 = 1 + (ps.map (·.2)).sum := by
  rcases h with ⟨d, h⟩ | ⟨t, t', t'', u, kd, nm, h, rfl⟩
  · cases d with
    | zero => exact h.elim
    | succ d =>
      obtain ⟨xs, own, cs, ps, a, b, c, e⟩ := h
      exact ⟨xs, own, cs, ps, a, .of b, c.mono fun _ _ x => .inl ⟨_, x⟩, e⟩
  · exact ⟨_, [], [], [], h, .par, .nil, rfl, rfl⟩
theorem ItemP.pos {tl : Led} {v : Value} {p : List PySem.Str × Nat} (h : ItemP tl v p) : 1 ≤ p.2 := by
  obtain ⟨_, _, _, _, _, _, _, _, e⟩ := h.view; omega
theorem items_len {tl : Led} : ∀ {vs : List Value} {ps : List (List PySem.Str × Nat)}, Pairs (ItemP tl) vs ps → vs.length ≤ (ps.map (·.2)).sum
  | _, _, .nil => Nat.zero_le _
  | _, _, .cons h r => by
    have := items_len r
    have := h.pos
    rw [List.length_cons, List.map_cons, List.sum_cons]; omega
theorem pairs_snoc {α β : Type} {P : α → β → Prop} : ∀ {as : List α} {a : α} {bs : List β}, Pairs P (as ++ [a]) bs → ∃ cs b, bs = cs ++ [b] ∧ Pairs P as cs ∧ P a b
  | [], _, _, .cons h .nil => ⟨[], _, rfl, .nil, h⟩
  | _ :: _, _, _, .cons h r => let ⟨cs, b, e, r', h'⟩ := pairs_snoc r; ⟨_ :: cs, b, by rw [e]; rfl, .cons h r', h'⟩
theorem item_ref {tl : Led} {v : Value} {p : List PySem.Str × Nat} (h : ItemP tl v p) : ∃ a, v = .ref a := by
  obtain ⟨_, _, _, _, ⟨a, _, e, _⟩, _⟩ := h.view; exact ⟨a, e⟩
end Mine

/-! part B10 -/
namespace Mine
open _root_.PySem _root_.PySem.W _root_.PySem.Calls _root_.PyProof.Rows
example : True := by w_top off; trivial

local macro_rules | `(tactic| k_ne) => `(tactic| (refine neN ?_; (try dsimp only); first | with_reducible assumption | exact Ne.symm (by with_reducible assumption) | omega))

def InstInv (w : World) (g : Heap) (L : Addr) (tl : Led) (d ast : Addr) (tot : List PySem.Str) (s₀ : Shared) (n : Nat) (s' : Shared) : Prop :=
  ∃ h' tk m od vs nst kvs ps, s' = { s₀ with heap := h', toks := tk } ∧ Fr g L h' m ∧ m (PySem.Str.ofString "found") = some (.ref d) ∧ m (PySem.Str.ofString "stack") = some (.ref ast) ∧ News g L h' [(ast, listOf (List.toArray vs) nst), (d, od)] ∧
    od.IsDictOf (PySem.strKind PySem.Challenge.pw_pq0447_01 w) kvs ∧ Pairs (ItemP tl) vs ps ∧ (∀ x, (x ∈ kvs.map (·.1) ∨ x ∈ ps.flatMap (·.1)) ↔ x ∈ tot) ∧ kvs.length + (ps.map (·.2)).sum ≤ 1000 ∧ n = (ps.map (·.2)).sum

theorem nil_or_snoc {α : Type} : ∀ l : List α, l = [] ∨ ∃ p y, l = p ++ [y]
  | [] => .inl rfl
  | x :: r => .inr (match nil_or_snoc r with
    | .inl e => ⟨[], x, by rw [e]; rfl⟩
    | .inr ⟨p, y, e⟩ => ⟨x :: p, y, by rw [e]; rfl⟩)
theorem shape_cases {tl : Led} {xs cs : List Value} {own : List PySem.Str} (h : ShapeP tl xs own cs) :
    (∃ t t' t'' u nm x y, xs = [.str (PySem.Str.ofString "inst") t, .int 5 t', .str nm t'', x, .str (PySem.Str.ofString "u") u, .none, y] ∧ own = [nm] ∧ cs = []) ∨
    (∃ tg t rest, xs = .str tg t :: rest ∧ rest.length ≤ 1000 ∧ (tg == PySem.Str.ofString "inst") = false ∧ own = []) := by
  rcases h with h | _
  case par => exact .inr ⟨_, _, _, rfl, Nat.le_of_ble_eq_true rfl, by decide, rfl⟩
  cases h with
  | inst => exact .inl ⟨_, _, _, _, _, _, _, rfl, rfl, rfl⟩
  | cas => exact .inr ⟨_, _, _, rfl, Nat.le_of_ble_eq_true rfl, by decide, rfl⟩
  | blk => exact .inr ⟨_, _, _, rfl, Nat.le_of_ble_eq_true rfl, by decide, rfl⟩
  | gfor => exact .inr ⟨_, _, _, rfl, Nat.le_of_ble_eq_true rfl, by decide, rfl⟩
  | gcase => exact .inr ⟨_, _, _, rfl, Nat.le_of_ble_eq_true rfl, by decide, rfl⟩
  | gif => exact .inr ⟨_, _, _, rfl, Nat.le_of_ble_eq_true rfl, by decide, rfl⟩

theorem tot_step {K K' own tot : List PySem.Str} {ps0 pk : List (List PySem.Str × Nat)} {py : List PySem.Str × Nat} (h : ∀ x, (x ∈ K ∨ x ∈ (ps0 ++ [py]).flatMap (·.1)) ↔ x ∈ tot) (e : py.1 = own ++ pk.flatMap (·.1)) (hK : ∀ x, x ∈ K' ↔ x ∈ K ∨ x ∈ own) :
    ∀ x, (x ∈ K' ∨ x ∈ (ps0 ++ pk).flatMap (·.1)) ↔ x ∈ tot := by
  intro x
  rw [← h, hK, List.flatMap_append, List.flatMap_append, List.flatMap_cons, List.flatMap_nil, List.append_nil, e]
  simp only [List.mem_append]
  constructor
  · rintro ((h | h) | h | h)
    · exact .inl h
    · exact .inr (.inr (.inl h))
    · exact .inr (.inl h)
    · exact .inr (.inr (.inr h))
  · rintro (h | h | h | h)
    · exact .inl (.inl h)
    · exact .inr (.inl h)
    · exact .inl (.inr h)
    · exact .inr (.inr h)
theorem inst_turn {w : World} {g h' : Heap} {L d ast : Addr} {tl : Led} {tot : List PySem.Str} {s₀ : Shared} {n tk : Nat} {Q : Flow → Shared → Prop} {m : PySem.Str → Option Value} {od : Obj} {vs : List Value} {nst : Nat} {kvs : List (PySem.Str × Value)} {ps : List (List PySem.Str × Nat)}
    (F : Fr g L h' m) (h1 : m (PySem.Str.ofString "found") = some (.ref d)) (h2 : m (PySem.Str.ofString "stack") = some (.ref ast)) (N : News g L h' [(ast, listOf (List.toArray vs) nst), (d, od)]) (hd : od.IsDictOf (PySem.strKind PySem.Challenge.pw_pq0447_01 w) kvs)
    (hp : Pairs (ItemP tl) vs ps) (ht : ∀ x, (x ∈ kvs.map (·.1) ∨ x ∈ ps.flatMap (·.1)) ↔ x ∈ tot) (hs : kvs.length + (ps.map (·.2)).sum ≤ 1000) (hn : (ps.map (·.2)).sum < n) :
    WhlEnd (InstInv w g L tl d ast tot s₀) n Q .next { s₀ with heap := h', toks := tk } :=
  ⟨_, hn, h', tk, m, od, vs, nst, kvs, ps, rfl, F, h1, h2, N, hd, hp, ht, hs, rfl⟩
def InstSpec (w : World) (H : Heap) : Prop := ∀ (A : Around) (s : Shared) (R : Result → Shared → Prop) (tl : Led) (v : Value) (vs : List Value) (ps : List (List PySem.Str × Nat)),
  Room A 6 80 → H.StaysIn s.heap → LedAt s.heap tl → Tup tl v vs → Pairs (ItemP tl) vs ps → (ps.map (·.2)).sum ≤ 1000 →
  (∀ {h' tk' r kv ks n}, Ext [] s.heap h' → s.heap.get? r = none → h'.get? r = some (listOf (List.toArray kv) n) → StrsAre kv ks → ks.Nodup → (∀ x, x ∈ ks ↔ x ∈ ps.flatMap (·.1)) → R (.ok (.ret (.ref r))) { s with heap := h', toks := tk' }) →
  codeAny (model PySem.Challenge.pw_pq0447_01 w) A (.call (.ref 78) ⟨[v], []⟩) R s

set_option maxHeartbeats 8000000 in
theorem inst_spec {w : World} {lo : List PySem.Str} {mean : ExcName → Option Value} {mg mb : PySem.Str → Option Value} {H : Heap} (G : Root w lo mean mg mb H) (IS : InnerSpec w H) : InstSpec w H := by
  intro A s R tl v vs ps hr st hled ht hps hsum ret
  obtain ⟨handled, dp, fr, gd, un⟩ := A
  obtain rfl : handled = none := hr.handled
  have X := G.X
  have T := G.T
  obtain ⟨a, na, rfl, ha⟩ := tup_at hled ht
  refine' enterN (K := Mine.hd.heap_39 w.params) (binds := [(PySem.Str.ofString "items", .ref a)]) [] X T st ?N ?k6 ?k7 ?k8 ?k9 ?kB ?_ ?c2 ?c3 ?c4 ?c5
  case N => intro q hq; cases hq
  ((try (case k6 => k_is)); (try (case k7 => k_is)); (try (case k8 => (have := Room.depth (by assumption); dsimp only at this ⊢; omega))); (try (case k9 => exact BindsTo.of_eq rfl)); (try (case c5 => decide)); (try (case kB => exact locs rfl)); (try (case c2 => exact rfl)); (try (case c3 => exact rfl)); (try (case c4 => exact rfl)))
  intro g' L' h' hg st' F' N' X' T'
  have hg' : g' = s.heap := hg
  have haT : IsTup g' a vs.toArray := hg' ▸ isTup_of ha
  have hledg : LedAt g' tl := hg' ▸ hled
  have hlen := items_len hps
  have hsz : vs.toArray.size ≤ sizeLine := by rw [sizeLine_eq, List.size_toArray]; omega
  have ret' : ∀ {h' tk' r kv ks n}, (∀ b o, g'.get? b = some o → h'.get? b = some o) → g'.get? r = none → h'.get? r = some (listOf (List.toArray kv) n) → StrsAre kv ks → ks.Nodup → (∀ x, x ∈ ks ↔ x ∈ ps.flatMap (·.1)) → R (.ok (.ret (.ref r))) { s with heap := h', toks := tk' } := fun k e => ret (fun b o _ q => k b o (hg' ▸ q)) (hg' ▸ e)
  clear ret
  (try dsimp only)
  (try k_fold)
  (repeat' (first | ((with_reducible show wpAny _ _ (exec (Stmt.While ..) _) _ _ _); (k_dflt (refine whl_here ?_))) | ((with_reducible show wpAny _ _ (callWith _ (Value.type "list") ..) _ _ _); (with_unfolding_all refine Pv.callWith_type1 ?_)) | (k_unfold; (try dsimp only)) | (k_end; kc_close) | walk1 | (dsimp only; walk1) | (leave1; walk_say "STEP leave1"; (try dsimp only)) | fail "no step"))
  rename Fr _ _ _ _ => F1
  rename News _ _ _ _ => N1
  rename PySem.Obj.IsDictOf (PySem.strKind _ _) _ _ => D1
  refine whl_by (InstInv w g' L' tl _ _ (ps.flatMap (·.1)) _) (by first | passes_own | with_unfolding_all passes_own) ?_ (n := (ps.map (·.2)).sum) ⟨_, _, _, _, vs, _, [], ps, rfl, F1, rfl, rfl, N1, D1, hps, (by simp), (by simpa using hsum), rfl⟩
  clear F1 N1 D1 hps hsum hlen hsz haT ha ht
  rintro n _ ⟨h2, tk, m, od, vs, nst, kvs, ps, rfl, F', hm1, hm2, N', hd, hps, htot, hsum, rfl⟩
  rcases nil_or_snoc vs with rfl | ⟨p, y, rfl⟩
  · cases hps
    obtain ⟨es, ep, _, _, _, _, nd⟩ := id hd
    (repeat' (first | ((with_reducible show wpAny _ _ (call (Value.type "list") _) _ _ _); (k_dflt (refine' dict_list ?zqhh ?zqF ?zqN ?zqm ?zqd ?zqlo ?zqz ?_; (case zqhh => exact rfl); (case zqF => k_asm); (case zqN => k_asm); (case zqm => k_mem); (case zqd => assumption); (case zqlo => assumption); (case zqz => (rw [PySem.sizeLine_eq]; omega)); k_whole); intro zD zn zh ztk zvs zF zN zl1 zhs; (try k_sweep))) | ((with_reducible show wpAny _ _ (eval (Expr.Name ..) _) _ _ _); (k_dflt (refine' name_any ?zqF ?zqv ?_ ?zqa ?zqb ?zqc; (case zqF => k_asm); (case zqa => exact rfl); (case zqb => exact rfl); (case zqv => first | assumption | fail "no"); (case zqc => decide); k_whole))) | ((with_reducible show wpAny _ _ (callWith _ (Value.type "list") ..) _ _ _); (with_unfolding_all refine Pv.callWith_type1 ?_)) | (k_unfold; (try dsimp only)) | (k_end; kc_close) | walk1 | (dsimp only; walk1) | (leave1; walk_say "STEP leave1"; (try dsimp only)) | fail "no step"))
    rename News _ _ _ _ => N4
    exact ret' (Fr.keep (by assumption)) (N4 _ (.head _)).2.2 (N4 _ (.head _)).1 (by assumption) nd (fun x => by rw [← htot]; simp)
  · obtain ⟨ps0, py, rfl, hps0, hy⟩ := pairs_snoc hps
    obtain ⟨xs, own, cs, pk, hty, hsh, hkids, e1, e2⟩ := hy.view
    have hkr : ∀ k ∈ cs, ∃ a, k = .ref a := fun k hk => let ⟨_, h⟩ := pairs_left hkids k hk; item_ref h.2
    have hl1 := items_len hps0
    have hl2 := items_len hkids
    rw [List.map_append, List.sum_append, List.map_cons, List.map_nil, List.sum_cons, List.sum_nil] at hsum
    obtain ⟨ay, nyy, rfl, hay⟩ := tup_at hledg hty
    have hayT := isTup_of hay
    rcases shape_cases hsh with ⟨t, t', t'', u, nm, x1, x2, rfl, rfl, rfl⟩ | ⟨tg, t, rest, rfl, hrl, htg, rfl⟩
    · cases hkids
      (repeat' (first | ((with_reducible show WhlIf ..); (refine WhlIf.yes (decide_eq_true (by omega)) ?_)) | ((with_reducible show wpAny _ _ (call (Value.builtin "len") _) _ _ _); (k_dflt (refine' len_snoc ?zqN ?zqm ?zqz ?_; (case zqN => k_asm); (case zqm => k_mem); (case zqz => omega); k_whole))) | ((with_reducible show wpAny _ _ (call (Value.builtin "list.extend") _) _ _ _); (k_dflt (refine' extend_tup ?zqF ?zqN ?zqb ?zqU ?zqz ?_; (case zqF => k_asm); (case zqN => k_asm); (case zqb => assumption); (case zqU => k_updF); (case zqz => omega); k_whole); intro zh zn zF zN; (try dsimp only at zN); (try k_sweep))) | (((with_reducible show wpAny _ _ (call (Value.ref 71) _) _ _ _); k_dflt (refine' inner_call ?zqIS ?zqR ?zqF ?zqN ?zqst ?zqhled ?zqht ?zqhsh ?zqhk ?zqhl ?_; (case zqIS => assumption); (case zqR => (refine Room.deeper (Room.weaken (by assumption) ?_ ?_) <;> omega)); (case zqF => k_asm); (case zqN => k_asm); (case zqst => assumption); (case zqhled => assumption); (case zqht => assumption); (case zqhsh => assumption); (case zqhk => assumption); (case zqhl => omega); k_whole); intro zh ztk zb zn zF zN zhb; (try k_sweep))) | ((with_reducible show wpAny _ _ (setItem (Value.ref _) (Value.str _ _) _) _ _ _); (k_dflt (refine' set_str ?zqF ?zqN ?zqU ?zqd ?zqz ?_; (case zqF => k_asm); (case zqN => k_asm); (case zqU => k_updF); (case zqd => assumption); (case zqz => (rw [PySem.sizeLine_eq]; omega)); k_whole); intro zh zo zF zN zhd; (try dsimp only at zN); (try k_sweep))) | ((with_reducible show wpAny _ _ (call (Value.builtin "list.pop") _) _ _ _); (k_dflt (refine' pop_last ?zqF ?zqN ?zqU ?zqz ?_; (case zqF => k_asm); (case zqN => k_asm); (case zqU => k_upd); (case zqz => (rw [PySem.sizeLine_eq]; omega)); k_whole); intro zh zF zN; (try dsimp only at zN); (try k_sweep))) | ((with_reducible show wpAny _ _ (eval (Expr.Name ..) _) _ _ _); (k_dflt (refine' name_any ?zqF ?zqv ?_ ?zqa ?zqb ?zqc; (case zqF => k_asm); (case zqa => exact rfl); (case zqb => exact rfl); (case zqv => first | assumption | fail "no"); (case zqc => decide); k_whole))) | ((with_reducible show wpAny _ _ (callWith _ (Value.builtin "list.extend") ..) _ _ _); (with_unfolding_all refine PyProof.Rows.callWith_method1 ?_)) | (k_unfold; (try dsimp only)) | (k_end; kc_close) | walk1 | (dsimp only; walk1) | (leave1; walk_say "STEP leave1"; (try dsimp only)) | fail "no step"))
      rename News _ _ _ _ => N4
      rename PySem.Obj.IsDictOf _ _ (stored _ _ _) => hd5
      rw [List.append_nil] at N4
      have q := tot_step (K' := (stored kvs nm (.bool true)).map (·.1)) (own := [nm]) htot e1 (fun x => by rw [stored_keys, List.mem_singleton])
      rw [List.append_nil] at q
      exact inst_turn (by assumption) (by exact hm1) (by exact hm2) N4 hd5 hps0 q (by have := stored_length_le kvs nm (.bool true); omega) (by rw [List.map_append, List.sum_append]; simp only [List.map_cons, List.map_nil, List.sum_cons, List.sum_nil]; omega)
    · (repeat' (first | (((with_reducible show wpAny _ _ (subscriptTail _ _ (Value.ref _) (Value.int 0 _)) _ _ _); k_dflt (refine' item0 ?zqt ?zql ?_; (case zqt => exact IsTup.keeps (by assumption) (Fr.keep (by k_asm))); (case zql => omega); k_whole))) | ((with_reducible show WhlIf ..); (refine WhlIf.yes (decide_eq_true (by omega)) ?_)) | ((with_reducible show wpAny _ _ (call (Value.builtin "len") _) _ _ _); (k_dflt (refine' len_snoc ?zqN ?zqm ?zqz ?_; (case zqN => k_asm); (case zqm => k_mem); (case zqz => omega); k_whole))) | ((with_reducible show wpAny _ _ (call (Value.builtin "list.extend") _) _ _ _); (k_dflt (refine' extend_tup ?zqF ?zqN ?zqb ?zqU ?zqz ?_; (case zqF => k_asm); (case zqN => k_asm); (case zqb => assumption); (case zqU => k_updF); (case zqz => omega); k_whole); intro zh zn zF zN; (try dsimp only at zN); (try k_sweep))) | (((with_reducible show wpAny _ _ (call (Value.ref 71) _) _ _ _); k_dflt (refine' inner_call ?zqIS ?zqR ?zqF ?zqN ?zqst ?zqhled ?zqht ?zqhsh ?zqhk ?zqhl ?_; (case zqIS => assumption); (case zqR => (refine Room.deeper (Room.weaken (by assumption) ?_ ?_) <;> omega)); (case zqF => k_asm); (case zqN => k_asm); (case zqst => assumption); (case zqhled => assumption); (case zqht => assumption); (case zqhsh => assumption); (case zqhk => assumption); (case zqhl => omega); k_whole); intro zh ztk zb zn zF zN zhb; (try k_sweep))) | ((with_reducible show wpAny _ _ (call (Value.builtin "list.pop") _) _ _ _); (k_dflt (refine' pop_last ?zqF ?zqN ?zqU ?zqz ?_; (case zqF => k_asm); (case zqN => k_asm); (case zqU => k_upd); (case zqz => (rw [PySem.sizeLine_eq]; omega)); k_whole); intro zh zF zN; (try dsimp only at zN); (try k_sweep))) | ((with_reducible show wpAny _ _ (eval (Expr.Name ..) _) _ _ _); (k_dflt (refine' name_any ?zqF ?zqv ?_ ?zqa ?zqb ?zqc; (case zqF => k_asm); (case zqa => exact rfl); (case zqb => exact rfl); (case zqv => first | assumption | fail "no"); (case zqc => decide); k_whole))) | ((with_reducible show wpAny _ _ (callWith _ (Value.builtin "list.extend") ..) _ _ _); (with_unfolding_all refine PyProof.Rows.callWith_method1 ?_)) | (k_unfold; (try dsimp only)) | (k_end; kc_close) | walk1 | (dsimp only; walk1) | (leave1; walk_say "STEP leave1"; (try dsimp only)) | fail "no step"))
      rename News _ _ _ _ => N4
      exact inst_turn (by assumption) (by exact hm1) (by exact hm2) N4 hd (hps0.append hkids) (tot_step htot e1 fun x => by simp) (by rw [List.map_append, List.sum_append]; omega) (by rw [List.map_append, List.sum_append, List.map_append, List.sum_append]; simp only [List.map_cons, List.map_nil, List.sum_cons, List.sum_nil]; omega)
end Mine

/-! part B11a -/
namespace Mine
open _root_.PySem _root_.PySem.W _root_.PySem.Calls _root_.PyProof.Rows
example : True := by w_top off; trivial

section
variable {prog : Program} {w : World} {A : Around} {E : Value → Shared → Prop} {s : Shared} {h₀ : Heap} {env : Env} {m : PySem.Str → Option Value} {news : Led}

def ForSrc (prog : Program) (w : World) (A : Around) (h₀ : Heap) (env : Env) (x : PySem.Str) (body : List Stmt) (Q : Flow → Shared → Prop) (E : Value → Shared → Prop) (xv : Value) (s₁ : Shared) : Prop :=
  wpAny (model prog w) A (pyIter xv) (fun it s₂ => LoopAtV prog w A h₀ env x body Q E it s₂) E s₁
theorem for_here {Q : Flow → Shared → Prop} {x : PySem.Str} {px pos : Pos} {iter : Expr} {body : List Stmt} (_F : Fr h₀ env.locals s.heap m) (hx : env.kindOf x = some .local)
    (hp : (env.scope.kind == .class || (env.scope.kind == .module && env.locals != env.globals)) = false)
    (hE : PassesOwn (model prog w) A env E)
    (hs : ∀ x, foldedSetIterable iter env x = pure x)
    (h : wpAny (model prog w) A (eval iter env) (ForSrc prog w A h₀ env x body Q E) E s) :
    wpAny (model prog w) A (exec (.For (.Name x px) iter body [] pos) env) Q E s := For_invV h₀ hx hp h hs hE

theorem for_walk {Q : Flow → Shared → Prop} {x : PySem.Str} {body : List Stmt} {I : Addr} {fp wr : List Addr} {n : Nat} {P : Nat → Value → Prop} {St : Nat → Heap → Prop} (W : Walks prog w A I fp wr n P St) (hLf : env.locals ∉ fp) (hwr : ∀ b ∈ wr, h₀.get? b = none)
    (hfp : ∀ p ∈ news, p.1 ∉ fp) (hst : St 0 s.heap) (hlive : ∀ i h, St i h → ∀ b ∈ fp, h.get? b ≠ none) (F : Fr h₀ env.locals s.heap m) (N : News h₀ env.locals s.heap news) (J : Nat → (PySem.Str → Option Value) → Led → Prop) (hJ : J 0 m news)
    (step : ∀ {i v m₁ news₁ m₂ h tk own} (T : Flow → Shared → Prop), i < n → P i v → J i m₁ news₁ → (∀ q ∈ news₁, ∀ p ∈ own, q.1 ≠ p.1) → m₂ x = some v → (∀ y, y ≠ x → m₂ y = m₁ y) → Fr h₀ env.locals h m₂ → News h₀ env.locals h (news₁ ++ own) →
      (∀ {h' tk' m' news'}, Fr h₀ env.locals h' m' → News h₀ env.locals h' (news' ++ own) → (∀ p ∈ news', p.1 ∈ news₁.map (·.1) ∨ h.get? p.1 = none) → J (i + 1) m' news' → T .next { s with heap := h', toks := tk' }) →
      (∀ {v s'}, Q (.ret v) s' → T (.ret v) s') →
      wpAny (model prog w) A (execs body env) T E { s with heap := h, toks := tk })
    (done : ∀ {h' tk m' news'}, Fr h₀ env.locals h' m' → News h₀ env.locals h' news' → J n m' news' → Q .next { s with heap := h', toks := tk }) :
    LoopAtV prog w A h₀ env x body Q E (.ref I) s := by
  refine ⟨I, fp, wr, n, P, St, m, news, fun i m news => J i m news ∧ ∀ p ∈ news, p.1 ∉ fp, rfl, W, hLf, hwr, fun p hp hq => hfp p hp (W.sub _ hq), hst, F, N, ⟨hJ, hfp⟩, ?_, ?_⟩
  · rintro i v m₁ news₁ s₁ own ⟨h, tk, rfl⟩ hi hP ⟨hJ₁, hfp₁⟩ _ hsub hget hall hst₁ F₁ N₁
    refine step _ hi hP hJ₁ (fun q hq p hp e => hfp₁ q hq (e ▸ hsub p hp)) (if_pos rfl) (fun y hy => if_neg hy) F₁ (fun p hp => N₁ p (List.mem_append.mpr (List.mem_append.mp hp).symm)) (fun {h' tk' m' news'} F' N' hnew hJ' => ?_) (fun h => .ret h)
    have hfp' : ∀ p ∈ news', p.1 ∉ fp := fun p hp hq => (hnew p hp).elim (fun hm => by
      obtain ⟨q, hq', e⟩ := List.mem_map.mp hm
      exact hfp₁ q hq' (e ▸ hq)) fun e => hlive _ _ hst₁ _ hq e
    exact .next ⟨rfl, h', tk', m', news', rfl, F', fun p hp => N' p (List.mem_append.mpr (List.mem_append.mp hp).symm), fun p hp hq => hfp' p hp (W.sub _ hq), hJ', hfp'⟩
  · intro h' tk m' news' F' N' _ hJ'
    exact done F' N' hJ'.1

theorem for_seq {Q : Flow → Shared → Prop} {x : PySem.Str} {body : List Stmt} {a : Addr} {items : List Value} (hh : A.handled = none) (ha : SeqAt s.heap a items) (haL : a ≠ env.locals)
    (hna : ∀ p ∈ news, p.1 ≠ a) (F : Fr h₀ env.locals s.heap m) (N : News h₀ env.locals s.heap news) (J : Nat → (PySem.Str → Option Value) → Led → Prop) (hJ : J 0 m news)
    (step : ∀ {i v m₁ news₁ m₂ h tk own} (T : Flow → Shared → Prop), i < items.length → items[i]? = some v → J i m₁ news₁ → (∀ q ∈ news₁, ∀ p ∈ own, q.1 ≠ p.1) → m₂ x = some v → (∀ y, y ≠ x → m₂ y = m₁ y) → Fr h₀ env.locals h m₂ → News h₀ env.locals h (news₁ ++ own) →
      (∀ {h' tk' m' news'}, Fr h₀ env.locals h' m' → News h₀ env.locals h' (news' ++ own) → (∀ p ∈ news', p.1 ∈ news₁.map (·.1) ∨ h.get? p.1 = none) → J (i + 1) m' news' → T .next { s with heap := h', toks := tk' }) →
      (∀ {v s'}, Q (.ret v) s' → T (.ret v) s') →
      wpAny (model prog w) A (execs body env) T E { s with heap := h, toks := tk })
    (done : ∀ {h' tk m' news'}, Fr h₀ env.locals h' m' → News h₀ env.locals h' news' → J items.length m' news' → Q .next { s with heap := h', toks := tk }) :
    ForSrc prog w A h₀ env x body Q E (.ref a) s := by
  unfold ForSrc
  have hL : env.locals < s.heap.objs.size := by obtain ⟨oL, _, _, hL, _⟩ := F.ns; exact Heap.lt_size hL
  have hnone : s.heap.get? s.heap.objs.size = none := by
    cases q : s.heap.get? s.heap.objs.size with
    | none => rfl
    | some o => exact absurd (Heap.lt_size q) (Nat.lt_irrefl _)
  have hI : s.heap.objs.size ≠ env.locals := fun e => by rw [← e] at hL; exact absurd hL (Nat.lt_irrefl _)
  have hLf : env.locals ∉ [s.heap.objs.size, a] := by simp [Ne.symm hI, Ne.symm haL]
  have hwr : ∀ b ∈ [s.heap.objs.size], h₀.get? b = none := fun b hb => by
    rw [List.mem_singleton.mp hb]
    exact next_is_new F
  have hfp : ∀ p ∈ news, p.1 ∉ [s.heap.objs.size, a] := fun p hp hq => by
    rcases List.mem_cons.mp hq with e | e
    · have := (N p hp).1; rw [e, hnone] at this; cases this
    · exact hna p hp (List.mem_singleton.mp e)
  have live : ∀ {T : String} (i : Nat) (h : Heap) {o o' : Obj}, h.get? s.heap.objs.size = some o → h.get? a = some o' → ∀ b ∈ [s.heap.objs.size, a], h.get? b ≠ none := fun i h o o' e e' b hb q => by
    rcases List.mem_cons.mp hb with rfl | hb
    · rw [q] at e; cases e
    · rw [List.mem_singleton.mp hb] at q; rw [q] at e'; cases e'
  have sz : items.toArray.size = items.length := by simp
  rcases ha with hl | ht
  · obtain ⟨o, ho, _⟩ := id hl
    have hne : a ≠ s.heap.objs.size := Nat.ne_of_lt (Heap.lt_size ho)
    refine wpAny_pyIter_list hl ?_
    refine for_walk (Walks.list hh s.heap.objs.size a hne items.toArray) hLf hwr hfp ⟨⟨_, Heap.get?_push_size _ rfl, rfl, rfl⟩, hl.at fun o e => Heap.get?_push_of_some _ e⟩ ?_ (F.push _) (N.grown fun _ _ e => Heap.get?_push_of_some _ e) J hJ ?_ (fun F' N' hJ' => done F' N' (by rw [← sz]; exact hJ'))
    · rintro i h ⟨⟨o, ho, _⟩, o', ho', _⟩
      exact live (T := "") i h ho ho'
    · intro i v m₁ news₁ m₂ h tk own T hi hP hJ₁ hne hx hm F₁ N₁ nxt rt
      exact step T (by rw [← sz]; exact hi) (by simpa using hP) hJ₁ hne hx hm F₁ N₁ nxt rt
  · obtain ⟨o, ho, hc, n, hd⟩ := id ht
    have hne : a ≠ s.heap.objs.size := Nat.ne_of_lt (Heap.lt_size ho)
    refine wpAny_pyIter_tuple ht ?_
    refine for_walk (Walks.tuple hh s.heap.objs.size a hne items.toArray) hLf hwr hfp ⟨⟨_, Heap.get?_push_size _ rfl, rfl, rfl⟩, ⟨o, Heap.get?_push_of_some _ ho, hc, n, hd⟩⟩ ?_ (F.push _) (N.grown fun _ _ e => Heap.get?_push_of_some _ e) J hJ ?_ (fun F' N' hJ' => done F' N' (by rw [← sz]; exact hJ'))
    · rintro i h ⟨⟨o, ho, _⟩, o', ho', _⟩
      exact live (T := "") i h ho ho'
    · intro i v m₁ news₁ m₂ h tk own T hi hP hJ₁ hne hx hm F₁ N₁ nxt rt
      exact step T (by rw [← sz]; exact hi) (by simpa using hP) hJ₁ hne hx hm F₁ N₁ nxt rt

theorem add_tup {L : Addr} {t b : Addr} {vs ws : List Value} {Q : Value → Shared → Prop} (F : Fr h₀ L s.heap m) (N : News h₀ L s.heap news) (ht : IsTup h₀ t vs.toArray) (hb : IsTup h₀ b ws.toArray) (hsz : vs.length + ws.length ≤ 1000000)
    (k : ∀ h' T, Fr h₀ L h' m → News h₀ L h' news → IsTup h' T (vs ++ ws).toArray → T ≠ L → (∀ p ∈ news, p.1 ≠ T) → Q (.ref T) { s with heap := h' }) :
    wpAny (model prog w) A (binaryOp .Add (.ref t) (.ref b)) Q E s := by
  have hL : L < s.heap.objs.size := by obtain ⟨oL, _, _, hL, _⟩ := F.ns; exact Heap.lt_size hL
  have off : ∀ {T o}, h₀.get? T = some o → T ≠ L ∧ ∀ p ∈ news, p.1 ≠ T := fun {T o} e => ⟨fun q => by
    have h1 := Heap.lt_size e
    have h2 := F.above
    rw [q] at h1
    exact absurd (Nat.lt_of_lt_of_le h1 h2) (Nat.lt_irrefl _), fun p hp q => by have := (N p hp).2.2; rw [q, e] at this; cases this⟩
  have ht' := ht.keeps F.keep
  have hb' := hb.keeps F.keep
  obtain ⟨o1, e1, _⟩ := ht
  obtain ⟨o2, e2, _⟩ := hb
  refine add_tuples F N ht' hb' (fun e => ?_) (fun _ e => ?_) (fun _ _ h' F' N' => ?_) (by rw [sizeLine_eq]; omega)
  · subst e
    exact k s.heap b F N (by simpa using hb') (off e2).1 (off e2).2
  · subst e
    exact k s.heap t F N (by simpa using ht') (off e1).1 (off e1).2
  · refine k h' _ F' (fun p hp => N' p (.tail _ hp)) ⟨_, (N' _ (.head _)).1, rfl, _, rfl⟩ (fun q => ?_) (fun p hp q => ?_)
    · rw [q] at hL; exact absurd hL (Nat.lt_irrefl _)
    · have := Heap.lt_size (N p hp).1
      rw [q] at this; exact absurd this (Nat.lt_irrefl _)
theorem append_any {L D : Addr} {p : List Value} {n : Nat} {x : Value} {g : Obj → Led} {Q : Value → Shared → Prop} (F : Fr h₀ L s.heap m) (N : News h₀ L s.heap news) (U : UpdF D (listOf p.toArray n) news g) (hz : p.length ≤ 1000000)
    (h : ∀ h' n', Fr h₀ L h' m → News h₀ L h' (g (listOf (p ++ [x]).toArray n')) → Q .none { s with heap := h' }) : wpAny (model prog w) A (call (.builtin "list.append") [.ref D, x]) Q E s := by
  obtain ⟨pre, post, rfl, hg, a, c⟩ := U.split
  have z := N (D, listOf p.toArray n) (by simp)
  refine append_at (hsz := by rw [sizeLine_eq, List.size_toArray]; omega) z.1 fun h' hs ho' => h h' (n + 1) (F.change hs z.2.1 z.2.2) ?_
  have e : p.toArray.push x = (p ++ [x]).toArray := by simp
  rw [e] at ho'
  rw [hg]
  exact news_set N a c hs ho'
end
end Mine

/-! part B11 -/
namespace Mine
open _root_.PySem _root_.PySem.W _root_.PySem.Calls _root_.PyProof.Rows
example : True := by w_top off; trivial

local macro_rules | `(tactic| k_ne) => `(tactic| (refine neN ?_; (try dsimp only); first | with_reducible assumption | exact Ne.symm (by with_reducible assumption) | omega))

def Ent (tl : Led) (v : Value) (l : List PySem.Str) : Prop :=
  (∃ tg t rest, Tup tl v (.str tg t :: rest) ∧ rest.length ≤ 1000 ∧ (tg == PySem.Str.ofString "param") = false ∧ l = []) ∨ (∃ q, Par tl v q ∧ l = if q.1 then [q.2] else [])
def Mod (tl : Led) (v : Value) (nm : PySem.Str) (hv bv : Value) : Prop := ∃ t t' t'' x y, Tup tl v [.str (PySem.Str.ofString "module") t, .int 3 t', .str nm t'', hv, x, bv, y]
theorem pairs_get {α β : Type} {P : α → β → Prop} : ∀ {as : List α} {bs : List β} {i : Nat} {a : α}, Pairs P as bs → as[i]? = some a → ∃ b, bs[i]? = some b ∧ P a b
  | _, _, 0, _, .cons h _, e => ⟨_, rfl, by rw [List.getElem?_cons_zero] at e; cases e; exact h⟩
  | _, _, i + 1, _, .cons _ r, e => by rw [List.getElem?_cons_succ] at e ⊢; exact pairs_get r e
theorem flat_step {α : Type} {ls : List (List α)} {i : Nat} {l : List α} (h : ls[i]? = some l) : (ls.take (i + 1)).flatten = (ls.take i).flatten ++ l := by
  rw [List.take_add_one, h]; simp
def ParNamesSpec (w : World) (H : Heap) : Prop := ∀ (A : Around) (s : Shared) (R : Result → Shared → Prop) (tl : Led) (v hv bv : Value) (nm : PySem.Str) (hvs bvs : List Value) (ls : List (List PySem.Str)),
  Room A 2 40 → H.StaysIn s.heap → LedAt s.heap tl → Mod tl v nm hv bv → Tup tl hv hvs → Tup tl bv bvs → Pairs (Ent tl) (hvs ++ bvs) ls → hvs.length + bvs.length ≤ 1000 →
  (∀ {h' tk' r vs n}, Ext [] s.heap h' → s.heap.get? r = none → h'.get? r = some (listOf (List.toArray vs) n) → StrsAre vs ls.flatten → R (.ok (.ret (.ref r))) { s with heap := h', toks := tk' }) →
  codeAny (model PySem.Challenge.pw_pq0447_01 w) A (.call (.ref 92) ⟨[v], []⟩) R s

def NamesInv (na : Addr) (ls : List (List PySem.Str)) (i : Nat) (m : PySem.Str → Option Value) (news : Led) : Prop :=
  ∃ vs n, m (PySem.Str.ofString "names") = some (.ref na) ∧ news = [(na, listOf (List.toArray vs) n)] ∧ StrsAre vs (ls.take i).flatten ∧ vs.length ≤ i

theorem strs_len {vs : List Value} {ks : List PySem.Str} (h : StrsAre vs ks) : vs.length = ks.length := h.length

local macro_rules | `(tactic| k_all) => `(tactic| first | (refine List.forall_mem_append.mpr ⟨?a, ?b⟩; (case a => k_all); (case b => k_all)) | exact tail_ne (by assumption) (by k_mem) | fail "k_all")

set_option maxHeartbeats 8000000 in
theorem parnames_spec {w : World} {lo : List PySem.Str} {mean : ExcName → Option Value} {mg mb : PySem.Str → Option Value} {H : Heap} (G : Root w lo mean mg mb H) : ParNamesSpec w H := by
  intro A s R tl v hv bv nm hvs bvs ls hr st hled hmod hth htb hps hlen ret
  obtain ⟨handled, dp, fr, gd, un⟩ := A
  obtain rfl : handled = none := hr.handled
  have X := G.X
  have T := G.T
  obtain ⟨t0, t1, t2, x4, y6, hm⟩ := hmod
  obtain ⟨a, na, rfl, ha⟩ := tup_at hled hm
  obtain ⟨ah, nh, rfl, hah⟩ := tup_at hled hth
  obtain ⟨ab, nb, rfl, hab⟩ := tup_at hled htb
  refine' enterN (K := Mine.hd.heap_39 w.params) (binds := [(PySem.Str.ofString "module", .ref a)]) [] X T st ?N ?k6 ?k7 ?k8 ?k9 ?kB ?_ ?c2 ?c3 ?c4 ?c5
  case N => intro q hq; cases hq
  ((try (case k6 => k_is)); (try (case k7 => k_is)); (try (case k8 => (have := Room.depth (by assumption); dsimp only at this ⊢; omega))); (try (case k9 => exact BindsTo.of_eq rfl)); (try (case c5 => decide)); (try (case kB => exact locs rfl)); (try (case c2 => exact rfl)); (try (case c3 => exact rfl)); (try (case c4 => exact rfl)))
  intro g' L' h' hg st' F' N' X' T'
  have hg' : g' = s.heap := hg
  have haT : IsTup g' a _ := hg' ▸ isTup_of ha
  have hahT : IsTup g' ah hvs.toArray := hg' ▸ isTup_of hah
  have habT : IsTup g' ab bvs.toArray := hg' ▸ isTup_of hab
  have hledg : LedAt g' tl := hg' ▸ hled
  have ret' : ∀ {h' tk' r vs n}, (∀ b o, g'.get? b = some o → h'.get? b = some o) → g'.get? r = none → h'.get? r = some (listOf (List.toArray vs) n) → StrsAre vs ls.flatten → R (.ok (.ret (.ref r))) { s with heap := h', toks := tk' } := fun k e => ret (fun b o _ q => k b o (hg' ▸ q)) (hg' ▸ e)
  clear ret
  (try dsimp only)
  (try k_fold)
  (repeat' (first | ((with_reducible show wpAny _ _ (exec (Stmt.For ..) _) _ _ _); ((rename Fr _ _ _ _ => zlF); (with_unfolding_all refine' for_here zlF ?zqk1 ?zqk2 ?zqhE ?zqhs ?_; (case zqk1 => exact rfl); (case zqk2 => exact rfl); (case zqhs => intro _; exact rfl); (case zqhE => first | passes_own | with_unfolding_all passes_own); k_whole))) | ((with_reducible show wpAny _ _ (binaryOp Operator.Add (Value.ref _) _) _ _ _); (k_dflt (refine' add_tup ?zqF ?zqN ?zqt ?zqb ?zqz ?_; (case zqF => k_asm); (case zqN => k_asm); (case zqt => assumption); (case zqb => assumption); (case zqz => omega); k_whole); intro zh zT zF zN zht hTL hTn; (try k_sweep))) | ((with_reducible show wpAny _ _ (call (Value.type "tuple") _) _ _ _); (k_dflt (refine' call_tuple_tup ?zqt ?_; (case zqt => exact IsTup.keeps (by assumption) (Fr.keep (by k_asm))); k_whole))) | ((with_reducible show wpAny _ _ (callWith _ (Value.type "tuple") ..) _ _ _); (with_unfolding_all refine Pv.callWith_type1 ?_)) | (k_unfold; (try dsimp only)) | (k_end; kc_close) | walk1 | (dsimp only; walk1) | (leave1; walk_say "STEP leave1"; (try dsimp only)) | fail "no step"))
  rename Fr _ _ _ _ => F1
  rename News _ _ _ _ => N1
  rename IsTup _ _ (hvs ++ bvs).toArray => htT
  refine for_seq rfl (.inr htT) (by assumption) (by assumption) F1 N1 (NamesInv _ ls) ⟨[], _, rfl, rfl, .nil, Nat.le_refl _⟩ ?_ ?_
  · intro i v m₁ news₁ m₂ h tk own P' hi hv hJ hne hx hm F₁ N₁ nxt rt
    have X1 := X'.keeps F₁.keep
    have T1 := T'.keeps F₁.keep
    obtain ⟨vs, n, hn, rfl, hs, hl⟩ := hJ
    have hnames := (hm (PySem.Str.ofString "names") (by decide)).trans hn
    rw [List.length_append] at hi
    rw [List.cons_append, List.nil_append] at N₁
    obtain ⟨l, hli, he⟩ := pairs_get hps hv
    have hfs := flat_step hli
    clear F1 N1 hm hn
    rcases he with ⟨tg, t, rest, htv, hrl, htg, rfl⟩ | ⟨⟨b, nm'⟩, ⟨u0, u1, u2, u3, htv⟩, rfl⟩
    · obtain ⟨av, nv, rfl, hav⟩ := tup_at hledg htv
      have havT := isTup_of hav
      (repeat' (first | (((with_reducible show wpAny _ _ (subscriptTail _ _ (Value.ref _) (Value.int 0 _)) _ _ _); k_dflt (refine' item0 ?zqt ?zql ?_; (case zqt => exact IsTup.keeps (by assumption) (Fr.keep (by k_asm))); (case zql => omega); k_whole))) | ((with_reducible show wpAny _ _ (eval (Expr.Name ..) _) _ _ _); (k_dflt (refine' name_any ?zqF ?zqv ?_ ?zqa ?zqb ?zqc; (case zqF => k_asm); (case zqa => exact rfl); (case zqb => exact rfl); (case zqv => first | assumption | fail "no"); (case zqc => decide); k_whole))) | (k_unfold; (try dsimp only)) | (k_end; kc_close) | walk1 | (dsimp only; walk1) | (leave1; walk_say "STEP leave1"; (try dsimp only)) | fail "no step"))
      exact nxt (by assumption) (by assumption) (fun p hp => .inl (by simpa using congrArg Prod.fst (List.mem_singleton.mp hp))) ⟨vs, n, hnames, rfl, by rw [hfs, List.append_nil]; exact hs, by omega⟩
    · obtain ⟨av, nv, rfl, hav⟩ := tup_at hledg htv
      have havT := isTup_of hav
      cases b with
      | false =>
        have hk : parKd false = PySem.Str.ofString "localparam" := rfl
        dsimp only at havT
        rw [hk] at havT
        (repeat' (first | ((with_reducible show wpAny _ _ (eval (Expr.Name ..) _) _ _ _); (k_dflt (refine' name_any ?zqF ?zqv ?_ ?zqa ?zqb ?zqc; (case zqF => k_asm); (case zqa => exact rfl); (case zqb => exact rfl); (case zqv => first | assumption | fail "no"); (case zqc => decide); k_whole))) | (k_unfold; (try dsimp only)) | (k_end; kc_close) | walk1 | (dsimp only; walk1) | (leave1; walk_say "STEP leave1"; (try dsimp only)) | fail "no step"))
        exact nxt (by assumption) (by assumption) (fun p hp => .inl (by simpa using congrArg Prod.fst (List.mem_singleton.mp hp))) ⟨vs, n, hnames, rfl, by rw [hfs]; simpa using hs, by omega⟩
      | true =>
        have hk : parKd true = PySem.Str.ofString "parameter" := rfl
        dsimp only at havT
        rw [hk] at havT
        (repeat' (first | ((with_reducible show wpAny _ _ (call (Value.builtin "list.append") _) _ _ _); (k_dflt (refine' append_any ?zqF ?zqN ?zqU ?zqz ?_; (case zqF => k_asm); (case zqN => k_asm); (case zqU => k_updF); (case zqz => omega); k_whole); intro zh zn zF zN; (try dsimp only at zN); (try k_sweep))) | ((with_reducible show wpAny _ _ (eval (Expr.Name ..) _) _ _ _); (k_dflt (refine' name_any ?zqF ?zqv ?_ ?zqa ?zqb ?zqc; (case zqF => k_asm); (case zqa => exact rfl); (case zqb => exact rfl); (case zqv => first | assumption | fail "no"); (case zqc => decide); k_whole))) | ((with_reducible show wpAny _ _ (callWith _ (Value.builtin "list.append") ..) _ _ _); (with_unfolding_all refine PyProof.Rows.callWith_method1 ?_)) | (k_unfold; (try dsimp only)) | (k_end; kc_close) | walk1 | (dsimp only; walk1) | (leave1; walk_say "STEP leave1"; (try dsimp only)) | fail "no step"))
        rename News _ _ _ _ => N5
        exact nxt (by assumption) N5 (fun p hp => .inl (by simpa using congrArg Prod.fst (List.mem_singleton.mp hp))) ⟨_, _, hnames, rfl, by rw [hfs]; exact StrsAre.append' hs (.cons _ _ .nil), by rw [List.length_append]; exact Nat.succ_le_succ hl⟩
  · intro h' tk m' news' F' N' hJ
    obtain ⟨vs, n, hn, rfl, hs, hl⟩ := hJ
    clear F1 N1
    have hT : ls.take (hvs ++ bvs).length = ls := by rw [pairs_len hps]; exact List.take_length
    rw [hT] at hs
    (repeat' (first | ((with_reducible show wpAny _ _ (eval (Expr.Name ..) _) _ _ _); (k_dflt (refine' name_any ?zqF ?zqv ?_ ?zqa ?zqb ?zqc; (case zqF => k_asm); (case zqa => exact rfl); (case zqb => exact rfl); (case zqv => first | assumption | fail "no"); (case zqc => decide); k_whole))) | (k_unfold; (try dsimp only)) | (k_end; kc_close) | walk1 | (dsimp only; walk1) | (leave1; walk_say "STEP leave1"; (try dsimp only)) | fail "no step"))
    exact ret' (Fr.keep (by assumption)) (N' _ (.head _)).2.2 (N' _ (.head _)).1 hs
end Mine

/-! part B12a -/
namespace Mine
open _root_.PySem _root_.PySem.W _root_.PySem.Calls _root_.PyProof.Rows
example : True := by w_top off; trivial

def itemsOf (h : Heap) : Value → List Value
  | .ref a => match h.get? a with
    | some ⟨_, _, .seq xs _, _⟩ => xs.toList
    | _ => []
  | _ => []
def parB (h : Heap) (v : Value) : Bool := match (itemsOf h v).getD 2 .none with
  | .str x _ => x == PySem.Str.ofString "parameter"
  | _ => false
def parN (h : Heap) (v : Value) : Value := (itemsOf h v).getD 5 .none
theorem itemsOf_eq {h : Heap} {a n : Nat} {xs : List Value} (e : h.get? a = some (tupO xs n)) : itemsOf h (.ref a) = xs := by
  unfold itemsOf
  dsimp only
  rw [e]
theorem parKd_eq {b : Bool} : (parKd b == PySem.Str.ofString "parameter") = b := by cases b <;> decide
/-- the names of the parameters that may be overridden -/
def front (ps : List (Bool × PySem.Str)) : List PySem.Str := (ps.filter (·.1)).map (·.2)
theorem par_read {h : Heap} {tl : Led} {v : Value} {q : Bool × PySem.Str} (l : LedAt h tl) (p : Par tl v q) : ∃ a n t t' t'' u, v = .ref a ∧ h.get? a = some (tupO [.str (PySem.Str.ofString "param") t, .int 1 t', .str (parKd q.1) t'', .bool false, .none, .str q.2 u, .none] n) ∧ parB h v = q.1 ∧ parN h v = .str q.2 u := by
  obtain ⟨t, t', t'', u, p⟩ := p
  obtain ⟨a, n, rfl, e⟩ := tup_at l p
  refine ⟨a, n, t, t', t'', u, rfl, e, ?_, ?_⟩
  · unfold parB
    rw [itemsOf_eq e]
    exact parKd_eq
  · unfold parN
    rw [itemsOf_eq e]
    rfl
theorem front_strs {h : Heap} {tl : Led} (l : LedAt h tl) : ∀ {vs : List Value} {ps : List (Bool × PySem.Str)}, Pairs (Par tl) vs ps → StrsAre ((vs.filter (parB h)).map (parN h)) (front ps)
  | _, _, .nil => .nil
  | v :: vs, q :: ps, .cons p r => by
    obtain ⟨a, n, t, t', t'', u, _, _, eb, en⟩ := par_read l p
    have ih := front_strs l r
    unfold front at ih ⊢
    obtain ⟨b, nm⟩ := q
    cases b with
    | true =>
      rw [List.filter_cons_of_pos (by exact eb), List.filter_cons_of_pos rfl, List.map_cons, List.map_cons, en]
      exact .cons _ _ ih
    | false =>
      rw [List.filter_cons_of_neg (by rw [eb]; exact Bool.false_ne_true), List.filter_cons_of_neg (by exact Bool.false_ne_true)]
      exact ih

section
variable {prog : Program} {w : World} {A : Around} {E : Value → Shared → Prop} {s : Shared} {h₀ : Heap} {L : Addr} {m : PySem.Str → Option Value} {news : Led}
theorem news_fresh {r : Addr} {o : Obj} {h' : Heap} (F : Fr h₀ L s.heap m) (N : News h₀ L s.heap news) (x : Ext [] s.heap h') (e0 : s.heap.get? r = none) (e : h'.get? r = some o) :
    Fr h₀ L h' m ∧ News h₀ L h' ((r, o) :: news) ∧ ∀ p ∈ news, p.1 ≠ r := by
  refine ⟨F.keeps fun b o e => x b o (by simp) e, fun p hp => ?_, fun p hp q => by have := (N p hp).1; rw [q, e0] at this; cases this⟩
  rcases List.mem_cons.mp hp with rfl | hp
  · refine ⟨e, fun q => ?_, ?_⟩
    · obtain ⟨oL, _, _, hL, _⟩ := F.ns
      have q' : r = L := q
      rw [← q', e0] at hL; cases hL
    · cases q : h₀.get? r with
      | none => rfl
      | some o => have := F.keep _ _ q; rw [e0] at this; cases this
  · exact ⟨x _ _ (by simp) (N p hp).1, (N p hp).2⟩
theorem parnames_call {H : Heap} {tl : Led} {v hv bv : Value} {nm : PySem.Str} {hvs bvs : List Value} {ls : List (List PySem.Str)} {Q : Value → Shared → Prop} (PS : ParNamesSpec w H) (R : Room A 2 40) (F : Fr h₀ L s.heap m) (N : News h₀ L s.heap news) (st : H.StaysIn h₀) (hled : LedAt s.heap tl)
    (hm : Mod tl v nm hv bv) (hh : Tup tl hv hvs) (hb : Tup tl bv bvs) (hp : Pairs (Ent tl) (hvs ++ bvs) ls) (hl : hvs.length + bvs.length ≤ 1000)
    (k : ∀ h' tk' r vs n, Fr h₀ L h' m → News h₀ L h' ((r, listOf (List.toArray vs) n) :: news) → (∀ p ∈ news, p.1 ≠ r) → StrsAre vs ls.flatten → Q (.ref r) { s with heap := h', toks := tk' }) :
    wpAny (model PySem.Challenge.pw_pq0447_01 w) A (call (.ref 92) [v]) Q E s := by
  refine wpAny_call (PS A s _ tl v hv bv nm hvs bvs ls R (fun b o e => F.keep b o (st b o e)) hled hm hh hb hp hl @fun h' tk' r vs n x e0 e hs => ?_)
  obtain ⟨F', N', l⟩ := news_fresh F N x e0 e
  exact k h' tk' r vs n F' N' l hs
theorem len_list {D : Addr} {p : List Value} {n : Nat} {Q : Value → Shared → Prop} (N : News h₀ L s.heap news) (hm : (D, listOf p.toArray n) ∈ news) (hz : p.length ≤ 1000000)
    (h : Q (.int (p.length : Int) (s.toks + 1)) { s with toks := s.toks + 1 + 1 }) : wpAny (model prog w) A (call (.builtin "len") [.ref D]) Q E s := by
  have e : ((p.toArray.size : Nat) : Int) = (p.length : Int) := by simp
  refine call_len_list (News.isList N hm) (by rw [e]; omega) ?_
  rw [e]; exact h
end
section
variable {prog : Program} {w : World} {A : Around} {E : Value → Shared → Prop} {s : Shared} {env : Env}
/-- the same for a comprehension that is assigned at once -/
def LcSrcA (prog : Program) (w : World) (A : Around) (env : Env) (elt : Expr) (x y : PySem.Str) (ifs : List Expr) (scope : Scope) (cl : List (PySem.Str × Addr)) (p : Value → Bool) (F : Value → Value → Prop) (Q : Flow → Shared → Prop) (xv : Value) (s₁ : Shared) : Prop :=
  ∃ a items m, xv = .ref a ∧ SeqAt s₁.heap a items ∧ items.length ≤ sizeLine ∧ s₁.heap.Ns env.locals m ∧
      (∀ C v s₃ m₃ E', s₁.heap.objs.size ≤ C → v ∈ items → s₃.heap.Ns C m₃ → m₃ x = some v → (∀ b o, s₁.heap.get? b = some o → s₃.heap.get? b = some o) →
        wpAny (model prog w) A (forIn ifs true fun c r => if r = true then do let ok ← isTrue c (compEnvC scope cl C env) (eval c (compEnvC scope cl C env)); pure (ForInStep.yield ok) else pure (ForInStep.yield r))
          (fun ok s₄ => ok = p v ∧ Keeps s₃ s₄) E' s₃) ∧
      (∀ C v s₃ m₃ E', s₁.heap.objs.size ≤ C → v ∈ items → p v = true → s₃.heap.Ns C m₃ → m₃ x = some v → (∀ b o, s₁.heap.get? b = some o → s₃.heap.get? b = some o) →
        wpAny (model prog w) A (eval elt (compEnvC scope cl C env)) (fun y s₄ => F v y ∧ Keeps s₃ s₄) E' s₃) ∧
      (∀ D h' tk ys n, s₁.heap.get? D = none → h'.get? D = some (listOf (List.toArray ys) n) → Paired F (items.filter p) ys → h'.Ns env.locals (fun z => if z = y then some (.ref D) else m z) → (∀ b o, b ≠ env.locals → s₁.heap.get? b = some o → h'.get? b = some o) → Q .next { s₁ with heap := h', toks := tk })
theorem lc_assignM {elt iter : Expr} {x y : PySem.Str} {px py : Pos} {ifs : List Expr} {scope : Scope} {cl : List (PySem.Str × Addr)} {pos spos : Pos} {Q : Flow → Shared → Prop} {p : Value → Bool} {F : Value → Value → Prop} (_ : LcMark p F)
    (hh : A.handled = none) (hsw : swapsWith (.ListComp elt [⟨.Name x px, iter, ifs, 0⟩] scope pos) (some (.Name y py)) spos.line env = pure true) (hclos : closureFor scope env = pure cl) (hcell : ∀ y ∈ scope.names, y.2 ≠ .cell) (hkind : scope.kind = .function)
    (hnames : ∀ y ∈ scope.names, y.2 = .local → scope.names.lookup y.1 = some .local) (hx : scope.names.lookup x = some .local)
    (hy : env.kindOf y = some .local) (hp : (env.scope.kind == .class || (env.scope.kind == .module && env.locals != env.globals)) = false)
    (hs : ∀ x, foldedSetIterable iter env x = pure x)
    (h : wpAny (model prog w) A (eval iter env) (LcSrcA prog w A env elt x y ifs scope cl p F Q) E s) :
    wpAny (model prog w) A (exec (.Assign [.Name y py] (.ListComp elt [⟨.Name x px, iter, ifs, 0⟩] scope pos) spos) env) Q E s := by
  refine wpAny_Assign_ListComp_free p F hsw hclos hcell hkind hnames hx hy hp (wpAny_mono h (fun xv s₁ h₁ => ?_) fun _ _ e => e) hs
  obtain ⟨a, items, m, rfl, ha, hsz, hns, ht, he, hk⟩ := h₁
  have hL : env.locals < s₁.heap.objs.size := by obtain ⟨oL, _, _, hL, _⟩ := hns; exact Heap.lt_size hL
  refine pyIter_seq hh ha fun I h' St W st0 hI hb keep hIe => ?_
  have notI : ∀ b o, s₁.heap.get? b = some o → b ∉ [I] := fun b o e q => by rw [List.mem_singleton.mp q, hI] at e; cases e
  have hsz' : s₁.heap.objs.size ≤ h'.objs.size := by
    have := hb I (by simp)
    rw [hIe] at this
    exact Nat.le_of_lt this
  refine ⟨I, _, _, _, _, St, m, rfl, W, (by rw [List.size_toArray]; exact hsz), st0, hb, ?_, hns.at fun o e => keep _ o e, ⟨?_, ?_⟩, ?_⟩
  · intro q
    rw [List.mem_singleton.mp q, hIe] at hL
    exact absurd hL (Nat.lt_irrefl _)
  · intro C i v s₃ m₃ E' hC hP hn hm hk₃ _
    exact ht C v s₃ m₃ E' (Nat.le_trans hsz' hC) (List.mem_of_getElem? (by simpa using hP)) hn hm fun b o e => hk₃ b o (notI b o e) (keep b o e)
  · intro C i v s₃ m₃ E' hC hP hp hn hm hk₃ _
    exact he C v s₃ m₃ E' (Nat.le_trans hsz' hC) (List.mem_of_getElem? (by simpa using hP)) hp hn hm fun b o e => hk₃ b o (notI b o e) (keep b o e)
  · intro D h'' tk ys vs hD hl hpl hlen hP hF hns' hk₃
    obtain ⟨n, hn⟩ := hpl
    have hvs : vs = items := by
      have := list_of_places (items := items.toArray) hlen hP
      simpa using this
    subst hvs
    have hD' : s₁.heap.get? D = none := by
      cases q : s₁.heap.get? D with
      | none => rfl
      | some o => rw [keep _ _ q] at hD; cases hD
    exact hk D h'' tk ys.toList n hD' (by simpa using hn) hF hns' fun b o hbL e => hk₃ b o hbL (notI b o e) (keep b o e)
theorem lc_srcA {elt : Expr} {x y : PySem.Str} {ifs : List Expr} {scope : Scope} {cl : List (PySem.Str × Addr)} {Q : Flow → Shared → Prop} {p : Value → Bool} {F : Value → Value → Prop} {a : Addr} {items : List Value} {h₀ : Heap} {m : PySem.Str → Option Value} {news : Led} {s₁ : Shared}
    (Fr1 : Fr h₀ env.locals s₁.heap m) (N1 : News h₀ env.locals s₁.heap news) (ha : SeqAt s₁.heap a items) (hsz : items.length ≤ sizeLine)
    (ht : ∀ C v s₃ m₃ E', v ∈ items → Fr s₁.heap C s₃.heap m₃ → News s₁.heap C s₃.heap [] → m₃ x = some v →
        wpAny (model prog w) A (forIn ifs true fun c r => if r = true then do let ok ← isTrue c (compEnvC scope cl C env) (eval c (compEnvC scope cl C env)); pure (ForInStep.yield ok) else pure (ForInStep.yield r))
          (fun ok s₄ => ok = p v ∧ Keeps s₃ s₄) E' s₃)
    (he : ∀ C v s₃ m₃ E', v ∈ items → p v = true → Fr s₁.heap C s₃.heap m₃ → News s₁.heap C s₃.heap [] → m₃ x = some v →
        wpAny (model prog w) A (eval elt (compEnvC scope cl C env)) (fun y s₄ => F v y ∧ Keeps s₃ s₄) E' s₃)
    (hk : ∀ D h' tk ys n, Fr h₀ env.locals h' (fun z => if z = y then some (.ref D) else m z) → News h₀ env.locals h' ((D, listOf (List.toArray ys) n) :: news) → (∀ p ∈ news, p.1 ≠ D) → Paired F (items.filter p) ys → Q .next { s₁ with heap := h', toks := tk }) :
    LcSrcA prog w A env elt x y ifs scope cl p F Q (.ref a) s₁ := by
  refine ⟨a, items, m, rfl, ha, hsz, Fr1.ns, fun C v s₃ m₃ E' hC hv hn hm k => ht C v s₃ m₃ E' hv ⟨hn, k, hC⟩ News.nil hm, fun C v s₃ m₃ E' hC hv hp hn hm k => he C v s₃ m₃ E' hv hp ⟨hn, k, hC⟩ News.nil hm, fun D h' tk ys n hD hy hF hns keep => ?_⟩
  have hbL : ∀ b o, h₀.get? b = some o → b ≠ env.locals := fun b o e q => by
    have h1 := Heap.lt_size e
    have h2 := Fr1.above
    rw [q] at h1
    exact absurd (Nat.lt_of_lt_of_le h1 h2) (Nat.lt_irrefl _)
  refine hk D h' tk ys n ⟨hns, fun b o e => keep b o (hbL b o e) (Fr1.keep b o e), Fr1.above⟩ ?_ (fun p hp e => by have := (N1 p hp).1; rw [e, hD] at this; cases this) hF
  intro q hq
  rcases List.mem_cons.mp hq with rfl | hq
  · refine ⟨hy, fun e => ?_, ?_⟩
    · obtain ⟨oL, _, _, hL, _⟩ := Fr1.ns
      have e' : D = env.locals := e
      rw [e', hL] at hD; cases hD
    · cases q : h₀.get? D with
      | none => rfl
      | some o => have := Fr1.keep _ _ q; rw [hD] at this; cases this
  · exact ⟨keep _ _ (N1 q hq).2.1 (N1 q hq).1, (N1 q hq).2⟩
end
theorem front_nil {ps : List (Bool × PySem.Str)} : (front ps).length ≤ ps.length := by unfold front; rw [List.length_map]; exact List.length_filter_le _ _
end Mine

/-! part B12 -/
namespace Mine
open _root_.PySem _root_.PySem.W _root_.PySem.Calls _root_.PyProof.Rows
example : True := by w_top off; trivial

local macro_rules | `(tactic| k_ne) => `(tactic| (refine neN ?_; (try dsimp only); first | with_reducible assumption | exact Ne.symm (by with_reducible assumption) | omega))

local macro_rules | `(tactic| k_all) => `(tactic| first | (refine List.forall_mem_append.mpr ⟨?a, ?b⟩; (case a => k_all); (case b => k_all)) | exact tail_ne (by assumption) (by k_mem) | fail "k_all")

def OrdSpec (w : World) (H : Heap) : Prop := ∀ (A : Around) (s : Shared) (R : Result → Shared → Prop) (tl : Led) (v hv bv : Value) (nm : PySem.Str) (hvs bvs : List Value) (hps : List (Bool × PySem.Str)) (ls : List (List PySem.Str)),
  Room A 4 60 → H.StaysIn s.heap → LedAt s.heap tl → Mod tl v nm hv bv → Tup tl hv hvs → Tup tl bv bvs → Pairs (Par tl) hvs hps → Pairs (Ent tl) (hvs ++ bvs) ls → hvs.length + bvs.length ≤ 1000 →
  (∀ {h' tk' r vs n}, Ext [] s.heap h' → s.heap.get? r = none → h'.get? r = some (listOf (List.toArray vs) n) → StrsAre vs (if front hps = [] then ls.flatten else front hps) → R (.ok (.ret (.ref r))) { s with heap := h', toks := tk' }) →
  codeAny (model PySem.Challenge.pw_pq0447_01 w) A (.call (.ref 97) ⟨[v], []⟩) R s

set_option maxHeartbeats 8000000 in
theorem ord_spec {w : World} {lo : List PySem.Str} {mean : ExcName → Option Value} {mg mb : PySem.Str → Option Value} {H : Heap} (G : Root w lo mean mg mb H) (PS : ParNamesSpec w H) : OrdSpec w H := by
  intro A s R tl v hv bv nm hvs bvs pps ls hr st hled hmod hth htb hpp hps hlen ret
  obtain ⟨handled, dp, fr, gd, un⟩ := A
  obtain rfl : handled = none := hr.handled
  have X := G.X
  have T := G.T
  have hmod' := hmod
  obtain ⟨t0, t1, t2, x4, y6, hm⟩ := hmod'
  obtain ⟨a, na, rfl, ha⟩ := tup_at hled hm
  obtain ⟨ah, nh, rfl, hah⟩ := tup_at hled hth
  refine' enterN (K := Mine.hd.heap_39 w.params) (binds := [(PySem.Str.ofString "module", .ref a)]) [] X T st ?N ?k6 ?k7 ?k8 ?k9 ?kB ?_ ?c2 ?c3 ?c4 ?c5
  case N => intro q hq; cases hq
  ((try (case k6 => k_is)); (try (case k7 => k_is)); (try (case k8 => (have := Room.depth (by assumption); dsimp only at this ⊢; omega))); (try (case k9 => exact BindsTo.of_eq rfl)); (try (case c5 => decide)); (try (case kB => exact locs rfl)); (try (case c2 => exact rfl)); (try (case c3 => exact rfl)); (try (case c4 => exact rfl)))
  intro g' L' h' hg st' F' N' X' T'
  have hg' : g' = s.heap := hg
  have haT : IsTup g' a _ := hg' ▸ isTup_of ha
  have hahT : IsTup g' ah hvs.toArray := hg' ▸ isTup_of hah
  have hledg : LedAt g' tl := hg' ▸ hled
  have ret' : ∀ {h' tk' r vs n}, (∀ b o, g'.get? b = some o → h'.get? b = some o) → g'.get? r = none → h'.get? r = some (listOf (List.toArray vs) n) → StrsAre vs (if front pps = [] then ls.flatten else front pps) → R (.ok (.ret (.ref r))) { s with heap := h', toks := tk' } := fun k e => ret (fun b o _ q => k b o (hg' ▸ q)) (hg' ▸ e)
  clear ret hled
  have hfs := front_strs hledg hpp
  have mkk : LcMark (parB g') (fun v y => y = parN g' v) := ⟨⟩
  (try dsimp only)
  (try k_fold)
  (repeat' (first | ((with_reducible show wpAny _ _ (exec (Stmt.Assign _ (Expr.ListComp ..) ..) _) _ _ _); (k_dflt (refine' lc_assignM ?zqmk ?zqhh ?zqhsw ?zqhclos ?zqhcell ?zqhkind ?zqhnames ?zqhx ?zqhy ?zqhp ?zqhs ?_; (case zqmk => assumption); (case zqhh => exact rfl); (case zqhsw => with_unfolding_all rfl); (case zqhclos => exact closureFor_none (by decide)); (case zqhcell => decide); (case zqhkind => exact rfl); (case zqhnames => decide); (case zqhx => exact rfl); (case zqhy => exact rfl); (case zqhp => exact rfl); (case zqhs => exact fun _ => rfl); k_whole))) | (k_unfold; (try dsimp only)) | (k_end; kc_close) | walk1 | (dsimp only; walk1) | (leave1; walk_say "STEP leave1"; (try dsimp only)) | fail "no step"))
  rename Fr _ _ _ _ => F1
  rename News _ _ _ _ => N1
  refine lc_srcA F1 N1 (items := hvs) (.inr (hahT.keeps F1.keep)) (by rw [sizeLine_eq]; omega) ?_ ?_ ?_
  · intro C v s₃ m₃ E' hv F3 N3 hm
    have X3 := X'.keeps (F1.keep)
    have T3 := T'.keeps (F1.keep)
    refine wpAny_tests_one ?_
    obtain ⟨q, hq, hp⟩ := pairs_left hpp v hv
    obtain ⟨av, nv, u0, u1, u2, u3, rfl, hav, eb, en⟩ := par_read hledg hp
    have havT := isTup_of (F1.keep _ _ hav)
    clear F1 N1
    obtain ⟨b, nm'⟩ := q
    dsimp only at eb havT
    rw [eb]
    cases b with
    | true =>
      have hk : parKd true = PySem.Str.ofString "parameter" := rfl
      rw [hk] at havT
      (repeat' (first | ((with_reducible show wpAny _ _ (eval (Expr.Name ..) _) _ _ _); (k_dflt (refine' name_any ?zqF ?zqv ?_ ?zqa ?zqb ?zqc; (case zqF => k_asm); (case zqa => exact rfl); (case zqb => exact rfl); (case zqv => first | assumption | fail "no"); (case zqc => decide); k_whole))) | (k_unfold; (try dsimp only)) | (k_end; kc_close) | walk1 | (dsimp only; walk1) | (leave1; walk_say "STEP leave1"; (try dsimp only)) | fail "no step"))
      exact keeps_refl
    | false =>
      have hk : parKd false = PySem.Str.ofString "localparam" := rfl
      rw [hk] at havT
      (repeat' (first | ((with_reducible show wpAny _ _ (eval (Expr.Name ..) _) _ _ _); (k_dflt (refine' name_any ?zqF ?zqv ?_ ?zqa ?zqb ?zqc; (case zqF => k_asm); (case zqa => exact rfl); (case zqb => exact rfl); (case zqv => first | assumption | fail "no"); (case zqc => decide); k_whole))) | (k_unfold; (try dsimp only)) | (k_end; kc_close) | walk1 | (dsimp only; walk1) | (leave1; walk_say "STEP leave1"; (try dsimp only)) | fail "no step"))
      exact keeps_refl
  · intro C v s₃ m₃ E' hv hp F3 N3 hm
    obtain ⟨q, hq, hp⟩ := pairs_left hpp v hv
    obtain ⟨av, nv, u0, u1, u2, u3, rfl, hav, eb, en⟩ := par_read hledg hp
    have havT := isTup_of (F1.keep _ _ hav)
    clear F1 N1
    (try dsimp only at havT ⊢)
    rw [en]
    (repeat' (first | ((with_reducible show wpAny _ _ (eval (Expr.Name ..) _) _ _ _); (k_dflt (refine' name_any ?zqF ?zqv ?_ ?zqa ?zqb ?zqc; (case zqF => k_asm); (case zqa => exact rfl); (case zqb => exact rfl); (case zqv => first | assumption | fail "no"); (case zqc => decide); k_whole))) | (k_unfold; (try dsimp only)) | (k_end; kc_close) | walk1 | (dsimp only; walk1) | (leave1; walk_say "STEP leave1"; (try dsimp only)) | fail "no step"))
    exact keeps_refl
  · intro D h'' tk ys n F4 N4 hne hF
    clear F1 N1
    obtain rfl := paired_map hF
    have hyl : ((hvs.filter (parB g')).map (parN g')).length ≤ hvs.length := by rw [List.length_map]; exact List.length_filter_le _ _
    generalize (hvs.filter (parB g')).map (parN g') = ys at *
    generalize front pps = fs at *
    have hfs' := hfs
    cases hfs with
    | nil =>
      (repeat' (first | ((with_reducible show wpAny _ _ (call (Value.builtin "len") _) _ _ _); (k_dflt (refine' len_list ?zqN ?zqm ?zqz ?_; (case zqN => k_asm); (case zqm => k_mem); (case zqz => omega); k_whole))) | (((with_reducible show wpAny _ _ (call (Value.ref 92) _) _ _ _); k_dflt (refine' parnames_call ?zqPS ?zqR ?zqF ?zqN ?zqst ?zqhled ?zqhm ?zqhh ?zqhb ?zqhp ?zqhl ?_; (case zqPS => assumption); (case zqR => (refine Room.deeper (Room.weaken (by assumption) ?_ ?_) <;> omega)); (case zqF => k_asm); (case zqN => k_asm); (case zqst => assumption); (case zqhled => exact fun p hp => Fr.keep (by k_asm) _ _ ((by assumption : LedAt _ _) p hp)); (case zqhm => assumption); (case zqhh => assumption); (case zqhb => assumption); (case zqhp => assumption); (case zqhl => omega); k_whole); intro zh ztk zr zvs zn zF zN zl zhs; (try k_sweep))) | (k_unfold; (try dsimp only)) | (k_end; kc_close) | walk1 | (dsimp only; walk1) | (leave1; walk_say "STEP leave1"; (try dsimp only)) | fail "no step"))
      rename News _ _ _ _ => N5
      rename StrsAre _ ls.flatten => hs5
      exact ret' (Fr.keep (by assumption)) (N5 _ (.head _)).2.2 (N5 _ (.head _)).1 (by rw [if_pos rfl]; exact hs5)
    | cons =>
      (repeat' (first | ((with_reducible show wpAny _ _ (call (Value.builtin "len") _) _ _ _); (k_dflt (refine' len_list ?zqN ?zqm ?zqz ?_; (case zqN => k_asm); (case zqm => k_mem); (case zqz => omega); k_whole))) | (((with_reducible show wpAny _ _ (call (Value.ref 92) _) _ _ _); k_dflt (refine' parnames_call ?zqPS ?zqR ?zqF ?zqN ?zqst ?zqhled ?zqhm ?zqhh ?zqhb ?zqhp ?zqhl ?_; (case zqPS => assumption); (case zqR => (refine Room.deeper (Room.weaken (by assumption) ?_ ?_) <;> omega)); (case zqF => k_asm); (case zqN => k_asm); (case zqst => assumption); (case zqhled => exact fun p hp => Fr.keep (by k_asm) _ _ ((by assumption : LedAt _ _) p hp)); (case zqhm => assumption); (case zqhh => assumption); (case zqhb => assumption); (case zqhp => assumption); (case zqhl => omega); k_whole); intro zh ztk zr zvs zn zF zN zl zhs; (try k_sweep))) | (k_unfold; (try dsimp only)) | (k_end; kc_close) | walk1 | (dsimp only; walk1) | (leave1; walk_say "STEP leave1"; (try dsimp only)) | fail "no step"))
      exact ret' (Fr.keep (by assumption)) (N4 _ (.head _)).2.2 (N4 _ (.head _)).1 (by rw [if_neg (by exact List.cons_ne_nil _ _)]; exact hfs')
      exfalso
      rename (¬ (0 : Int) < _) => hbad
      rw [List.length_cons] at hbad
      omega
end Mine

/-! part B13a -/
namespace Mine
open _root_.PySem _root_.PySem.W _root_.PySem.Calls _root_.PyProof.Rows
example : True := by w_top off; trivial

section
variable {prog : Program} {w : World} {A : Around} {E : Value → Shared → Prop} {s : Shared} {h₀ : Heap} {env : Env} {m : PySem.Str → Option Value} {news : Led}
theorem for_dict {Q : Flow → Shared → Prop} {x : PySem.Str} {body : List Stmt} {d : Addr} {kvs : List (PySem.Str × Value)} (hh : A.handled = none) (hd : s.heap.DictOf (PySem.strKind prog w) d kvs) (hlo : (d == sysModules) = false) (hdL : d ≠ env.locals)
    (hna : ∀ p ∈ news, p.1 ≠ d) (F : Fr h₀ env.locals s.heap m) (N : News h₀ env.locals s.heap news) (J : Nat → (PySem.Str → Option Value) → Led → Prop) (hJ : J 0 m news)
    (step : ∀ {i k t m₁ news₁ m₂ h tk own} (T : Flow → Shared → Prop), i < kvs.length → (kvs.map (·.1))[i]? = some k → J i m₁ news₁ → (∀ q ∈ news₁, ∀ p ∈ own, q.1 ≠ p.1) → m₂ x = some (.str k t) → (∀ y, y ≠ x → m₂ y = m₁ y) → Fr h₀ env.locals h m₂ → News h₀ env.locals h (news₁ ++ own) →
      (∀ {h' tk' m' news'}, Fr h₀ env.locals h' m' → News h₀ env.locals h' (news' ++ own) → (∀ p ∈ news', p.1 ∈ news₁.map (·.1) ∨ h.get? p.1 = none) → J (i + 1) m' news' → T .next { s with heap := h', toks := tk' }) →
      (∀ {v s'}, Q (.ret v) s' → T (.ret v) s') →
      wpAny (model prog w) A (execs body env) T E { s with heap := h, toks := tk })
    (done : ∀ {h' tk m' news'}, Fr h₀ env.locals h' m' → News h₀ env.locals h' news' → J kvs.length m' news' → Q .next { s with heap := h', toks := tk }) :
    ForSrc prog w A h₀ env x body Q E (.ref d) s := by
  unfold ForSrc
  obtain ⟨ep, hat⟩ := hd.dictAt
  have hL : env.locals < s.heap.objs.size := by obtain ⟨oL, _, _, hL, _⟩ := F.ns; exact Heap.lt_size hL
  have hnone : s.heap.get? s.heap.objs.size = none := by
    cases q : s.heap.get? s.heap.objs.size with
    | none => rfl
    | some o => exact absurd (Heap.lt_size q) (Nat.lt_irrefl _)
  have hI : s.heap.objs.size ≠ env.locals := fun e => by rw [← e] at hL; exact absurd hL (Nat.lt_irrefl _)
  have hLf : env.locals ∉ [s.heap.objs.size, d] := by simp [Ne.symm hI, Ne.symm hdL]
  have hwr : ∀ b ∈ [s.heap.objs.size], h₀.get? b = none := fun b hb => by
    rw [List.mem_singleton.mp hb]
    exact next_is_new F
  have hfp : ∀ p ∈ news, p.1 ∉ [s.heap.objs.size, d] := fun p hp hq => by
    rcases List.mem_cons.mp hq with e | e
    · have := (N p hp).1; rw [e, hnone] at this; cases this
    · exact hna p hp (List.mem_singleton.mp e)
  have hne : d ≠ s.heap.objs.size := by
    obtain ⟨o, _, ho, _⟩ := id hat
    exact Nat.ne_of_lt (Heap.lt_size ho)
  refine wpAny_pyIter_dict hlo hat ?_
  refine for_walk (Walks.dictKeys hh s.heap.objs.size d hne kvs ep) hLf hwr hfp ⟨⟨_, Heap.get?_push_size _ rfl, rfl, rfl⟩, hat.at' fun o e => Heap.get?_push_of_some _ e⟩ ?_ (F.push _) (N.grown fun _ _ e => Heap.get?_push_of_some _ e) J hJ ?_ (fun F' N' hJ' => done F' N' hJ')
  · rintro i h ⟨⟨o, ho, _⟩, o', _, ho', _⟩ b hb q
    rcases List.mem_cons.mp hb with rfl | hb
    · rw [q] at ho; cases ho
    · rw [List.mem_singleton.mp hb] at q; rw [q] at ho'; cases ho'
  · rintro i v m₁ news₁ m₂ h tk own T hi ⟨k, x', hk, hv⟩ hJ₁ hne hx hm F₁ N₁ nxt rt
    obtain ⟨t, rfl⟩ := Value.isStrOf_shape hv
    exact step T hi (by rw [List.getElem?_map, hk]; rfl) hJ₁ hne hx hm F₁ N₁ nxt rt
end
end Mine

/-! part B13 -/
namespace Mine
open _root_.PySem _root_.PySem.W _root_.PySem.Calls _root_.PyProof.Rows
example : True := by w_top off; trivial

local macro_rules | `(tactic| k_ne) => `(tactic| (refine neN ?_; (try dsimp only); first | with_reducible assumption | exact Ne.symm (by with_reducible assumption) | omega))

local macro_rules | `(tactic| k_all) => `(tactic| first | (refine List.forall_mem_append.mpr ⟨?a, ?b⟩; (case a => k_all); (case b => k_all)) | exact tail_ne (by assumption) (by k_mem) | fail "k_all")

theorem fr_ne {h₀ h : Heap} {L b : Addr} {m : PySem.Str → Option Value} {o : Obj} (F : Fr h₀ L h m) (e : h₀.get? b = some o) : b ≠ L := fun q => by
  have h1 := Heap.lt_size e
  have h2 := F.above
  rw [q] at h1
  exact absurd (Nat.lt_of_lt_of_le h1 h2) (Nat.lt_irrefl _)
theorem news_ne {h₀ h : Heap} {L b : Addr} {news : Led} {o : Obj} (N : News h₀ L h news) (e : h₀.get? b = some o) : ∀ p ∈ news, p.1 ≠ b := fun p hp q => by have := (N p hp).2.2; rw [q, e] at this; cases this
def OneInv (x : PySem.Str) (na : Addr) (o : Obj) (_i : Nat) (m : PySem.Str → Option Value) (news : Led) : Prop := m x = some (.ref na) ∧ news = [(na, o)]
theorem any_mem {ys : List PySem.Str} {k : PySem.Str} (h : k ∈ ys) : (ys.any fun y => y == k) = true := List.any_eq_true.mpr ⟨k, h, by simp⟩
def CheckOk (w : World) (H : Heap) : Prop := ∀ (A : Around) (s : Shared) (R : Result → Shared → Prop) (tl : Led) (v hv bv : Value) (nm : PySem.Str) (hvs bvs : List Value) (ls : List (List PySem.Str)) (d : Addr) (kvs : List (PySem.Str × Value)) (t : Tok),
  Room A 4 60 → H.StaysIn s.heap → LedAt s.heap tl → Mod tl v nm hv bv → Tup tl hv hvs → Tup tl bv bvs → Pairs (Ent tl) (hvs ++ bvs) ls → hvs.length + bvs.length ≤ 1000 →
  s.heap.DictOf (PySem.strKind PySem.Challenge.pw_pq0447_01 w) d kvs → (d == sysModules) = false → (∀ k ∈ kvs.map (·.1), k ∈ ls.flatten) →
  (∀ {h' tk'}, Ext [] s.heap h' → R (.ok (.ret .none)) { s with heap := h', toks := tk' }) →
  codeAny (model PySem.Challenge.pw_pq0447_01 w) A (.call (.ref 104) ⟨[v, .ref d, .int 11 t], []⟩) R s

set_option maxHeartbeats 8000000 in
theorem check_ok {w : World} {lo : List PySem.Str} {mean : ExcName → Option Value} {mg mb : PySem.Str → Option Value} {H : Heap} (G : Root w lo mean mg mb H) (PS : ParNamesSpec w H) : CheckOk w H := by
  intro A s R tl v hv bv nm hvs bvs ls d kvs t hr st hled hmod hth htb hps hlen hdk hlo hall ret
  obtain ⟨handled, dp, fr, gd, un⟩ := A
  obtain rfl : handled = none := hr.handled
  have X := G.X
  have T := G.T
  have hmod' := hmod
  obtain ⟨t0, t1, t2, x4, y6, hm⟩ := hmod'
  obtain ⟨a, na, rfl, ha⟩ := tup_at hled hm
  refine' enterN (K := Mine.hd.heap_39 w.params) (binds := [(PySem.Str.ofString "module", .ref a), (PySem.Str.ofString "given", .ref d), (PySem.Str.ofString "at", .int 11 t)]) [] X T st ?N ?k6 ?k7 ?k8 ?k9 ?kB ?_ ?c2 ?c3 ?c4 ?c5
  case N => intro q hq; cases hq
  ((try (case k6 => k_is)); (try (case k7 => k_is)); (try (case k8 => (have := Room.depth (by assumption); dsimp only at this ⊢; omega))); (try (case k9 => exact BindsTo.of_eq rfl)); (try (case c5 => decide)); (try (case kB => exact locs rfl)); (try (case c2 => exact rfl)); (try (case c3 => exact rfl)); (try (case c4 => exact rfl)))
  intro g' L' h' hg st' F' N' X' T'
  have hg' : g' = s.heap := hg
  have hledg : LedAt g' tl := hg' ▸ hled
  have ret' : ∀ {h' tk'}, (∀ b o, g'.get? b = some o → h'.get? b = some o) → R (.ok (.ret .none)) { s with heap := h', toks := tk' } := fun k => ret (fun b o _ q => k b o (hg' ▸ q))
  clear ret hled
  rw [← hg'] at hdk
  (try dsimp only)
  (try k_fold)
  (repeat' (first | (((with_reducible show wpAny _ _ (call (Value.ref 92) _) _ _ _); k_dflt (refine' parnames_call ?zqPS ?zqR ?zqF ?zqN ?zqst ?zqhled ?zqhm ?zqhh ?zqhb ?zqhp ?zqhl ?_; (case zqPS => assumption); (case zqR => (refine Room.deeper (Room.weaken (by assumption) ?_ ?_) <;> omega)); (case zqF => k_asm); (case zqN => k_asm); (case zqst => assumption); (case zqhled => exact fun p hp => Fr.keep (by k_asm) _ _ ((by assumption : LedAt _ _) p hp)); (case zqhm => assumption); (case zqhh => assumption); (case zqhb => assumption); (case zqhp => assumption); (case zqhl => omega); k_whole); intro zh ztk zr zvs zn zF zN zl zhs; (try k_sweep))) | ((with_reducible show wpAny _ _ (exec (Stmt.For ..) _) _ _ _); ((rename Fr _ _ _ _ => zlF); (with_unfolding_all refine' for_here zlF ?zqk1 ?zqk2 ?zqhE ?zqhs ?_; (case zqk1 => exact rfl); (case zqk2 => exact rfl); (case zqhs => intro _; exact rfl); (case zqhE => first | passes_own | with_unfolding_all passes_own); k_whole))) | (k_unfold; (try dsimp only)) | (k_end; kc_close) | walk1 | (dsimp only; walk1) | (leave1; walk_say "STEP leave1"; (try dsimp only)) | fail "no step"))
  rename Fr _ _ _ _ => F1
  rename News _ _ _ _ => N1
  rename StrsAre _ _ => hs1
  obtain ⟨od, hod, hdd⟩ := Heap.dictOf_iff.mp hdk
  refine for_dict (kvs := kvs) rfl (Heap.dictOf_iff.mpr ⟨od, F1.keep _ _ hod, hdd⟩) hlo (fr_ne F1 hod) (news_ne N1 hod) F1 N1 (OneInv (PySem.Str.ofString "names") _ _) ⟨rfl, rfl⟩ ?_ ?_
  · intro i k t m₁ news₁ m₂ h tk own P' hi hk hJ hne hx hm F₁ N₁ nxt rt
    have X1 := X'.keeps F₁.keep
    have T1 := T'.keeps F₁.keep
    obtain ⟨hn, rfl⟩ := hJ
    have hnames := (hm (PySem.Str.ofString "names") (by decide)).trans hn
    rw [List.cons_append, List.nil_append] at N₁
    have hin := any_mem (hall k (List.mem_of_getElem? hk))
    clear F1 N1 hm hn
    (repeat' (first | ((with_reducible show wpAny _ _ (compareOp CmpOp.NotIn (Value.str _ _) (Value.ref _)) _ _ _); (k_dflt (refine' notin_list_strs ?zql ?zqs ?_; (case zql => exact News.isList (by k_asm) (by k_mem)); (case zqs => assumption); k_whole))) | ((with_reducible show wpAny _ _ (eval (Expr.Name ..) _) _ _ _); (k_dflt (refine' name_any ?zqF ?zqv ?_ ?zqa ?zqb ?zqc; (case zqF => k_asm); (case zqa => exact rfl); (case zqb => exact rfl); (case zqv => first | assumption | fail "no"); (case zqc => decide); k_whole))) | (k_unfold; (try dsimp only)) | (k_end; kc_close) | walk1 | (dsimp only; walk1) | (leave1; walk_say "STEP leave1"; (try dsimp only)) | fail "no step"))
    rename News _ _ _ _ => N5
    exact nxt (by assumption) N5 (fun p hp => .inl (by simpa using congrArg Prod.fst (List.mem_singleton.mp hp))) ⟨hnames, rfl⟩
  · intro h' tk m' news' F' N' hJ
    clear F1 N1
    k_steps
    exact ret' (Fr.keep (by assumption))
end Mine

/-! part E1 -/
namespace Mine
open _root_.PySem _root_.PySem.W _root_.PySem.Calls _root_.PyProof.Rows
example : True := by w_top off; trivial

abbrev excO (C t : Addr) : Obj := { cls := .ref C, data := .fields #[.ref t, .none, .none, .none, .bool false, .none] }
abbrev argsO (vs : List Value) : Obj := { cls := .type "tuple", data := .seq vs.toArray }

section
variable {prog : Program} {w : World} {A : Around} {E : Value → Shared → Prop} {R : Result → Shared → Prop} {h : Heap} {g : Array GenState} {d : Drawn} {t : Nat} {os : OsState}
variable {nm q : Str} {C N : Addr} {bs bm : List Value} {hdct : Bool} {sn : List Str} {sub : List Value} {ab : Bool} {col : Option Bool} {dd : Option Addr} {k0 k1 k2 k3 k5 : Option Value}

theorem ex_check {M : Model} {rest : List Value} {Q : Unit → Shared → Prop} (hC : h.get? C = some (excClassObj nm q C N bs bm hdct sn sub ab col dd k0 k1 k2 k3 k5 "Exception.__new__"))
    (b1 : (Value.ref C :: bm).contains (.type "Exception") = true) (hq : Q () ⟨h, g, d, t, os⟩) : wpAny M A (checkBuiltinCall "Exception.__new__" ⟨.ref C :: rest, []⟩) Q E ⟨h, g, d, t, os⟩ := by
  have F := PySem.F.excBase_Exception
  simp only [checkBuiltinCall, F.newKind, F.newSplit, F.newRow]
  repeat (first | refine wpAny_loadPart_at hC ?_ | (refine wpAny_isSubtype_exc hC ?_; rw [b1]) | refine wpAny_staticBase_exc hC ?_ | refine wpAny_madeBy_exc hC ?_ | simp only [bne_self_eq_false, Bool.false_eq_true, if_false] | wp_step)
  exact hq

theorem ex_new {rest : List Value} (hC : h.get? C = some (excClassObj nm q C N bs bm hdct sn sub ab col dd k0 k1 k2 k3 k5 "Exception.__new__"))
    (b1 : (Value.ref C :: bm).contains (.type "Exception") = true) (b2 : (Value.ref C :: bm).contains (.type "AttributeError") = false) (b3 : (Value.ref C :: bm).contains (.type "NameError") = false)
    (hq : R (.ok (.ret (.ref (h.objs.size + 1)))) ⟨(h.push (argsO rest)).push (excO C h.objs.size), g, d, t, os⟩) (hrest : rest.length ≤ sizeLine) :
    codeAny (model prog w) A (.builtin "Exception.__new__" ⟨.ref C :: rest, []⟩) R ⟨h, g, d, t, os⟩ := by
  have F := PySem.F.excBase_Exception
  have e1 := F.ends
  refine codeAny_builtinAt F.entry ?_
  unfold Builtin.«BaseException.__new__»
  refine PySem.wpAt_bind ?_
  show PySem.wpAt _ _ _ (stack >>= _) _ _ _
  refine PySem.wpAt_bind (PySem.wpAt_stack fun p below => PySem.wpAt_of_wpAny ?_)
  wp_walk
  refine PySem.wpAt_of_wpAny ?_
  rw [F.owner]
  repeat (first | with_reducible refine wpAny_madeHere_exc F.canon hC ?_ | with_reducible refine wpAny_loadPart_at hC ?_ | (with_reducible refine wpAny_isSubtype_exc hC ?_; first | rw [b1] | rw [b2] | rw [b3]) | wp_step)
  show R _ _
  rw [Heap.size_push]
  exact hq

/-- an exception class whose __init__ is a def of the program: the new object, then the def -/
theorem ex_make {rest : List Value} {init : Value} (hC : h.get? C = some (excClassObj nm q C N bs bm hdct sn sub ab col dd k0 k1 k2 k3 k5 "Exception.__new__"))
    (b1 : (Value.ref C :: bm).contains (.type "Exception") = true) (b2 : (Value.ref C :: bm).contains (.type "AttributeError") = false) (b3 : (Value.ref C :: bm).contains (.type "NameError") = false)
    (hi : Looks (model prog w) h (typeLookup (.ref C) "__init__") (some init)) (hb : ∀ self, Looks (model prog w) h (bindSpecial init self) (init, [self])) (hrest : rest.length ≤ sizeLine)
    (hq : codeAny (model prog w) (A.under (.builtin "type.__call__" ⟨.ref C :: rest, []⟩)) (.call init ⟨.ref (h.objs.size + 1) :: rest, []⟩) (InitBack (h.objs.size + 1) R) ⟨(h.push (argsO rest)).push (excO C h.objs.size), g, d, t, os⟩) :
    codeAny (model prog w) A (.call (.ref C) ⟨rest, []⟩) R ⟨h, g, d, t, os⟩ := by
  have f1 := tc_lookup
  have f2 := tc_bind (.ref C)
  have hT : (⟨h, g, d, t, os⟩ : Shared).TypeIs (.ref C) "type" := ⟨_, hC, rfl⟩
  refine codeAny_of_tree ?_
  show wpAny _ _ (callAny (.ref C) _) _ _ _
  repeat (any_goals (first | assumption | with_reducible refine wpAny_loadPart_at hC ?_ | wp_step))
  refine ⟨rfl, ?_⟩
  refine codeAny_call_builtin_at (Code.quiet_builtin _ (by decide +kernel)) entry_typeCall (wpAny_check_type_call_sub hC ?_)
  repeat (first | with_reducible refine wpAny_loadPart_at hC ?_ | with_reducible refine wpAny_madeBy_exc hC ?_ | wp_step)
  refine codeAny_call_builtin_code (Code.quiet_builtin _ PySem.F.excBase_Exception.quiet) (ex_check hC b1 ?_)
  refine ex_new hC b1 b2 b3 ?_ hrest
  show wpAny (model prog w) (A.under (.builtin "type.__call__" ⟨.ref C :: rest, []⟩)) _ _ _ ⟨(h.push (argsO rest)).push (excO C h.objs.size), g, d, t, os⟩
  have kk : ∀ b o, h.get? b = some o → ((h.push (argsO rest)).push (excO C h.objs.size)).get? b = some o := fun b o e => Heap.get?_push_of_some _ (Heap.get?_push_of_some _ e)
  have hx : ((h.push (argsO rest)).push (excO C h.objs.size)).get? (h.objs.size + 1) = some (excO C h.objs.size) := by heap_get
  have hcC : (Value.ref C :: bm).contains (.ref C) = true := by simp
  have i1 := hi.keeps kk
  have l1 := (hb (.ref (h.objs.size + 1))).keeps kk
  have t1 : Looks (model prog w) ((h.push (argsO rest)).push (excO C h.objs.size)) (typeOf (.ref (h.objs.size + 1))) (.ref C) := (Looks.ld hx).andThen .now
  have s1 : Looks (model prog w) ((h.push (argsO rest)).push (excO C h.objs.size)) (isSubtype (.ref C) (.ref C)) true := fun A Q E s k z => by
    obtain ⟨h', g', d', t', os'⟩ := s
    refine wpAny_isSubtype_exc (k _ _ (kk _ _ hC)) ?_
    rw [hcC]; exact z
  unfold isInstance callSpecial? specialOf
  repeat (first | with_reducible refine wpAny_call ?_ | lk)
  refine codeAny_mono hq fun r s' z => ?_
  rcases r with e | (v | _ | _ | _) <;> first | exact z | exact z.elim | skip
  obtain ⟨rfl, z⟩ := z
  exact wpAny_pure (wpAny_pure z)
end
end Mine

/-! part E2 -/
namespace Mine
open _root_.PySem _root_.PySem.W _root_.PySem.Calls _root_.PyProof.Rows Builtin Builtin.ObjectAttr
example : True := by w_top off; trivial

theorem bga_bind (self : Value) : bindSpecial (.builtin "BaseException.__getattribute__") self = pure (.builtin "BaseException.__getattribute__", [self]) := by
  have hop : withoutEnding? "BaseException.__getattribute__" "#opaque" = none := by decide +kernel
  have hdat : withoutEnding? "BaseException.__getattribute__" "#data" = none := by decide +kernel
  have hk : builtinKind "BaseException.__getattribute__" = some .slot := by decide +kernel
  simp only [bindSpecial, typeOf, builtinType, hop, hdat, hk]; rfl
theorem bga_kind : builtinKind "BaseException.__getattribute__" = some .slot := by decide +kernel
theorem bga_split : splitId "BaseException.__getattribute__" = some ("BaseException", "__getattribute__") := by decide +kernel
theorem bga_plain : plainId "BaseException.__getattribute__" = true := by decide +kernel
theorem pass_exc (self : Value) : refuseLoop self "__setattr__" [.type "Exception", .type "BaseException", .type "object"] = pure () := by kernel_rfl

section
variable {prog : Program} {w : World} {A : Around} {E : Value → Shared → Prop} {R : Result → Shared → Prop} {s : Shared} {K : Frag} {x C : Addr} {ox : Obj} {od : Option Obj} {name : PySem.Str} {cd : ClassData}

set_option maxHeartbeats 400000 in
theorem ex_get {expr : Bool} {Q : Value → Shared → Prop} {v : Value} (X : K.In s.heap) (I : InstAt s.heap x ox C od) (hga : findIn K (.ref C) "__getattribute__" = some (some (.builtin "BaseException.__getattribute__"))) (hgh : findIn K (.ref C) "__getattr__" = some none)
    (hbe : mroIn K C (.type "BaseException") = some true)
    (hf : findObj K C od name = some (.value v)) (hh : handedIn v = true) (h : Q v { s with toks := s.toks + 1 }) : wpAny (model prog w) A (getAttr (.ref x) name expr) Q E s := by
  obtain ⟨hp, g, d, t, os⟩ := s
  have L0 := I.type (M := model prog w)
  have L1 := looks_findIn (M := model prog w) X hga
  have L2 := looks_findIn (M := model prog w) X hgh
  have L3 := looks_find (M := model prog w) X I hf
  have L4 : Looks (model prog w) hp (isInstance (.ref x) (.type "BaseException")) true := L0.andThen (looks_mroIn X hbe)
  have e0 : (onTheHeap (.ref C) && (Value.builtin "BaseException.__getattribute__" == Value.builtin "object.__getattribute__")) = false := by rw [show (Value.builtin "BaseException.__getattribute__" == Value.builtin "object.__getattribute__") = false from by decide, Bool.and_false]
  have e1 : (expr && onTheHeap (Value.builtin "BaseException.__getattribute__")) = false := by cases expr <;> rfl
  unfold getAttr getAttrBy
  refine wpAny_bind (wpAny_mkText (wpAny_holding (wpAny_bind (L0.at (wpAny_bind (L1.at ?_))))))
  dsimp only
  rw [e0, if_neg Bool.false_ne_true]
  unfold getAttrByItsOwn
  refine wpAny_bind (L2.at (wpAny_bind (wpAny_attempt (wpAny_holding ?_))))
  unfold callGetattribute
  rw [e1, if_neg Bool.false_ne_true]
  unfold boundAndCalled
  refine wpAny_bind (wpAny_of_eq (bga_bind _) (wpAny_call ?_))
  refine codeAny_call_builtin bga_plain PySem.F.entry_bexc_ga (@check_slot (model prog w) _ _ _ "BaseException.__getattribute__" "BaseException" "__getattribute__" (.ref x) [.str name t] [] _ bga_kind bga_split L4 (PySem.F.args_bexc_ga _ _) ?_)

  unfold Builtin.«object.__getattribute__»
  have e3 : slotArgs "__getattribute__" 1 ⟨[.ref x, .str name t], []⟩ = pure (.ref x, [.str name t]) := by rfl
  refine wpAny_bind (wpAny_of_eq e3 ?_)
  dsimp only
  refine wpAny_bind (wpAny_of_eq (show attrName (.str name t) = pure name from rfl) (wpAny_bind (L0.at (wpAny_bind (L3.at ?_)))))
  refine wpAny_pure ?_
  show wpAny _ _ (handedOut v) _ _ _
  rw [handedOut_of hh]; exact wpAny_pure h

theorem ex_osa {tk : Tok} {v : Value} (X : K.In s.heap) (I : InstAt s.heap x ox C od) (hc : clsIn K C = some cd) (hne : cd.mro.isEmpty = false) (hob : cd.mro.contains (.type "object") = true)
    (pass : refuseLoop (.ref x) "__setattr__" cd.mro = pure ()) (hf : findIn K (.ref C) name = some none)
    (h : wpAny (model prog w) A.in1 (storeInOwnDict (.ref x) (.ref C) (.str name tk) name v false)
      (fun fin s' => match fin with | .done f => R (.ok f) s' | .again c' => c'.quiet = true ∧ codeAny (model prog w) A c' R s') (fun e s' => R (.error e) s') s) :
    codeAny (model prog w) A (.call (.builtin "object.__setattr__") ⟨[.ref x, .str name tk, v], []⟩) R s := by
  have SF := PySem.F.store_object
  have sub : Looks (model prog w) s.heap (isInstance (.ref x) (.type "object")) true := I.type.andThen (looks_mroIn X (by unfold mroIn; rw [hc, Option.bind_some, if_neg (by rw [hne]; decide), hob]))
  refine codeAny_call_builtin SF.slot.plain SF.entry (@check_slot (model prog w) _ _ s "object.__setattr__" "object" "__setattr__" (.ref x) [.str name tk, v] [] _ SF.kind SF.split sub (SF.args (.ref x) (.str name tk) v) ?_)
  have hm : Looks (model prog w) s.heap (mroOf (.ref C)) cd.mro := (looks_clsIn X hc).andThen .now
  rw [osa_eq, refuse_eq]
  refine wpAny_bind (wpAny_bind (I.type.here (wpAny_bind (hm.here ?_))))
  rw [pass]
  refine wpAny_pure (wpAny_bind (I.type.here (wpAny_bind ((looks_findIn X hf).here (wpAny_bind (wpAny_pure ?_))))))
  exact h

/-- the first name stored upon such an object: its dict is made -/
theorem ex_set0 {v : Value} {h₀ : Heap} {L : Addr} {m : PySem.Str → Option Value} {news : Led} {Q : Unit → Shared → Prop} {vs : Array Value} (F : Fr h₀ L s.heap m) (N : News h₀ L s.heap ((x, { cls := .ref C, data := .fields vs }) :: news)) (X : K.In h₀)
    (hsa : findIn K (.ref C) "__setattr__" = some (some (.builtin "object.__setattr__")))
    (hc : clsIn K C = some cd) (hne : cd.mro.isEmpty = false) (hob : cd.mro.contains (.type "object") = true) (hdc : cd.hasDict = true) (pass : ∀ self, refuseLoop self "__setattr__" cd.mro = pure ()) (hf : findIn K (.ref C) name = some none) (hnx : ∀ p ∈ news, p.1 ≠ x)
    (h : ∀ h' dx, Fr h₀ L h' m → News h₀ L h' ((x, { cls := .ref C, dict := some dx, data := .fields vs }) :: (dx, dictOf [⟨PyData.keyHash w.params name, .str name (s.toks + 1), v⟩] 1) :: news) → x < dx → (∀ p ∈ news, p.1 < dx) → Q () { s with heap := h', toks := s.toks + 2 }) :
    wpAny (model prog w) A (setAttr (.ref x) name v) Q E s := by
  have X1 := X.keeps F.keep
  have hx := (N _ (.head _)).1
  have I : InstAt s.heap x { cls := .ref C, data := .fields vs } C none := ⟨hx, rfl, rfl, trivial⟩
  refine set_plain X1 I hsa (ex_osa (s := { s with toks := s.toks + 1 }) X1 I hc hne hob (pass _) hf ?_)
  obtain ⟨hp, g, d, tk, os⟩ := s
  have Lc := looks_clsIn (M := model prog w) X1 hc
  unfold storeInOwnDict
  refine wpAny_bind (wpAny_of_eq (show ownStreamTells (.ref x) (.ref C) = pure () from rfl) ?_)
  dsimp only
  rw [if_neg (show ¬ ((Value.ref C == Value.type "module") = true) from by rw [show (Value.ref C == Value.type "module") = false from rfl]; exact Bool.false_ne_true)]
  unfold ownDictForStores instanceDict
  dsimp only
  refine wpAny_bind (wpAny_bind (wpAny_loadPart hx ?_))
  dsimp only
  refine wpAny_bind (Lc.at ?_)
  rw [hdc]
  dsimp only
  rw [if_neg (by decide), if_neg (show ¬ ((!true || !typeHasDict (Value.ref C)) = true) from by simp [typeHasDict])]
  have hlt : x < hp.objs.size := Heap.lt_size hx
  have N1 := N.push F emptyDict
  have F1 := F.push (o := emptyDict)
  obtain ⟨F2, N2⟩ := news_upd (pre := [(hp.objs.size, emptyDict)]) (post := news) (d := x) (f := fun o => { o with dict := some hp.objs.size }) F1 N1 (fun p hp' => by
    rw [List.mem_singleton.mp hp']
    exact Nat.ne_of_gt hlt) hnx rfl rfl
  have hx1 := (N1 _ (.tail _ (.head _))).1
  have hsz : ∀ p ∈ news, p.1 < hp.objs.size := fun p q => Heap.lt_size (N p (.tail _ q)).1
  obtain ⟨F3, N3⟩ := news_upd (pre := []) (post := (x, { cls := .ref C, dict := some hp.objs.size, data := .fields vs }) :: news) (d := hp.objs.size) (f := Obj.putName name (PyData.keyHash w.params name) (.str name (tk + 1)) v) (o' := dictOf [⟨PyData.keyHash w.params name, .str name (tk + 1), v⟩] 1) F2 N2
    (fun p q => by cases q) (fun p q => by
      rcases List.mem_cons.mp q with rfl | q
      · exact Nat.ne_of_lt hlt
      · exact Nat.ne_of_lt (hsz p q)) (by rw [putName_dict]; rfl) rfl
  refine wpAny_bind (wpAny_alloc (wpAny_bind (wpAny_update hx1 (wpAny_of_eq (show dictMade (.ref C) x hp.objs.size = pure (some hp.objs.size) from rfl) ?_))))
  dsimp only
  unfold storeInDict newKeyGuard
  refine wpAny_bind (wpAny_pure (wpAny_bind ?_))
  unfold nsSet
  have D := (N2 (hp.objs.size, emptyDict) (.head _)).1
  have D' := (N3 _ (.head _)).1
  refine wpAny_bind (wpAny_bind (wpAny_askSetting (wpAny_pure (wpAny_bind (wpAny_mkText (wpAny_bind (wpAny_loadPart D ?_)))))))
  dsimp only
  rw [aRefKeyMayBeTheName_at, if_neg (by simp)]
  refine wpAny_updatePart D ?_
  refine wpAny_bind (wpAny_lookBehind D' (pastItsLine_dict (by rw [List.size_toArray, sizeLine_eq]; exact Nat.le_of_ble_eq_true rfl)) ?_)
  refine wpAny_pure (h _ _ F3 ?_ hlt hsz)
  intro p q
  rcases List.mem_cons.mp q with rfl | q
  · exact N3 _ (.tail _ (.head _))
  · rcases List.mem_cons.mp q with rfl | q
    · exact N3 _ (.head _)
    · exact N3 _ (.tail _ (.tail _ q))

/-- a further new name -/
theorem ex_set1 {v : Value} {h₀ : Heap} {L dx : Addr} {m : PySem.Str → Option Value} {news : Led} {es : List DictEntry} {n : Nat} {Q : Unit → Shared → Prop} {vs : Array Value} (F : Fr h₀ L s.heap m)
    (N : News h₀ L s.heap ((x, { cls := .ref C, dict := some dx, data := .fields vs }) :: (dx, dictOf es n) :: news)) (X : K.In h₀)
    (hsa : findIn K (.ref C) "__setattr__" = some (some (.builtin "object.__setattr__")))
    (hc : clsIn K C = some cd) (hne : cd.mro.isEmpty = false) (hob : cd.mro.contains (.type "object") = true) (hdc : cd.hasDict = true) (pass : ∀ self, refuseLoop self "__setattr__" cd.mro = pure ()) (hf : findIn K (.ref C) name = some none)
    (hlt : @LT.lt Nat _ x dx) (hnd : ∀ p ∈ news, @LT.lt Nat _ p.1 dx) (hk : es.any (·.refKey) = false) (hz : es.length ≤ 100)
    (h : ∀ h', Fr h₀ L h' m → News h₀ L h' ((x, { cls := .ref C, dict := some dx, data := .fields vs }) :: (dx, dictOf (putL name (PyData.keyHash w.params name) (.str name (s.toks + 1)) v es) (putN name es n)) :: news) → Q () { s with heap := h', toks := s.toks + 2 }) :
    wpAny (model prog w) A (setAttr (.ref x) name v) Q E s := by
  have X1 := X.keeps F.keep
  have hx := (N _ (.head _)).1
  have hd := (N _ (.tail _ (.head _))).1
  have I : InstAt s.heap x { cls := .ref C, dict := some dx, data := .fields vs } C (some (dictOf es n)) := ⟨hx, rfl, rfl, hd⟩
  refine set_plain X1 I hsa (ex_osa (s := { s with toks := s.toks + 1 }) X1 I hc hne hob (pass _) hf ?_)
  obtain ⟨hp, g, d, tk, os⟩ := s
  have Lc := looks_clsIn (M := model prog w) X1 hc
  unfold storeInOwnDict
  refine wpAny_bind (wpAny_of_eq (show ownStreamTells (.ref x) (.ref C) = pure () from rfl) ?_)
  dsimp only
  rw [if_neg (show ¬ ((Value.ref C == Value.type "module") = true) from by rw [show (Value.ref C == Value.type "module") = false from rfl]; exact Bool.false_ne_true)]
  unfold ownDictForStores instanceDict
  dsimp only
  refine wpAny_bind (wpAny_bind (wpAny_loadPart hx ?_))
  dsimp only
  refine wpAny_bind (Lc.at ?_)
  rw [hdc]
  dsimp only
  rw [if_neg (by decide)]
  obtain ⟨F3, N3⟩ := news_upd (pre := [(x, { cls := .ref C, dict := some dx, data := .fields vs })]) (post := news) (d := dx) (f := Obj.putName name (PyData.keyHash w.params name) (.str name (tk + 1)) v) (o' := dictOf (putL name (PyData.keyHash w.params name) (.str name (tk + 1)) v es) (putN name es n)) F N
    (fun p q => by rw [List.mem_singleton.mp q]; exact Nat.ne_of_lt hlt) (fun p q => Nat.ne_of_lt (hnd p q)) (by rw [putName_dict]) rfl
  have D' := (N3 _ (.tail _ (.head _))).1
  refine wpAny_pure ?_
  dsimp only
  unfold storeInDict newKeyGuard
  refine wpAny_bind (wpAny_pure (wpAny_bind ?_))
  unfold nsSet
  refine wpAny_bind (wpAny_bind (wpAny_askSetting (wpAny_pure (wpAny_bind (wpAny_mkText (wpAny_bind (wpAny_loadPart hd ?_)))))))
  dsimp only
  rw [aRefKeyMayBeTheName_at, if_neg (by simp only [List.any_toArray, hk, Bool.and_false]; exact Bool.false_ne_true)]
  refine wpAny_updatePart hd ?_
  have hl : ∀ (l : List DictEntry), (putL name (PyData.keyHash w.params name) (.str name (tk + 1)) v l).length ≤ l.length + 1 := by
    intro l
    induction l with
    | nil => exact Nat.le_refl _
    | cons e r ih =>
      unfold putL
      split
      · rw [List.length_cons, List.length_cons]; omega
      · rw [List.length_cons, List.length_cons]; omega
  have hl' := hl es
  refine wpAny_bind (wpAny_lookBehind D' (pastItsLine_dict (by rw [List.size_toArray, sizeLine_eq]; omega)) ?_)
  exact wpAny_pure (h _ F3 N3)
end
end Mine

/-! part E3 -/
namespace Mine
open _root_.PySem _root_.PySem.W _root_.PySem.Calls _root_.PyProof.Rows Builtin Builtin.ObjectAttr
example : True := by w_top off; trivial

local macro_rules | `(tactic| k_ne) => `(tactic| (refine neN ?_; (try dsimp only); first | with_reducible assumption | exact Ne.symm (by with_reducible assumption) | omega))

abbrev excD (C t dx : Addr) : Obj := { cls := .ref C, dict := some dx, data := .fields #[.ref t, .none, .none, .none, .bool false, .none] }
/-- a class of the program's errors -/
def ErrCls (C : Addr) : Prop := C = 32 ∨ C = 45

def strK (n : PySem.Str) (k : Nat) : Value := .str n k
def InitBinds (w : World) (s : Shared) (x : Addr) (args : List Value) (a b c : Value) : Prop := ∀ oc od fd osl, (Mine.hd.heap_39 w.params).lookup 29 = some ⟨oc, od, .func fd, osl⟩ →
  BindsTo s fd ⟨.ref x :: args, []⟩ [(PySem.Str.ofString "self", .ref x), (PySem.Str.ofString "kind", a), (PySem.Str.ofString "at", b), (PySem.Str.ofString "detail", c)]
abbrev initDict (w : World) (k1 k2 k3 : Nat) (a b c : Value) : Obj := dictOf [⟨PyData.keyHash w.params (PySem.Str.ofString "kind"), .str (PySem.Str.ofString "kind") k1, a⟩, ⟨PyData.keyHash w.params (PySem.Str.ofString "at"), .str (PySem.Str.ofString "at") k2, b⟩, ⟨PyData.keyHash w.params (PySem.Str.ofString "detail"), .str (PySem.Str.ofString "detail") k3, c⟩] 3
def InitSpec (w : World) (H : Heap) : Prop := ∀ (A : Around) (s : Shared) (R : Result → Shared → Prop) (C x t : Addr) (args : List Value) (a b c : Value),
  InitBinds w s x args a b c → ErrCls C → Room A 2 40 → H.StaysIn s.heap → H.get? x = none → s.heap.get? x = some (excO C t) →
  (∀ {h' tk' dx k1 k2 k3}, Ext [x] s.heap h' → s.heap.get? dx = none → h'.get? x = some (excD C t dx) → h'.get? dx = some (initDict w k1 k2 k3 a b c) → R (.ok (.ret .none)) { s with heap := h', toks := tk' }) →
  codeAny (model PySem.Challenge.pw_pq0447_01 w) A (.call (.ref 29) ⟨.ref x :: args, []⟩) R s

theorem lk_func {K : Frag} {a : Addr} {P : FuncData → Prop} {oc od fd osl oc' od' fd' osl'} (e : K.lookup a = some ⟨oc, od, .func fd, osl⟩) (e2 : K.lookup a = some ⟨oc', od', .func fd', osl'⟩) (h : P fd') : P fd := by
  rw [e] at e2
  cases e2
  exact h
theorem init_binds3 {w : World} {s : Shared} {x : Addr} {a b c : Value} (X : (Mine.hd.heap_39 w.params).In s.heap) : InitBinds w s x [a, b, c] a b c := by
  intro oc od fd osl e
  refine' lk_func (P := fun fd => BindsTo s fd _ _) e ?e2 ?_
  case e2 => k_is
  exact BindsTo.of_defaults (T := 22) rfl (X _ _ (by k_is)) rfl rfl rfl
theorem init_binds1 {w : World} {s : Shared} {x : Addr} {a : Value} (X : (Mine.hd.heap_39 w.params).In s.heap) : InitBinds w s x [a] a (.int (-1) 202) (.str (PySem.Str.ofString "") 203) := by
  intro oc od fd osl e
  refine' lk_func (P := fun fd => BindsTo s fd _ _) e ?e2 ?_
  case e2 => k_is
  exact BindsTo.of_defaults (T := 22) rfl (X _ _ (by k_is)) rfl rfl rfl

structure ErrFacts (K : Frag) (C : Addr) (cd : ClassData) : Prop where
  sa : findIn K (.ref C) "__setattr__" = some (some (.builtin "object.__setattr__"))
  ga : findIn K (.ref C) "__getattribute__" = some (some (.builtin "BaseException.__getattribute__"))
  gh : findIn K (.ref C) "__getattr__" = some none
  be : mroIn K C (.type "BaseException") = some true
  cls : clsIn K C = some cd
  ne : cd.mro.isEmpty = false
  ob : cd.mro.contains (.type "object") = true
  dc : cd.hasDict = true
  pass : ∀ self, refuseLoop self "__setattr__" cd.mro = pure ()
  kind : findIn K (.ref C) (PySem.Str.ofString "kind") = some none
  at_ : findIn K (.ref C) (PySem.Str.ofString "at") = some none
  detail : findIn K (.ref C) (PySem.Str.ofString "detail") = some none
  init : findIn K (.ref C) "__init__" = some (some (.ref 29))
theorem err_facts {ps : Params} {C : Addr} (h : ErrCls C) : ∃ cd, ErrFacts (Mine.hd.heap_39 ps) C cd := by
  rcases h with rfl | rfl
  · refine' ⟨_, ?z1, ?z2, ?z3, ?z4, ?z5, ?z6, ?z7, ?z8, ?z9, ?z10, ?z11, ?z12, ?z13⟩
    case z5 => k_is
    case z9 => exact fun self => by rw [refuseLoop_ref]; exact pass_exc self
    all_goals first | k_is | decide +kernel
  · refine' ⟨_, ?y1, ?y2, ?y3, ?y4, ?y5, ?y6, ?y7, ?y8, ?y9, ?y10, ?y11, ?y12, ?y13⟩
    case y5 => k_is
    case y9 => exact fun self => by rw [refuseLoop_ref, refuseLoop_ref]; exact pass_exc self
    all_goals first | k_is | decide +kernel

theorem none_of_hide {g h : Heap} {as : List Addr} {b : Addr} (hg : g = hideAll h as) (e : g.get? b = none) (n : b ∉ as) : h.get? b = none := by
  cases q : h.get? b with
  | none => rfl
  | some o => rw [hg, hideAll_get as q n] at e; cases e
set_option maxHeartbeats 8000000 in
theorem init_spec {w : World} {lo : List PySem.Str} {mean : ExcName → Option Value} {mg mb : PySem.Str → Option Value} {H : Heap} (G : Root w lo mean mg mb H) : InitSpec w H := by
  intro A s R C x t args a b c hbt hC hr st h0 h1 ret
  obtain ⟨handled, dp, fr, gd, un⟩ := A
  obtain rfl : handled = none := hr.handled
  have X := G.X
  have T := G.T
  refine' enterN (K := Mine.hd.heap_39 w.params) (binds := [(PySem.Str.ofString "self", .ref x), (PySem.Str.ofString "kind", a), (PySem.Str.ofString "at", b), (PySem.Str.ofString "detail", c)]) [(x, excO C t)] X T st ?N ?k6 ?k7 ?k8 ?k9 ?kB ?_ ?c2 ?c3 ?c4 ?c5
  case N => intro q hq; rw [List.mem_singleton] at hq; subst hq; exact ⟨h1, h0⟩
  case k6 => k_is
  case k9 => exact hbt _ _ _ _ (by k_is)
  ((try (case k6 => k_is)); (try (case k7 => k_is)); (try (case k8 => (have := Room.depth (by assumption); dsimp only at this ⊢; omega))); (try (case k9 => exact BindsTo.of_eq rfl)); (try (case c5 => decide)); (try (case kB => exact locs rfl)); (try (case c2 => exact rfl)); (try (case c3 => exact rfl)); (try (case c4 => exact rfl)))
  intro g' L' h' hg st' F' N' X' T'
  (try dsimp only)
  (try k_fold)
  obtain ⟨cd, EF⟩ := err_facts (ps := w.params) hC
  (repeat' (first | ((with_reducible show wpAny _ _ (setAttr (Value.ref _) _ _) _ _ _); ((rename ErrFacts _ _ _ => eF); k_dflt (first | (refine' ex_set0 ?zqF ?zqN ?zqX eF.sa eF.cls eF.ne eF.ob eF.dc eF.pass ?zqhf ?zqhn ?_; (case zqF => k_asm); (case zqN => k_asm); (case zqX => k_asm); (case zqhf => first | exact eF.kind | exact eF.at_ | exact eF.detail); (case zqhn => intro p q; cases q); intro zh dx zF zN zl1 l2; (try k_sweep)) | (refine' ex_set1 ?zqF ?zqN ?zqX eF.sa eF.cls eF.ne eF.ob eF.dc eF.pass ?zqhf ?zqhlt ?zqhn ?zqhk ?zqhz ?_; (case zqF => k_asm); (case zqN => k_asm); (case zqX => k_asm); (case zqhf => first | exact eF.kind | exact eF.at_ | exact eF.detail); (case zqhlt => assumption); (case zqhn => intro p q; cases q); (case zqhk => exact rfl); (case zqhz => exact Nat.le_of_ble_eq_true rfl); intro zh zF zN; (try k_sweep)) | fail "no set"))) | (k_unfold; (try dsimp only)) | (k_end; kc_close) | walk1 | (dsimp only; walk1) | (leave1; walk_say "STEP leave1"; (try dsimp only)) | fail "no step"))
  rename Fr _ _ _ _ => F9
  rename News _ _ _ _ => N9
  have hdx := N9 _ (.tail _ (.head _))
  have hx9 := N9 _ (.head _)
  refine ret (Ext.of_fr hg F9) ?_ hx9.1 hdx.1
  exact none_of_hide hg hdx.2.2 (fun q => by
    have h1 := hx9.1
    have h2 := hdx.1
    rw [List.mem_singleton.mp q, h1] at h2
    cases h2)
end Mine

/-! part E4 -/
namespace Mine
open _root_.PySem _root_.PySem.W _root_.PySem.Calls _root_.PyProof.Rows Builtin Builtin.ObjectAttr
example : True := by w_top off; trivial

theorem room_make {A : Around} {C : Addr} {args : List Value} {n u : Nat} (h : Room A (n + 1) (u + 1)) : Room (A.under (.builtin "type.__call__" ⟨.ref C :: args, []⟩)) n u := by
  refine ⟨?_, ?_, ?_⟩
  · exact h.handled
  · have := h.depth; rw [depth_under_make]; omega
  · have := h.units; rw [units_under_make]; omega

structure ErrObj (K : Frag) (C : Addr) : Prop where
  obj : ∃ nm q N bs bm hdct sn sub ab col dd k0 k1 k2 k3 k5, K.lookup C = some (excClassObj nm q C N bs bm hdct sn sub ab col dd k0 k1 k2 k3 k5 "Exception.__new__") ∧
    (Value.ref C :: bm).contains (.type "Exception") = true ∧ (Value.ref C :: bm).contains (.type "BaseException") = true ∧ (Value.ref C :: bm).contains (.type "AttributeError") = false ∧ (Value.ref C :: bm).contains (.type "NameError") = false ∧ (Value.ref C :: bm).contains (.ref 32) = true
theorem err_mk {K : Frag} {nm q C N bs bm hdct sn sub ab col dd k0 k1 k2 k3 k5} (hl : K.lookup C = some (excClassObj nm q C N bs bm hdct sn sub ab col dd k0 k1 k2 k3 k5 "Exception.__new__"))
    (h : (Value.ref C :: bm).contains (.type "Exception") = true ∧ (Value.ref C :: bm).contains (.type "BaseException") = true ∧ (Value.ref C :: bm).contains (.type "AttributeError") = false ∧ (Value.ref C :: bm).contains (.type "NameError") = false ∧ (Value.ref C :: bm).contains (.ref 32) = true) : ErrObj K C :=
  ⟨_, _, _, _, _, _, _, _, _, _, _, _, _, _, _, _, hl, h⟩
theorem err_obj {ps : Params} {C : Addr} (h : ErrCls C) : ErrObj (Mine.hd.heap_39 ps) C := by
  rcases h with rfl | rfl
  · refine' err_mk ?z1 ?z2
    case z1 => k_is
    case z2 => decide +kernel
  · refine' err_mk ?y1 ?y2
    case y1 => k_is
    case y2 => decide +kernel

def MakeSpec (w : World) (H : Heap) : Prop := ∀ (A : Around) (s : Shared) (R : Result → Shared → Prop) (C : Addr) (args : List Value) (a b c : Value),
  (∀ s x, (Mine.hd.heap_39 w.params).In s.heap → InitBinds w s x args a b c) → args.length ≤ 10 → ErrCls C → Room A 3 50 → H.StaysIn s.heap →
  (∀ {h' tk' e t dx k1 k2 k3}, Ext [] s.heap h' → s.heap.get? e = none → s.heap.get? dx = none → h'.get? e = some (excD C t dx) → h'.get? dx = some (initDict w k1 k2 k3 a b c) → R (.ok (.ret (.ref e))) { s with heap := h', toks := tk' }) →
  codeAny (model PySem.Challenge.pw_pq0447_01 w) A (.call (.ref C) ⟨args, []⟩) R s

theorem make_spec {w : World} {lo : List PySem.Str} {mean : ExcName → Option Value} {mg mb : PySem.Str → Option Value} {H : Heap} (G : Root w lo mean mg mb H) (IS : InitSpec w H) : MakeSpec w H := by
  intro A s R C args a b c hbt hlen hC hr st ret
  have X := G.X.keeps st
  obtain ⟨cd, EF⟩ := err_facts (ps := w.params) hC
  obtain ⟨nm, q, N, bs, bm, hdct, sn, sub, ab, col, dd, k0, k1, k2, k3, k5, hl, b1, b6, b2, b3, b5⟩ := (err_obj (ps := w.params) hC).obj
  obtain ⟨h, g, d, t, os⟩ := s
  have hf : typeIn (Mine.hd.heap_39 w.params) (.ref 29) = some (.type "function") := by k_is
  refine ex_make (X _ _ hl) b1 b2 b3 (looks_findIn X EF.init) (fun self => bind_fn X self hf) (by rw [sizeLine_eq]; omega) ?_
  have kk : ∀ b o, h.get? b = some o → ((h.push (argsO args)).push (excO C h.objs.size)).get? b = some o := fun b o e => Heap.get?_push_of_some _ (Heap.get?_push_of_some _ e)
  have nw : ∀ b, h.objs.size ≤ b → h.get? b = none := fun b hb => Heap.get?_none_of_le hb
  have hx : ((h.push (argsO args)).push (excO C h.objs.size)).get? (h.objs.size + 1) = some (excO C h.objs.size) := by heap_get
  refine IS _ _ _ C (h.objs.size + 1) h.objs.size args a b c (hbt _ _ (X.keeps kk)) hC (room_make (hr.weaken (by omega) (by omega))) (fun b o e => kk b o (st b o e)) ?_ hx ?_
  · cases q : H.get? (h.objs.size + 1) with
    | none => rfl
    | some o => have := st _ _ q; rw [nw _ (by omega)] at this; cases this
  · intro h' tk' dx k1 k2 k3 x e0 e1 e2
    refine ⟨rfl, ret (fun b o _ e => x b o (fun z => ?_) (kk b o e)) (nw _ (by omega)) ?_ e1 e2⟩
    · rw [List.mem_singleton.mp z, nw _ (by omega)] at e; cases e
    · cases q : h.get? dx with
      | none => rfl
      | some o => have := kk _ _ q; rw [e0] at this; cases this
end Mine

/-! part E5 -/
namespace Mine
open _root_.PySem _root_.PySem.W _root_.PySem.Calls _root_.PyProof.Rows Builtin Builtin.ObjectAttr
example : True := by w_top off; trivial

section
variable {M : Model} {A : Around} {E : Value → Shared → Prop} {env : Env}
variable {nm q : Str} {C N : Addr} {bs bm : List Value} {hdct : Bool} {sn : List Str} {sub : List Value} {ab : Bool} {col : Option Bool} {dd : Option Addr} {k0 k1 k2 k3 k5 : Option Value} {newId : String}

theorem raise_obj {s : Shared} {x : Sem Value} {Q : Flow → Shared → Prop} (hcB : (Value.ref C :: bm).contains (.type "BaseException") = true) (hh : A.handled = none)
    (h : wpAny M A x (fun v s₁ => ∃ e t dx, v = .ref e ∧ s₁.heap.get? C = some (excClassObj nm q C N bs bm hdct sn sub ab col dd k0 k1 k2 k3 k5 newId) ∧ s₁.heap.get? e = some (excD C t dx) ∧ E (.ref e) s₁) E s) :
    wpAny M A (raiseStmt env (some x) none) Q E s := by
  unfold raiseStmt
  refine wpAny_bind (wpAny_mono h (fun v s₁ h₁ => ?_) fun _ _ x => x)
  obtain ⟨e, t, dx, rfl, hC, he, hE⟩ := h₁
  obtain ⟨hp, g, d, tk, os⟩ := s₁
  repeat (first | with_reducible refine wpAny_loadPart_at he ?_ | with_reducible refine wpAny_loadPart_at hC ?_ | (with_reducible refine wpAny_isSubtype_exc hC ?_; rw [hcB]) | wp_step)
  exact wpAny_raiseNew_none hh hE
end
section
variable {prog : Program} {w : World} {A : Around} {E : Value → Shared → Prop} {s : Shared} {env : Env}
variable {nm q : Str} {C N : Addr} {bs bm : List Value} {hdct : Bool} {sn : List Str} {sub : List Value} {ab : Bool} {col : Option Bool} {dd : Option Addr} {k0 k1 k2 k3 k5 : Option Value} {newId : String}
theorem raise_call {x : Str} {np cpos pos : Pos} {args : List Expr} {Q : Flow → Shared → Prop} (hcB : (Value.ref C :: bm).contains (.type "BaseException") = true)
    (hh : A.handled = none) (hplain : (backTo cpos (starEach args env)).any (·.1) = false)
    (h : wpAny (model prog w) A (eval (.Name x np) env) (fun f s₁ => f = .ref C ∧ wpAny (model prog w) A (evalArgs (.ref C) true (backTo cpos (starEach args env)) [])
      (fun a s₂ => a.kw = [] ∧ s₂.heap.get? C = some (excClassObj nm q C N bs bm hdct sn sub ab col dd k0 k1 k2 k3 k5 newId) ∧
        wpAny (model prog w) A (call (.ref C) a.pos) (fun v s₃ => ∃ e t dx, v = .ref e ∧ s₃.heap.get? C = some (excClassObj nm q C N bs bm hdct sn sub ab col dd k0 k1 k2 k3 k5 newId) ∧ s₃.heap.get? e = some (excD C t dx) ∧ E (.ref e) s₃) E s₂) E s₁) E s) :
    wpAny (model prog w) A (exec (.Raise (some (.Call (.Name x np) args [] cpos)) none pos) env) Q E s := by
  rw [arm_exec_Raise]
  simp only [evalOpt, Option.map]
  refine wpAny_bind (wpAny_standAt (raise_obj (C := C) (nm := nm) (q := q) (N := N) (bs := bs) (bm := bm) (hdct := hdct) (sn := sn) (sub := sub) (ab := ab) (col := col) (dd := dd) (k0 := k0) (k1 := k1) (k2 := k2) (k3 := k3) (k5 := k5) (newId := newId) hcB hh (wpAny_bind (wpAny_mono (wpAny_Call_ofName (wpAny_mono h (fun f s₁ h₁ => ?_) fun _ _ x => x)) (fun v s₃ h₃ => wpAny_bind (wpAny_standAt (wpAny_pure h₃))) fun _ _ x => x))))
  obtain ⟨rfl, h₁⟩ := h₁
  unfold callWith
  refine wpAny_bind (wpAny_holding (wpAny_mono h₁ (fun a s₂ h₂ => wpAny_bind (wpAny_standAt ?_)) fun _ _ x => x))
  obtain ⟨apos, akw⟩ := a
  obtain ⟨hkw, hC, h₂⟩ := h₂
  obtain rfl : akw = [] := hkw
  obtain ⟨hp, g, d, tk, os⟩ := s₂
  simp only [hplain]
  refine wpAny_bind (wpAny_keeperOf_exc hC ?_)
  refine wpAny_bind (wpAny_mono h₂ (fun v s₃ h₃ => wpAny_bind (wpAny_holding (wpAny_point (wpAny_pure h₃)))) fun _ _ x => x)
end
end Mine

/-! part E6 -/
namespace Mine
open _root_.PySem _root_.PySem.W _root_.PySem.Calls _root_.PyProof.Rows Builtin Builtin.ObjectAttr
example : True := by w_top off; trivial

/-- e is an object of C with its dict at dx, some of its fields; its newest traceback entry says fl -/
def ErrAt (h base : Heap) (e C dx : Addr) (fl : Value) : Prop :=
  ∃ oe vs T oT ts, h.get? e = some oe ∧ (oe.cls = .ref C ∧ oe.dict = some dx) ∧ oe.data = .fields vs ∧ (vs[1]? = some (.ref T) ∧ vs[2]? = some .none) ∧ base.get? T = none ∧ @Ne Nat T e ∧ h.get? T = some oT ∧ oT.data = .fields ts ∧ ts[3]? = some fl
/-- what an exception in flight may have done: the base stands, of the rest the slots alone may have changed, but for records -/
structure Flown (base : Heap) (l : List Env) (h h' : Heap) : Prop where
  stays : base.StaysIn h'
  frames : h'.FunFrames base l
  up : h.UpToSlots h'
theorem Flown.trans {base : Heap} {l : List Env} {h h' h'' : Heap} (x : Flown base l h h') (y : Flown base l h' h'') : Flown base l h h'' := ⟨y.stays, y.frames, x.up.trans y.up⟩

section
variable {M : Model} {A : Around} {E : Value → Shared → Prop} {s : Shared} {base : Heap} {env : Env} {outer : List Env} {L e C dx : Addr} {Q : Unit → Shared → Prop}

theorem err_entry {oe : Obj} {vs : Array Value} {head : Value} {hadNext : Bool} (hfr : A.frames = some (env :: outer)) (hl : s.heap.FunFrames base (env :: outer)) (hf : env.frame = some L)
    (hkb : base.StaysIn s.heap) (hen : base.get? e = none) (he : s.heap.get? e = some oe) (hc : oe.cls = .ref C ∧ oe.dict = some dx) (hd : oe.data = .fields vs) (hsz : 1 < vs.size) (h2 : vs[2]? = some .none)
    (h : ∀ h', Flown base (env :: outer) s.heap h' → ErrAt h' base e C dx (rawInt L) → Q () { s with heap := h' }) :
    wpAny M A (do let a ← frameOf env; let pl ← entryPlaceOf L hadNext; let b ← EntryCells.newEntry head a .none (rawInt L) .none pl; setField (.ref e) 1 b) Q E s := by
  have notFr : ∀ b o vs', s.heap.get? b = some o → o.data = .fields vs' → b ∉ (env :: outer).filterMap (·.frame) := fun b o vs' hb q hm => by
    obtain ⟨_, o', ho, hnf⟩ := hl.mem hm
    rw [hb] at ho
    exact hnf vs' (Option.some.inj ho ▸ q)
  refine wpAny_bind (wpAny_frameOf_fun hfr hl hf fun h₁ hs₁ => wpAny_bind (wpAny_entryPlaceOf fun pl hpl => ?_))
  have he₁ : h₁.get? e = some oe := (hs₁.2.1 e (notFr e oe vs he hd)).trans he
  have kb₁ : base.StaysIn h₁ := fun b o q => (hs₁.2.1 b fun hm => by rw [(hl.mem hm).1] at q; cases q).trans (hkb b o q)
  unfold EntryCells.newEntry newFields
  refine wpAny_bind (wpAny_newObj_type ?_ (hpl.sizeOk5 _ _ _ _ _))
  generalize hob : ({ cls := .type "traceback", dict := none, data := .fields ([head, .ref L, .none, rawInt L, .none] ++ (if pl.isEmpty then List.replicate 6 Value.none else pl)).toArray } : Obj) = ob
  have hobd : ob.data = .fields ([head, .ref L, .none, rawInt L, .none] ++ (if pl.isEmpty then List.replicate 6 Value.none else pl)).toArray := by rw [← hob]
  have he₂ : (h₁.push ob).get? e = some oe := Heap.get?_push_of_some ob he₁
  have hT₂ : (h₁.push ob).get? h₁.objs.size = some ob := Heap.get?_push_size h₁ (by rw [← hob]; rfl)
  have hne : @Ne Nat h₁.objs.size e := Nat.ne_of_gt (Heap.lt_size he₁)
  refine wpAny_setField he₂ hd hsz (h _ ?_ ?_)
  · have other : ∀ b o, s.heap.get? b = some o → (∀ vs, o.data ≠ .fields vs) → ∀ o₁, h₁.get? b = some o₁ → ((h₁.push ob).update e (Obj.mapFields (·.setIfInBounds 1 (Value.ref h₁.objs.size)))).get? b = some o₁ := fun b o hb hn o₁ hb₁ => by
      rw [Heap.get?_update_other _ _ (fun q => hn vs (by rw [← q, he] at hb; exact Option.some.inj hb ▸ hd))]
      exact Heap.get?_push_of_some _ hb₁
    refine ⟨fun b o q => ?_, hl.of_keeps fun b o hb hn => ?_, fun b o hb hn => ?_⟩
    · rw [Heap.get?_update_other _ _ (fun z => by rw [← z, hen] at q; cases q)]
      exact Heap.get?_push_of_some _ (kb₁ b o q)
    · obtain ⟨sl, q⟩ := hs₁.2.2 b o hb
      exact ⟨_, other b o hb hn _ q, rfl⟩
    · obtain ⟨sl, q⟩ := hs₁.2.2 b o hb
      exact ⟨sl, other b o hb hn _ q⟩
  · have hd₃ := Obj.data_mapFields hd (·.setIfInBounds 1 (Value.ref h₁.objs.size))
    refine ⟨_, _, h₁.objs.size, ob, _, Heap.get?_update_self _ he₂ (Obj.isFreed_of_fields hd₃), ⟨(Obj.cls_mapFields _ _).trans hc.1, ?_⟩, hd₃, ⟨by simp [hsz], by rw [Array.getElem?_setIfInBounds_ne (by decide)]; exact h2⟩, kb₁.fresh, hne, (Heap.get?_update_other _ _ (Ne.symm hne)).trans hT₂, hobd, ?_⟩
    · obtain ⟨c, di, da, sl⟩ := oe
      dsimp only at hd
      subst hd
      exact hc.2
    · simp

theorem err_landed (h : ErrAt s.heap base e C dx fl) (l : List Env) (hkb : base.StaysIn s.heap) (hl : s.heap.FunFrames base l)
    (k : ∀ h', Flown base l s.heap h' → ErrAt h' base e C dx .none → Q () { s with heap := h' }) : wpAny M A (setFlight (.ref e) none) Q E s := by
  obtain ⟨oe, vs, T, oT, ts, he, hc, hd, h1, hnT, hne, hT, hdT, h3⟩ := h
  have hsz : 3 < ts.size := (Array.getElem?_eq_some_iff.mp h3).1
  unfold setFlight
  refine wpAny_bind (wpAny_field he hd h1.1 ?_)
  rw [if_pos (show (Value.ref T != Value.none) = true from by simp)]
  have other : ∀ b o, s.heap.get? b = some o → (∀ vs, o.data ≠ .fields vs) → (s.heap.update T (Obj.mapFields (·.setIfInBounds 3 ((none : Option Addr).elim Value.none fun f => rawInt f)))).get? b = some o := fun b o hb hn => by
    rw [Heap.get?_update_other _ _ (fun q => hn ts (by rw [← q, hT] at hb; exact Option.some.inj hb ▸ hdT))]
    exact hb
  refine wpAny_setField hT hdT hsz (k _ ⟨fun b o q => ?_, hl.of_keeps fun b o hb hn => ⟨o, other b o hb hn, rfl⟩, fun b o hb hn => ⟨o.slots, other b o hb hn⟩⟩ ?_)
  · rw [Heap.get?_update_other _ _ (fun z => by rw [← z, hnT] at q; cases q)]
    exact hkb b o q
  · have hdT' := Obj.data_mapFields hdT (·.setIfInBounds 3 ((none : Option Addr).elim Value.none fun f => rawInt f))
    exact ⟨oe, vs, T, _, _, (Heap.get?_update_other _ _ hne).trans he, hc, hd, h1, hnT, hne, Heap.get?_update_self _ hT (Obj.isFreed_of_fields hdT'), hdT', by simp [hsz]⟩

/-- the first frame that notes it -/
theorem err_noted0 {t : Addr} (hfr : A.frames = some (env :: outer)) (hl : s.heap.FunFrames base (env :: outer)) (hf : env.frame = some L)
    (hkb : base.StaysIn s.heap) (hen : base.get? e = none) (he : s.heap.get? e = some (excD C t dx))
    (h : ∀ h', Flown base (env :: outer) s.heap h' → ErrAt h' base e C dx (rawInt L) → Q () { s with heap := h' }) : wpAny M A (noteFrame (.ref e) env) Q E s := by
  unfold noteFrame
  simp only [hf]
  refine wpAny_bind (wpAny_field (x := .none) he rfl rfl ?_)
  rw [if_neg (by decide)]
  exact err_entry hfr hl hf hkb hen he ⟨rfl, rfl⟩ rfl (show 1 < 6 by decide) rfl h

/-- a further frame -/
theorem err_noted1 (hfr : A.frames = some (env :: outer)) (hl : s.heap.FunFrames base (env :: outer)) (hf : env.frame = some L)
    (hkb : base.StaysIn s.heap) (hen : base.get? e = none) (ht : ErrAt s.heap base e C dx .none)
    (h : ∀ h', Flown base (env :: outer) s.heap h' → ErrAt h' base e C dx (rawInt L) → Q () { s with heap := h' }) : wpAny M A (noteFrame (.ref e) env) Q E s := by
  obtain ⟨oe, vs, T, oT, ts, he, hc, hd, h1, hnT, hne, hT, hdT, h3⟩ := ht
  unfold noteFrame
  simp only [hf]
  refine wpAny_bind (wpAny_field he hd h1.1 ?_)
  rw [if_pos (show (Value.ref T != Value.none) = true from by simp)]
  refine wpAny_bind (wpAny_field hT hdT h3 ?_)
  rw [if_neg (show ¬ ((Value.none == rawInt L) = true) from by simp [rawInt])]
  have other : ∀ b o, s.heap.get? b = some o → (∀ vs, o.data ≠ .fields vs) → (s.heap.update T (Obj.mapFields (·.setIfInBounds 3 Value.none))).get? b = some o := fun b o hb hn => by
    rw [Heap.get?_update_other _ _ (fun q => hn ts (by rw [← q, hT] at hb; exact Option.some.inj hb ▸ hdT))]
    exact hb
  refine wpAny_bind (wpAny_setField hT hdT (Array.getElem?_eq_some_iff.mp h3).1 ?_)
  refine err_entry hfr (hl.of_keeps fun b o hb hn => ⟨o, other b o hb hn, rfl⟩) hf (fun b o q => ?_) hen ((Heap.get?_update_other _ _ hne).trans he) hc hd (Array.getElem?_eq_some_iff.mp h1.1).1 h1.2
    fun h' x y => h h' ⟨x.stays, x.frames, fun b o hb hn => x.up b o (other b o hb hn) hn⟩ y
  rw [Heap.get?_update_other _ _ (fun z => by rw [← z, hnT] at q; cases q)]
  exact hkb b o q

theorem err_leaves0 {t : Addr} (hfr : A.frames = some (env :: outer)) (hl : s.heap.FunFrames base (env :: outer)) (hf : env.frame = some L)
    (hkb : base.StaysIn s.heap) (hen : base.get? e = none) (he : s.heap.get? e = some (excD C t dx))
    (h : ∀ h', Flown base (env :: outer) s.heap h' → ErrAt h' base e C dx .none → Q () { s with heap := h' }) : wpAny M A (leaving env (.ref e)) Q E s := by
  unfold leaving
  refine wpAny_bind (err_noted0 hfr hl hf hkb hen he fun h₁ x₁ y₁ => err_landed (s := { s with heap := h₁ }) y₁ _ x₁.stays x₁.frames fun h₂ x₂ y₂ => h h₂ (x₁.trans x₂) y₂)
end
end Mine

/-! part E7 -/
namespace Mine
open _root_.PySem _root_.PySem.W _root_.PySem.Calls _root_.PyProof.Rows
example : True := by w_top off; trivial

local macro_rules | `(tactic| k_ne) => `(tactic| (refine neN ?_; (try dsimp only); first | with_reducible assumption | exact Ne.symm (by with_reducible assumption) | omega))

local macro_rules | `(tactic| k_all) => `(tactic| first | (refine List.forall_mem_append.mpr ⟨?a, ?b⟩; (case a => k_all); (case b => k_all)) | exact tail_ne (by assumption) (by k_mem) | fail "k_all")

def TwoInv (x y : PySem.Str) (na : Addr) (o : Obj) (v : Value) (i : Nat) (m : PySem.Str → Option Value) (news : Led) : Prop := i = 0 ∧ m x = some (.ref na) ∧ m y = some v ∧ news = [(na, o)]

/-- what a raise of such an error wants -/
def ErrRaise (K : Frag) (C : Addr) (E : Value → Shared → Prop) (v : Value) (s₁ : Shared) : Prop := ∃ e t dx, v = .ref e ∧ K.In s₁.heap ∧ s₁.heap.get? e = some (excD C t dx) ∧ E (.ref e) s₁
theorem raise_any {M : Model} {A : Around} {E : Value → Shared → Prop} {s : Shared} {env : Env} {K : Frag} {C : Addr} {e : Expr} {pos : Pos} {Q : Flow → Shared → Prop} (O : ErrObj K C) (hh : A.handled = none)
    (h : wpAny M A (eval e env) (ErrRaise K C E) E s) : wpAny M A (exec (.Raise (some e) none pos) env) Q E s := by
  obtain ⟨nm, q, N, bs, bm, hdct, sn, sub, ab, col, dd, k0, k1, k2, k3, k5, hl, b1, b6, b2, b3, b5⟩ := O.obj
  show wpAny M A (do standAt pos; raiseStmt env (some (do let v ← eval e env; standAt pos; pure v)) none) Q E s
  refine wpAny_bind (wpAny_standAt (raise_obj (C := C) (nm := nm) (q := q) (N := N) (bs := bs) (bm := bm) (hdct := hdct) (sn := sn) (sub := sub) (ab := ab) (col := col) (dd := dd) (k0 := k0) (k1 := k1) (k2 := k2) (k3 := k3) (k5 := k5) (newId := "Exception.__new__") b6 hh (wpAny_bind (wpAny_mono h (fun v s₁ h₁ => wpAny_bind (wpAny_standAt (wpAny_pure ?_))) fun _ _ x => x))))
  obtain ⟨e, t, dx, rfl, X, he, hE⟩ := h₁
  exact ⟨e, t, dx, rfl, X _ _ hl, he, hE⟩
theorem make_call {w : World} {H h₀ : Heap} {A : Around} {s : Shared} {L : Addr} {m : PySem.Str → Option Value} {news : Led} {C : Addr} {args : List Value} {a b c : Value} {Q E : Value → Shared → Prop} (MS : MakeSpec w H)
    (hbt : ∀ s x, (Mine.hd.heap_39 w.params).In s.heap → InitBinds w s x args a b c) (hl : args.length ≤ 10) (hC : ErrCls C) (R : Room A 3 50) (F : Fr h₀ L s.heap m) (N : News h₀ L s.heap news) (st : H.StaysIn h₀)
    (k : ∀ h' tk' e t dx k1 k2 k3, Fr h₀ L h' m → News h₀ L h' ((e, excD C t dx) :: (dx, initDict w k1 k2 k3 a b c) :: news) → (∀ p ∈ news, p.1 ≠ e) → (∀ p ∈ news, p.1 ≠ dx) → @Ne Nat dx e → Q (.ref e) { s with heap := h', toks := tk' }) :
    wpAny (model PySem.Challenge.pw_pq0447_01 w) A (call (.ref C) args) Q E s := by
  refine wpAny_call (MS A s _ C args a b c hbt hl hC R (fun b o e => F.keep b o (st b o e)) @fun h' tk' e t dx k1 k2 k3 x e0 e1 e2 e3 => ?_)
  obtain ⟨F1, N1, l1⟩ := news_fresh F N x e1 e3
  obtain ⟨F2, N2, l2⟩ := news_fresh F N x e0 e2
  refine k h' tk' e t dx k1 k2 k3 F1 (fun p hp => ?_) l2 l1 (fun q => ?_)
  · rcases List.mem_cons.mp hp with rfl | hp
    · exact N2 _ (.head _)
    · exact N1 p hp
  · rw [q, e2] at e3; cases e3

theorem enterE {prog : Program} {w : World} {A : Around} {s : Shared} {H : Heap} {mean : ExcName → Option Value} {mg mb : PySem.Str → Option Value} {K : Frag} {p : Program} {lo : List PySem.Str}
    {R : Result → Shared → Prop} {name qual : PySem.Str} {params : Arguments} {body : List Stmt} {scope : Scope} {dV kV doc pm cdv ct oc : Value} {an od : Option Addr} {osl : Array (Option Value)} {f : Addr} {args : Args} {binds : List (PySem.Str × Value)}
    (news : List (Addr × Obj)) (X₀ : K.In H) (T₀ : Top p lo mean mg mb H) (st : H.StaysIn s.heap)
    (N : ∀ q ∈ news, s.heap.get? q.1 = some q.2 ∧ H.get? q.1 = none)
    (ho : K.lookup f = some ⟨oc, od, .func (fnOf name qual params body scope dV kV doc pm an cdv ct), osl⟩) (hcd : codeIn K cdv qual = true) (hroom : A.depth < recursionLimit)
    (hbind : BindsTo s (fnOf name qual params body scope dV kV doc pm an cdv ct) args binds) (hloc : ∀ y ∈ binds, scope.names.lookup y.1 = some .local)
    (h : ∀ g L' h₁, g = hideAll s.heap (news.map (·.1)) → H.StaysIn g → @LE.le Nat _ s.heap.objs.size L' → Fr g L' h₁ (fun y => binds.reverse.lookup y) → News g L' h₁ news → K.In g → Top p lo mean mg mb g →
      wpAny (model prog w) (A.deeper (envOf qual scope L' f cdv)) (execs body (envOf qual scope L' f cdv))
        (fun fl s' => R (.ok (.ret (match fl with | .ret v => v | _ => .none))) s')
        (fun e s' => wpAny (model prog w) (A.deeper (envOf qual scope L' f cdv)) (leaving (envOf qual scope L' f cdv) e) (fun _ s'' => R (.error e) s'') (fun e' s'' => R (.error e') s'') s')
        { s with heap := h₁, toks := s.toks + binds.length })
    (hco : scope.isCoroutine = false) (hgen : scope.isGenerator = false) (hk : scope.kind = .function)
    (hcell : ∀ x ∈ scope.names, x.2 ≠ .cell) : codeAny (model prog w) A (.call (.ref f) args) R s := by
  have X : K.In s.heap := X₀.keeps st
  refine codeAny_call_def (fd := fnOf name qual params body scope dV kV doc pm an cdv ct) (body := body) (binds := binds) hroom (X _ _ ho) rfl (T₀.nolimit.keeps st) (codeRec_of X hcd) rfl hbind hcell hloc (fun h₁ hns hk₁ => ?_) hco hgen hk
  have nm : ∀ b o, H.get? b = some o → b ∉ news.map (·.1) := fun b o e q => by
    obtain ⟨p, hp, rfl⟩ := List.mem_map.mp q
    rw [(N p hp).2] at e; cases e
  have st' : H.StaysIn (hideAll s.heap (news.map (·.1))) := fun b o e => hideAll_get _ (st b o e) (nm b o e)
  exact h _ s.heap.objs.size h₁ rfl st' (Nat.le_refl _) ⟨hns, fun b o e => hk₁ b o (of_hideAll _ e), Nat.le_of_eq (hideAll_size _ _)⟩
    (fun p hp => ⟨hk₁ _ _ (N p hp).1, Nat.ne_of_lt (Heap.lt_size (N p hp).1), hideAll_none _ (List.mem_map_of_mem hp)⟩) (X₀.keeps st') (T₀.keeps st')

/-- an error in flight behind a call -/
structure Thrown (w : World) (base : Heap) (l : List Env) (h h' : Heap) (e : Addr) (C : Addr) (a b c : Value) : Prop where
  flown : Flown base l h h'
  err : ∃ dx od k1 k2 k3, ErrAt h' base e C dx .none ∧ h'.get? dx = some od ∧ od.data = (initDict w k1 k2 k3 a b c).data ∧ h.get? dx = none
  new : base.get? e = none

theorem leave_thrown {w : World} {M : Model} {A : Around} {E : Value → Shared → Prop} {base g : Heap} {outer : List Env} {L f e C t dx : Addr} {m : PySem.Str → Option Value} {news : Led} {k1 k2 k3 : Nat} {a b c : Value} {s' : Shared} {name : PySem.Str} {scope : Scope} {cd : Value} {Q : Unit → Shared → Prop}
    (B : Below A base outer g) (F : Fr g L s'.heap m) (N : News g L s'.heap ((e, excD C t dx) :: (dx, initDict w k1 k2 k3 a b c) :: news)) (hk : scope.kind = .function)
    (h : ∀ h', Thrown w base outer g h' e C a b c → Q () { s' with heap := h' }) : wpAny M (A.deeper (envOf name scope L f cd)) (leaving (envOf name scope L f cd) (.ref e)) Q E s' := by
  have B' := B.push (name := name) (a := f) (cd := cd) F hk
  have Ne := N _ (.head _)
  have Nd := N _ (.tail _ (.head _))
  have fresh : ∀ b', g.get? b' = none → base.get? b' = none := fun b' q => by
    cases z : base.get? b' with
    | none => rfl
    | some o => have := B.stays _ _ z; rw [q] at this; cases this
  refine err_leaves0 B'.stack B'.frames rfl B'.stays (fresh _ Ne.2.2) Ne.1 fun h' fl er => h h' ⟨⟨fl.stays, fl.frames.2.2, (Heap.UpToSlots.of_keeps F.keep).trans fl.up⟩, ?_, fresh _ Ne.2.2⟩
  obtain ⟨sl, hd⟩ := fl.up dx _ Nd.1 (fun vs q => by cases q)
  exact ⟨dx, _, k1, k2, k3, er, hd, rfl, Nd.2.2⟩

def CheckBad (w : World) (H : Heap) : Prop := ∀ (A : Around) (s : Shared) (R : Result → Shared → Prop) (tl : Led) (v hv bv : Value) (nm : PySem.Str) (hvs bvs : List Value) (ls : List (List PySem.Str)) (d : Addr) (kvs : List (PySem.Str × Value)) (t : Tok) (base : Heap) (outer : List Env),
  Room A 6 60 → H.StaysIn s.heap → Below A base outer s.heap → LedAt s.heap tl → Mod tl v nm hv bv → Tup tl hv hvs → Tup tl bv bvs → Pairs (Ent tl) (hvs ++ bvs) ls → hvs.length + bvs.length ≤ 1000 →
  s.heap.DictOf (PySem.strKind PySem.Challenge.pw_pq0447_01 w) d kvs → (d == sysModules) = false → kvs.map (·.1) = [PySem.Str.ofString "zz"] → PySem.Str.ofString "zz" ∉ ls.flatten →
  (∀ {h' tk' e k1 k2 k3}, Thrown w base outer s.heap h' e 45 (.str (PySem.Str.ofString "unknown_parameter") k1) (.int 11 k2) (.str (PySem.Str.ofString "zz") k3) → R (.error (.ref e)) { s with heap := h', toks := tk' }) →
  codeAny (model PySem.Challenge.pw_pq0447_01 w) A (.call (.ref 104) ⟨[v, .ref d, .int 11 t], []⟩) R s

set_option maxHeartbeats 8000000 in
theorem check_bad {w : World} {lo : List PySem.Str} {mean : ExcName → Option Value} {mg mb : PySem.Str → Option Value} {H : Heap} (G : Root w lo mean mg mb H) (PS : ParNamesSpec w H) (MS : MakeSpec w H) : CheckBad w H := by
  intro A s R tl v hv bv nm hvs bvs ls d kvs t base outer hr st bel hled hmod hth htb hps hlen hdk hlo hks hzz ret
  obtain ⟨handled, dp, fr, gd, un⟩ := A
  obtain rfl : handled = none := hr.handled
  have X := G.X
  have T := G.T
  have hmod' := hmod
  obtain ⟨t0, t1, t2, x4, y6, hm⟩ := hmod'
  obtain ⟨a, na, rfl, ha⟩ := tup_at hled hm
  refine' enterE (K := Mine.hd.heap_39 w.params) (binds := [(PySem.Str.ofString "module", .ref a), (PySem.Str.ofString "given", .ref d), (PySem.Str.ofString "at", .int 11 t)]) [] X T st ?N ?k6 ?k7 ?k8 ?k9 ?kB ?_ ?c2 ?c3 ?c4 ?c5
  case N => intro q hq; cases hq
  ((try (case k6 => k_is)); (try (case k7 => k_is)); (try (case k8 => (have := Room.depth (by assumption); dsimp only at this ⊢; omega))); (try (case k9 => exact BindsTo.of_eq rfl)); (try (case c5 => decide)); (try (case kB => exact locs rfl)); (try (case c2 => exact rfl)); (try (case c3 => exact rfl)); (try (case c4 => exact rfl)))
  intro g' L' h' hg st' hL' F' N' X' T'
  have hg' : g' = s.heap := hg
  have hledg : LedAt g' tl := hg' ▸ hled
  clear hled
  rw [← hg'] at hdk
  (try dsimp only)
  (try k_fold)
  (repeat' (first | (((with_reducible show wpAny _ _ (call (Value.ref 92) _) _ _ _); k_dflt (refine' parnames_call ?zqPS ?zqR ?zqF ?zqN ?zqst ?zqhled ?zqhm ?zqhh ?zqhb ?zqhp ?zqhl ?_; (case zqPS => assumption); (case zqR => (refine Room.deeper (Room.weaken (by assumption) ?_ ?_) <;> omega)); (case zqF => k_asm); (case zqN => k_asm); (case zqst => assumption); (case zqhled => exact fun p hp => Fr.keep (by k_asm) _ _ ((by assumption : LedAt _ _) p hp)); (case zqhm => assumption); (case zqhh => assumption); (case zqhb => assumption); (case zqhp => assumption); (case zqhl => omega); k_whole); intro zh ztk zr zvs zn zF zN zl zhs; (try k_sweep))) | ((with_reducible show wpAny _ _ (exec (Stmt.For ..) _) _ _ _); ((rename Fr _ _ _ _ => zlF); (with_unfolding_all refine' for_here zlF ?zqk1 ?zqk2 ?zqhE ?zqhs ?_; (case zqk1 => exact rfl); (case zqk2 => exact rfl); (case zqhs => intro _; exact rfl); (case zqhE => first | passes_own | with_unfolding_all passes_own); k_whole))) | (k_unfold; (try dsimp only)) | (k_end; kc_close) | walk1 | (dsimp only; walk1) | (leave1; walk_say "STEP leave1"; (try dsimp only)) | fail "no step"))
  rename Fr _ _ _ _ => F1
  rename News _ _ _ _ => N1
  rename StrsAre _ _ => hs1
  obtain ⟨od, hod, hdd⟩ := Heap.dictOf_iff.mp hdk
  refine for_dict (kvs := kvs) rfl (Heap.dictOf_iff.mpr ⟨od, F1.keep _ _ hod, hdd⟩) hlo (fr_ne F1 hod) (news_ne N1 hod) F1 N1 (TwoInv (PySem.Str.ofString "names") (PySem.Str.ofString "at") _ _ _) ⟨rfl, rfl, rfl, rfl⟩ ?_ ?_
  · intro i k t m₁ news₁ m₂ h tk own P' hi hk hJ hne hx hm F₁ N₁ nxt rt
    have X1 := X'.keeps F₁.keep
    have T1 := T'.keeps F₁.keep
    obtain ⟨-, hn, hn2, rfl⟩ := hJ
    have hat := (hm (PySem.Str.ofString "at") (by decide)).trans hn2
    have hnames := (hm (PySem.Str.ofString "names") (by decide)).trans hn
    rw [List.cons_append, List.nil_append] at N₁
    have hin : (ls.flatten.any fun y => y == PySem.Str.ofString "zz") = false := by
      cases q : ls.flatten.any fun y => y == PySem.Str.ofString "zz" with
      | false => rfl
      | true =>
        obtain ⟨y, hy, e⟩ := List.any_eq_true.mp q
        exact absurd (by rw [← eq_of_beq e]; exact hy) hzz
    have hkz : k = PySem.Str.ofString "zz" := by
      rw [hks] at hk
      have := List.mem_of_getElem? hk
      exact List.mem_singleton.mp this
    subst hkz
    clear F1 N1 hm hn hn2
    have EO : ErrObj (Mine.hd.heap_39 w.params) 45 := err_obj (.inr rfl)
    (repeat' (first | (((with_reducible show wpAny _ _ (call (Value.ref 45) _) _ _ _); k_dflt (refine' make_call ?zqMS ?zqhbt ?zqhl ?zqhC ?zqR ?zqF ?zqN ?zqst ?_; (case zqMS => assumption); (case zqhbt => exact fun _ _ X => init_binds3 X); (case zqhl => exact Nat.le_of_ble_eq_true rfl); (case zqhC => exact .inr rfl); (case zqR => (refine Room.deeper (Room.weaken (by assumption) ?_ ?_) <;> omega)); (case zqF => k_asm); (case zqN => k_asm); (case zqst => assumption); k_whole); intro zh ztk ze zt zdx zk1 zk2 zk3 zF zN zl1 zl2 zl3; (try k_sweep))) | ((with_reducible show wpAny _ _ (exec (Stmt.Raise (some _) none ..) _) _ _ _); (k_dflt (refine' raise_any ?zqeo ?zqhh ?_; (case zqeo => assumption); (case zqhh => exact rfl); k_whole))) | ((with_reducible show wpAny _ _ (compareOp CmpOp.NotIn (Value.str _ _) (Value.ref _)) _ _ _); (k_dflt (refine' notin_list_strs ?zql ?zqs ?_; (case zql => exact News.isList (by k_asm) (by k_mem)); (case zqs => assumption); k_whole))) | ((with_reducible show wpAny _ _ (eval (Expr.Name ..) _) _ _ _); (k_dflt (refine' name_any ?zqF ?zqv ?_ ?zqa ?zqb ?zqc; (case zqF => k_asm); (case zqa => exact rfl); (case zqb => exact rfl); (case zqv => first | assumption | fail "no"); (case zqc => decide); k_whole))) | (k_unfold; (try dsimp only)) | (k_end; kc_close) | walk1 | (dsimp only; walk1) | (leave1; walk_say "STEP leave1"; (try dsimp only)) | fail "no step"))
    rename Fr _ _ _ _ => F5
    rename News _ _ _ _ => N5
    refine ⟨_, _, _, rfl, X'.keeps F5.keep, (N5 _ (.head _)).1, ?_⟩
    refine leave_thrown (hg'.symm ▸ bel) F5 N5 rfl fun h9 th => ?_
    rw [hg'] at th
    exact ret th
  · intro h' tk m' news' F' N' hJ
    have := congrArg List.length hks
    rw [List.length_map] at this
    have h2 := hJ.1
    rw [this] at h2
    cases h2
end Mine

/-! part H1 -/
namespace Mine
open _root_.PySem _root_.PySem.W _root_.PySem.Calls _root_.PyProof.Rows
example : True := by w_top off; trivial

/-- an exception is handled that has no context of its own -/
def Bare (h : Heap) (e : Addr) : Prop := ∃ oe vs, h.get? e = some oe ∧ oe.data = .fields vs ∧ vs[2]? = some .none
theorem Bare.keeps {h h' : Heap} {e : Addr} (x : Bare h e) (k : ∀ o, h.get? e = some o → h'.get? e = some o) : Bare h' e := let ⟨oe, vs, a, r⟩ := x; ⟨oe, vs, k _ a, r⟩
theorem Bare.lt {h : Heap} {e : Addr} (x : Bare h e) : @LT.lt Nat _ e h.objs.size := let ⟨_, _, a, _⟩ := x; Heap.lt_size a
theorem entry_unchain : entryFor table "proto.unchain" = some Builtin.«proto.unchain» := entryFor_of_tree (by kernel_rfl)

section
variable {prog : Program} {w : World} {A : Around} {E : Value → Shared → Prop} {s : Shared}
theorem raise_h {α : Type} {e x : Addr} {ox : Obj} {vs : Array Value} {Q : α → Shared → Prop} (hh : A.handled = some (.ref e)) (hb : Bare s.heap e) (hne : @Ne Nat e x) (hx : s.heap.get? x = some ox) (hd : ox.data = .fields vs) (hsz : 2 < vs.size)
    (h : E (.ref x) { s with heap := s.heap.update x (Obj.mapFields (·.setIfInBounds 2 (.ref e))) }) : wpAny (model prog w) A (raiseNew (.ref x) : Sem α) Q E s := by
  obtain ⟨oe, ws, he, hde, h2⟩ := hb
  unfold raiseNew
  refine wpAny_bind (wpAny_handled ?_)
  rw [hh]
  dsimp only
  rw [if_pos (show (Value.ref e != Value.ref x) = true from by
    rw [bne_iff_ne]
    intro q
    exact hne (Value.ref.inj q))]
  refine wpAny_bind (wpAny_holding (wpAny_runValue (codeAny_builtin entry_unchain ?_)))
  unfold Builtin.«proto.unchain»
  dsimp only
  refine wpAny_bind (wpAny_field he hde h2 ?_)
  rw [if_pos (show (Value.none == Value.none) = true from rfl)]
  refine wpAny_bind (wpAny_pure (wpAny_pure ?_))
  refine wpAny_bind ?_
  unfold updateField
  refine wpAny_bind (wpAny_load hx ?_)
  rw [hd]
  dsimp only
  rw [if_pos hsz]
  exact wpAny_update hx (wpAny_throw h)

theorem extBut_h {it x : Addr} {h h' : Heap} {f : Obj → Obj} (k : Heap.ExtBut it h h') (hx : @LE.le Nat _ h.objs.size x) : Heap.ExtBut it h (h'.update x f) := fun b o n e => by
  have hb := Heap.lt_size e
  rw [Heap.get?_update_other _ _ (show @Ne Nat x b from fun q => by rw [q] at hx; exact absurd (Nat.lt_of_lt_of_le hb hx) (Nat.lt_irrefl _))]
  exact k b o n e
theorem tuple_end_h {it t e : Addr} {i : Nat} {items : Array Value} {Q : Option Value → Shared → Prop} (hh : A.handled = some (.ref e)) (hb : Bare s.heap e) (hne : @Ne Nat it e)
    (hit : s.heap.IsTupleIter it t i) (ht : s.heap.IsTuple t items) (hx : items[i]? = none)
    (hQ : ∀ h', Heap.ExtBut it s.heap h' → Q none { s with heap := h' }) : wpAny (model prog w) A (pyNext (.ref it)) Q E s := by
  obtain ⟨o, ho, hc, hd⟩ := id hit
  obtain ⟨ol, hol, _, nl, hdl⟩ := ht
  unfold pyNext
  refine wpAny_bind (wpAny_attempt (wpAny_callSpecial?_slot (name := Str.ofString "__next__") hit.typeIs F.slot_tuple_iterator_next
    (wpAny_call_entry F.slot_tuple_iterator_next hit.typeIs F.entry_tuple_iterator_next ?_ (F.args_tuple_iterator_next_1 _))))
  show wpAny _ _ (field (.ref it) 0 >>= _) _ _ s
  refine wpAny_bind (wpAny_field ho hd (x := .ref t) rfl ?_)
  show wpAny _ _ (if (Value.ref t == Value.none) = true then _ else _) _ _ s
  rw [if_neg (show ¬ ((Value.ref t == Value.none) = true) from Bool.false_ne_true)]
  show wpAny _ _ (field (.ref it) 1 >>= _) _ _ s
  refine wpAny_bind (wpAny_field ho hd (x := .int i 0) rfl ?_)
  show wpAny _ _ (seqItems? (.ref t) >>= _) _ _ s
  refine wpAny_bind (wpAny_seqItems hol hdl ?_)
  simp only [Int.toNat_natCast, hx]
  refine wpAny_bind (wpAny_rule (wpAny_bind (wpAny_setField ho hd (by simp) ?_)))
  show wpAny _ _ (newExc (.type "StopIteration") [] >>= _) _ _ _
  refine wpAny_bind ?_
  simp only [newExc, newTuple]
  refine wpAny_bind (wpAny_newObj_type ?_ (by size_fits))
  refine wpAny_bind (m := firstArgMember _ _) (wpAny_of_eq (a := Value.none) (by first | rfl | (simp only [firstArgMember]; rfl)) ?_)
  refine wpAny_newObj_type ?_ (by size_fits)
  have lte := hb.lt
  generalize hH : s.heap.update it _ = H1
  have hb1 : Bare H1 e := hb.keeps fun o q => by rw [← hH, Heap.get?_update_other _ _ hne]; exact q
  have hs1 : H1.objs.size = s.heap.objs.size := by rw [← hH]; exact Heap.size_after_update ..
  have k1 : Heap.ExtBut it s.heap H1 := by rw [← hH]; exact (Heap.SameBut.update ..).extBut
  refine raise_h (A := A.in1) hh ((hb1.keeps fun o q => Heap.get?_push_of_some _ q).keeps fun o q => Heap.get?_push_of_some _ q) (by rw [Heap.size_push, hs1]; omega) (Heap.get?_push_size _ rfl) rfl (by simp; omega) ?_
  refine wpAny_bind (wpAny_isInstance (T := "StopIteration") (b := true) ⟨_, Heap.get?_update_self _ (Heap.get?_push_size _ rfl) rfl, rfl⟩ isSubtype_stop ?_)
  exact wpAny_pure (hQ _ (extBut_h ((k1.push _).push _) (by rw [Heap.size_push, hs1]; omega)))

theorem range_end_h {it e : Addr} {x left step : Int} {Q : Option Value → Shared → Prop} (hh : A.handled = some (.ref e)) (hb : Bare s.heap e) (hit : IsRangeIter s.heap it x left step) (hleft : left ≤ 0)
    (hQ : ∀ h', Heap.ExtBut it s.heap h' → Q none { s with heap := h' }) : wpAny (model prog w) A (pyNext (.ref it)) Q E s := by
  have hT : s.TypeIs (.ref it) "range_iterator" := ⟨_, hit, rfl⟩
  unfold pyNext
  refine wpAny_bind (wpAny_attempt (wpAny_callSpecial?_slot (name := Str.ofString "__next__") hT F.slot_range_iterator_next
    (wpAny_call_entry F.slot_range_iterator_next hT F.entry_range_iterator_next ?_ (F.args_range_iterator_next_1 _))))
  show wpAny _ _ (field (.ref it) 0 >>= _) _ _ s
  refine wpAny_bind (wpAny_field hit rfl (x := rawInt x) rfl ?_)
  show wpAny _ _ (field (.ref it) 1 >>= _) _ _ s
  refine wpAny_bind (wpAny_field hit rfl (x := rawInt left) rfl ?_)
  show wpAny _ _ (field (.ref it) 2 >>= _) _ _ s
  refine wpAny_bind (wpAny_field hit rfl (x := rawInt step) rfl ?_)
  show wpAny _ _ (if left ≤ 0 then _ else _) _ _ s
  rw [if_pos hleft]
  refine wpAny_bind (wpAny_rule ?_)
  refine wpAny_bind ?_
  show wpAny _ _ (newExc (.type "StopIteration") [] >>= _) _ _ _
  refine wpAny_bind ?_
  simp only [newExc, newTuple]
  refine wpAny_bind (wpAny_newObj_type ?_ (by size_fits))
  refine wpAny_bind (m := firstArgMember _ _) (wpAny_of_eq (a := Value.none) (by first | rfl | (simp only [firstArgMember]; rfl)) ?_)
  refine wpAny_newObj_type ?_ (by size_fits)
  have lte := hb.lt
  refine raise_h (A := A.in1) hh ((hb.keeps fun o q => Heap.get?_push_of_some _ q).keeps fun o q => Heap.get?_push_of_some _ q) (by rw [Heap.size_push]; omega) (Heap.get?_push_size _ rfl) rfl (by simp; omega) ?_
  refine wpAny_bind (wpAny_isInstance (T := "StopIteration") (b := true) ⟨_, Heap.get?_update_self _ (Heap.get?_push_size _ rfl) rfl, rfl⟩ isSubtype_stop ?_)
  exact wpAny_pure (hQ _ (extBut_h (((Heap.ExtBut.refl it s.heap).push _).push _) (by rw [Heap.size_push]; omega)))

theorem walks_tuple_h {e : Addr} (hh : A.handled = some (.ref e)) (I ax : Addr) (hne : ax ≠ I) (hIe : @Ne Nat I e) (items : Array Value) :
    Walks prog w A I [I, ax, e] [I] items.size (fun i v => items[i]? = some v) (fun i h => h.IsTupleIter I ax i ∧ h.IsTuple ax items ∧ Bare h e) where
  sub := fun b hb => by rw [List.mem_singleton.mp hb]; exact .head _
  frame := fun i h h' st hk => by
    obtain ⟨⟨o, ho, r⟩, ⟨o', ho', r'⟩, b⟩ := st
    exact ⟨⟨o, hk I (by simp) o ho, r⟩, ⟨o', hk ax (by simp) o' ho', r'⟩, b.keeps fun o q => hk e (by simp) o q⟩
  item := fun i s Q E hi st hQ => by
    refine wpAny_pyNext_tuple_item st.1 st.2.1 (x := items[i]) (by simp [hi]) fun h' hit' hs' => ?_
    exact hQ _ h' s.toks (by simp [hi]) ⟨hit', st.2.1.extBut hs'.extBut hne, st.2.2.keeps fun o q => hs'.extBut e o (Ne.symm hIe) q⟩ fun b o hb q => hs'.extBut b o (fun z => hb (by simp [z])) q
  done := fun s Q E st hQ => tuple_end_h hh st.2.2 hIe st.1 st.2.1 (by simp) fun h' he' => hQ h' s.toks fun b o hb q => he' b o (fun z => hb (by simp [z])) q
  self := fun _ _ _ _ st hQ => wpAny_pyIter_tupleiter st.1 hQ
theorem walks_range_h {e : Addr} (hh : A.handled = some (.ref e)) (I : Addr) (hIe : @Ne Nat I e) (a c : Int) (n : Nat) :
    Walks prog w A I [I, e] [I] n (fun i v => ∃ t, v = .int (a + i * c) t) (fun i h => IsRangeIter h I (a + (i : Nat) * c) ((n : Int) - (i : Nat)) c ∧ Bare h e) where
  sub := fun b hb => by rw [List.mem_singleton.mp hb]; exact .head _
  frame := fun _ _ _ st hk => ⟨hk I (by simp) _ st.1, st.2.keeps fun o q => hk e (by simp) o q⟩
  item := fun i s Q E hi st hQ => by
    refine wpAny_pyNext_range_item st.1 (by omega) fun h' hit' hs' => ?_
    refine hQ _ h' _ ⟨_, rfl⟩ ⟨?_, st.2.keeps fun o q => hs'.extBut e o (Ne.symm hIe) q⟩ fun b o hb q => hs'.extBut b o (fun z => hb (by simp [z])) q
    have e1 : a + ((i + 1 : Nat) : Int) * c = a + (i : Int) * c + c := by push_cast; rw [Int.add_mul, Int.one_mul, Int.add_assoc]
    have e2 : (n : Int) - ((i + 1 : Nat) : Int) = (n : Int) - (i : Int) - 1 := by push_cast; omega
    rw [e1, e2]; exact hit'
  done := fun s Q E st hQ => range_end_h hh st.2 st.1 (by omega) fun h' he' => hQ h' s.toks fun b o hb q => he' b o (fun z => hb (by simp [z])) q
  self := fun _ _ _ _ st hQ => wpAny_pyIter_rangeiter st.1 hQ

theorem min_two_h {a b : Int} {t u : Tok} {e : Addr} {Q : Value → Shared → Prop} (hh : A.handled = some (.ref e)) (hb : Bare s.heap e) (hab : ¬ (b < a))
    (h : ∀ h' tk, (∀ c o, s.heap.get? c = some o → h'.get? c = some o) → Q (.int a t) { s with heap := h', toks := tk }) :
    wpAny (model prog w) A (call (.builtin "min") [.int a t, .int b u]) Q E s := by
  have hT : (s.heap.push { cls := .type "tuple", data := .seq #[.int a t, .int b u] }).IsTuple s.heap.objs.size (intItems #[(a, t), (b, u)]) := ⟨_, Heap.get?_push_size _ rfl, rfl, 0, by simp [intItems]⟩
  have lte := hb.lt
  refine call_min_two (wpAny_pyIter_tuple hT ?_)
  have hsz : (s.heap.push { cls := .type "tuple", data := .seq #[.int a t, .int b u] }).objs.size = s.heap.objs.size + 1 := Heap.size_push ..
  refine ⟨_, [_, s.heap.objs.size, e], [_], _, _, _, _, rfl, walks_tuple_h (A := A.in1) hh _ s.heap.objs.size (by rw [hsz]; exact Nat.ne_of_lt (Nat.lt_succ_self _)) (by rw [hsz]; omega) (intItems #[(a, t), (b, u)]),
    ⟨⟨_, Heap.get?_push_size _ rfl, rfl, rfl⟩, hT.push _, (hb.keeps fun o q => Heap.get?_push_of_some _ q).keeps fun o q => Heap.get?_push_of_some _ q⟩, fun c hc => ?_, by simp [intItems], CmpOf.ints_lt (numAt #[(a, t), (b, u)]) (fun _ _ => intItems_at), fun v h' tk hP hk => ?_⟩
  · show @LT.lt Nat _ c ((s.heap.push _).push _).objs.size
    rw [Heap.size_push, hsz]
    simp only [List.mem_cons, List.not_mem_nil, or_false] at hc
    rcases hc with rfl | rfl | rfl
    · rw [hsz]; exact Nat.lt_succ_self _
    · omega
    · omega
  · have hold : ∀ c o, s.heap.get? c = some o → h'.get? c = some o := fun c o q => by
      refine hk c o (fun hm => ?_) (Heap.get?_push_of_some _ (Heap.get?_push_of_some _ q))
      have e1 := List.mem_singleton.mp hm
      have := Heap.lt_size q
      rw [e1, hsz] at this
      exact Nat.lt_irrefl _ (Nat.lt_of_succ_lt this)
    have hv : v = Value.int a t := by
      have hsz2 : (intItems #[(a, t), (b, u)]).size - 1 = 1 := by simp [intItems]
      rw [hsz2] at hP
      have q : argBest (fun i j => decide (numAt #[(a, t), (b, u)] i < numAt #[(a, t), (b, u)] j)) 1 = 0 := by simp [argBest, numAt, hab]
      rw [q] at hP
      simpa [intItems] using hP.symm
    rw [hv]; exact h h' tk hold

theorem max_two_h {a b : Int} {t u : Tok} {e : Addr} {Q : Value → Shared → Prop} (hh : A.handled = some (.ref e)) (hb : Bare s.heap e) (hab : ¬ (b > a))
    (h : ∀ h' tk, (∀ c o, s.heap.get? c = some o → h'.get? c = some o) → Q (.int a t) { s with heap := h', toks := tk }) :
    wpAny (model prog w) A (call (.builtin "max") [.int a t, .int b u]) Q E s := by
  have hT : (s.heap.push { cls := .type "tuple", data := .seq #[.int a t, .int b u] }).IsTuple s.heap.objs.size (intItems #[(a, t), (b, u)]) := ⟨_, Heap.get?_push_size _ rfl, rfl, 0, by simp [intItems]⟩
  have lte := hb.lt
  refine call_max_two (wpAny_pyIter_tuple hT ?_)
  have hsz : (s.heap.push { cls := .type "tuple", data := .seq #[.int a t, .int b u] }).objs.size = s.heap.objs.size + 1 := Heap.size_push ..
  refine ⟨_, [_, s.heap.objs.size, e], [_], _, _, _, _, rfl, walks_tuple_h (A := A.in1) hh _ s.heap.objs.size (by rw [hsz]; exact Nat.ne_of_lt (Nat.lt_succ_self _)) (by rw [hsz]; omega) (intItems #[(a, t), (b, u)]),
    ⟨⟨_, Heap.get?_push_size _ rfl, rfl, rfl⟩, hT.push _, (hb.keeps fun o q => Heap.get?_push_of_some _ q).keeps fun o q => Heap.get?_push_of_some _ q⟩, fun c hc => ?_, by simp [intItems], CmpOf.ints_gt (numAt #[(a, t), (b, u)]) (fun _ _ => intItems_at), fun v h' tk hP hk => ?_⟩
  · show @LT.lt Nat _ c ((s.heap.push _).push _).objs.size
    rw [Heap.size_push, hsz]
    simp only [List.mem_cons, List.not_mem_nil, or_false] at hc
    rcases hc with rfl | rfl | rfl
    · rw [hsz]; exact Nat.lt_succ_self _
    · omega
    · omega
  · have hold : ∀ c o, s.heap.get? c = some o → h'.get? c = some o := fun c o q => by
      refine hk c o (fun hm => ?_) (Heap.get?_push_of_some _ (Heap.get?_push_of_some _ q))
      have e1 := List.mem_singleton.mp hm
      have := Heap.lt_size q
      rw [e1, hsz] at this
      exact Nat.lt_irrefl _ (Nat.lt_of_succ_lt this)
    have hv : v = Value.int a t := by
      have hsz2 : (intItems #[(a, t), (b, u)]).size - 1 = 1 := by simp [intItems]
      rw [hsz2] at hP
      have q : argBest (fun i j => decide (numAt #[(a, t), (b, u)] i > numAt #[(a, t), (b, u)] j)) 1 = 0 := by simp [argBest, numAt, hab]
      rw [q] at hP
      simpa [intItems] using hP.symm
    rw [hv]; exact h h' tk hold

theorem unpack_h {env : Env} {elts : List Expr} {x1} {pos : Pos} {e t : Addr} {items : Array Value} {Q : Unit → Shared → Prop} (hh : A.handled = some (.ref e)) (hb : Bare s.heap e) (ht : s.heap.IsTuple t items)
    (hn : (assignEach elts env).length = items.size) (hstar : (assignEach elts env).findIdx? (·.1) = none)
    (h : ∀ h', Heap.ExtBut s.heap.objs.size s.heap h' → wpAny (model prog w) A (assignInOrder ((assignEach elts env).map (·.2)) items.toList) Q E { s with heap := h' }) :
    wpAny (model prog w) A (assign (.Tuple elts x1 pos) env (.ref t)) Q E s := by
  have lte := hb.lt
  have hlt : t ≠ s.heap.objs.size := by obtain ⟨o, ho, _⟩ := ht; exact Nat.ne_of_lt (Heap.lt_size ho)
  rw [assign_Tuple]
  refine wpAny_bind (wpAny_standAt ?_)
  unfold unpack
  rw [hn, hstar]
  refine wpAny_bind (wpAny_holding ?_)
  unfold unpackItems
  refine wpAny_bind ?_
  unfold notIterableAtAll
  refine wpAny_bind (wpAny_specialOf ht.typeIs F.slot_tuple_iter.lookup ?_)
  refine wpAny_pure ?_
  simp only [Bool.false_eq_true, if_false]
  refine wpAny_bind (wpAny_holding (wpAny_pyIter_tuple ht ?_))
  refine wpAny_bind (wpAny_holding (wpAny_draw_tuple hlt items.size 0 _ _ ⟨_, Heap.get?_push_size _ rfl, rfl, rfl⟩ (ht.push _) (by omega) fun h₁ hit₁ hs₁ => ?_))
  have hall : List.take items.size (List.drop 0 items.toList) = items.toList := by
    rw [List.drop_zero]; exact List.take_of_length_le (by simp)
  rw [hall, if_neg (by simp)]
  have ht₁ : h₁.IsTuple t items := (ht.push _).extBut hs₁.extBut hlt
  have hb₁ : Bare h₁ e := hb.keeps fun o q => hs₁.extBut e o (Nat.ne_of_lt lte) (Heap.get?_push_of_some _ q)
  refine wpAny_bind (wpAny_holding (tuple_end_h hh hb₁ (Ne.symm (Nat.ne_of_lt lte)) hit₁ ht₁ (by simp) fun h₂ he₂ => ?_))
  simp only [Option.isSome_none, Bool.false_eq_true, if_false]
  exact wpAny_pure (h h₂ fun b o hb q => he₂ b o hb (hs₁.extBut b o hb (Heap.get?_push_of_some _ q)))
end
end Mine

/-! part R1 -/
namespace Mine
open _root_.PySem _root_.PySem.W _root_.PySem.Calls _root_.PyProof.Rows
example : True := by w_top off; trivial

section
variable {prog : Program} {w : World} {A : Around} {E : Value → Shared → Prop} {s : Shared} {h₀ : Heap} {env : Env} {m : PySem.Str → Option Value} {news : Led}
def RangeStep (prog : Program) (w : World) (A : Around) (s : Shared) (h₀ : Heap) (env : Env) (x : PySem.Str) (body : List Stmt) (Q : Flow → Shared → Prop) (E : Value → Shared → Prop) (n : Nat) (B : Heap → Prop) (J : Nat → (PySem.Str → Option Value) → Led → Prop) : Prop :=
  ∀ {i t m₁ news₁ m₂ h tk own} (T : Flow → Shared → Prop), i < n → B h → J i m₁ news₁ → (∀ q ∈ news₁, ∀ p ∈ own, q.1 ≠ p.1) → m₂ x = some (.int (i : Int) t) → (∀ y, y ≠ x → m₂ y = m₁ y) → Fr h₀ env.locals h m₂ → News h₀ env.locals h (news₁ ++ own) →
      (∀ {h' tk' m' news'}, Fr h₀ env.locals h' m' → News h₀ env.locals h' (news' ++ own) → (∀ p ∈ news', p.1 ∈ news₁.map (·.1) ∨ h.get? p.1 = none) → J (i + 1) m' news' → T .next { s with heap := h', toks := tk' }) →
      (∀ {v s'}, Q (.ret v) s' → T (.ret v) s') →
      wpAny (model prog w) A (execs body env) T E { s with heap := h, toks := tk }

theorem for_range_gen {Q : Flow → Shared → Prop} {x : PySem.Str} {body : List Stmt} {r : Addr} {n : Nat} {t u v : Tok} {ex : List Addr} {B : Heap → Prop}
    (W : ∀ I, I ∉ ex → Walks prog w A I (I :: ex) [I] n (fun i v => ∃ t, v = .int (0 + (i : Nat) * 1) t) (fun i h => IsRangeIter h I (0 + (i : Nat) * 1) ((n : Int) - (i : Nat)) 1 ∧ B h))
    (hB : B s.heap) (hBk : ∀ h h', (∀ b o, h.get? b = some o → h'.get? b = some o) → B h → B h') (hBl : ∀ h, B h → ∀ b ∈ ex, h.get? b ≠ none)
    (hexL : env.locals ∉ ex) (hexN : ∀ p ∈ news, p.1 ∉ ex) (hB0 : ∀ h, Fr h₀ env.locals h m → B h₀)
    (hr : IsRange s.heap r 0 n 1 t u v) (hn : n ≤ 1000)
    (F : Fr h₀ env.locals s.heap m) (N : News h₀ env.locals s.heap news) (J : Nat → (PySem.Str → Option Value) → Led → Prop) (hJ : J 0 m news)
    (step : RangeStep prog w A s h₀ env x body Q E n B J)
    (done : ∀ {h' tk m' news'}, Fr h₀ env.locals h' m' → News h₀ env.locals h' news' → J n m' news' → Q .next { s with heap := h', toks := tk }) :
    wpAny (model prog w) A (pyIter (.ref r)) (fun it s₂ => LoopAtV prog w A h₀ env x body Q E it s₂) E s := by
  have hL : @LT.lt Nat _ env.locals s.heap.objs.size := by obtain ⟨oL, _, _, hL, _⟩ := F.ns; exact Heap.lt_size hL
  have hnone : s.heap.get? s.heap.objs.size = none := Heap.get?_none_of_le (Nat.le_refl _)
  have hI : s.heap.objs.size ≠ env.locals := Nat.ne_of_gt hL
  have hIe : s.heap.objs.size ∉ ex := fun q => hBl _ hB _ q hnone
  have hsz : Builtin.Range.rangeSize 0 n 1 = n := by
    unfold Builtin.Range.rangeSize
    simp
    omega
  have hsm : Builtin.Range.small 0 n 1 = true := by
    unfold Builtin.Range.small
    rw [hsz]
    unfold Builtin.Range.rangeFitsLong
    simp
    omega
  have hB1 := hB0 _ F
  refine wpAny_pyIter_range hr hsm ?_
  rw [hsz]
  have hpush : ∀ b o, s.heap.get? b = some o → (s.heap.push { cls := .type "range_iterator", data := .fields #[rawInt 0, rawInt (n : Int), rawInt 1] }).get? b = some o := fun b o e => Heap.get?_push_of_some _ e
  refine for_walk (W _ hIe) (by simp [Ne.symm hI, hexL]) (fun b hb => by rw [List.mem_singleton.mp hb]; exact next_is_new F) (fun p hp hq => ?_) ⟨?_, hBk _ _ hpush hB⟩ (fun i h st b hb q => ?_) (F.push _) (N.grown hpush) J hJ ?_ (fun F' N' hJ' => done F' N' hJ')
  · rcases List.mem_cons.mp hq with e | e
    · have := (N p hp).1; rw [e, hnone] at this; cases this
    · exact hexN p hp e
  · have := Heap.get?_push_size (h := s.heap) (o := { cls := .type "range_iterator", data := .fields #[rawInt 0, rawInt (n : Int), rawInt 1] }) rfl
    simpa using this
  · rcases List.mem_cons.mp hb with e | e
    · have h1 := q
      rw [e, show h.get? s.heap.objs.size = _ from st.1] at h1; cases h1
    · exact hBl _ st.2 _ e q
  · rintro i v m₁ news₁ m₂ h tk own T hi ⟨t, rfl⟩ hJ₁ hne hx hm F₁ N₁ nxt rt
    have e : (0 + ((i : Nat) : Int) * 1) = (i : Int) := by omega
    rw [e] at hx
    exact step T hi (hBk _ _ F₁.keep hB1) hJ₁ hne hx hm F₁ N₁ nxt rt

/-- a range under a handled exception that stands in the base -/
theorem for_range_h {Q : Flow → Shared → Prop} {x : PySem.Str} {body : List Stmt} {r e : Addr} {n : Nat} {t u v : Tok} (hh : A.handled = some (.ref e)) (hb : Bare h₀ e)
    (hr : IsRange s.heap r 0 n 1 t u v) (hn : n ≤ 1000)
    (F : Fr h₀ env.locals s.heap m) (N : News h₀ env.locals s.heap news) (J : Nat → (PySem.Str → Option Value) → Led → Prop) (hJ : J 0 m news)
    (step : RangeStep prog w A s h₀ env x body Q E n (fun h => Bare h e) J)
    (done : ∀ {h' tk m' news'}, Fr h₀ env.locals h' m' → News h₀ env.locals h' news' → J n m' news' → Q .next { s with heap := h', toks := tk }) :
    wpAny (model prog w) A (pyIter (.ref r)) (fun it s₂ => LoopAtV prog w A h₀ env x body Q E it s₂) E s := by
  obtain ⟨oe, vs, he, r1, r2⟩ := id hb
  refine for_range_gen (ex := [e]) (B := fun h => Bare h e) (fun I hI => walks_range_h hh I (fun q => hI (by simp [q])) 0 1 n) (hb.keeps fun o q => F.keep _ _ q) (fun _ _ k x => x.keeps fun o q => k _ _ q) (fun h x b hb q => ?_) (fun q => ?_) (fun p hp q => ?_) (fun _ _ => hb) hr hn F N J hJ step done
  · obtain ⟨o, _, ho, _⟩ := x
    rw [List.mem_singleton.mp hb, ho] at q; cases q
  · have h1 := Heap.lt_size he
    have h2 := F.above
    rw [List.mem_singleton.mp q] at h2
    exact absurd (Nat.lt_of_lt_of_le h1 h2) (Nat.lt_irrefl _)
  · have := (N p hp).2.2
    rw [List.mem_singleton.mp q, he] at this; cases this

theorem for_range0 {Q : Flow → Shared → Prop} {x : PySem.Str} {body : List Stmt} {r : Addr} {n : Nat} {t u v : Tok} (hh : A.handled = none)
    (hr : IsRange s.heap r 0 n 1 t u v) (hn : n ≤ 1000)
    (F : Fr h₀ env.locals s.heap m) (N : News h₀ env.locals s.heap news) (J : Nat → (PySem.Str → Option Value) → Led → Prop) (hJ : J 0 m news)
    (step : RangeStep prog w A s h₀ env x body Q E n (fun _ => True) J)
    (done : ∀ {h' tk m' news'}, Fr h₀ env.locals h' m' → News h₀ env.locals h' news' → J n m' news' → Q .next { s with heap := h', toks := tk }) :
    wpAny (model prog w) A (pyIter (.ref r)) (fun it s₂ => LoopAtV prog w A h₀ env x body Q E it s₂) E s := by
  refine for_range_gen (ex := []) (B := fun _ => True) (fun I hI => ?_) trivial (fun _ _ _ _ => trivial) (fun h x b hb q => by cases hb) (by simp) (by simp) (fun _ _ => trivial) hr hn F N J hJ step done
  have W := Walks.range (prog := prog) (w := w) hh I 0 1 n
  exact ⟨W.sub, fun i h h' st k => ⟨W.frame i h h' st.1 k, trivial⟩, fun i s Q E hi st hQ => W.item i s Q E hi st.1 fun v h' tk p st' k => hQ v h' tk p ⟨st', trivial⟩ k, fun s Q E st hQ => W.done s Q E st.1 hQ, fun i s Q E st hQ => W.self i s Q E st.1 hQ⟩
end
end Mine

/-! part P1 -/
namespace Mine
open _root_.PySem _root_.PySem.W _root_.PySem.Calls _root_.PyProof.Rows
example : True := by w_top off; trivial

local macro_rules | `(tactic| k_ne) => `(tactic| (refine neN ?_; (try dsimp only); first | with_reducible assumption | exact Ne.symm (by with_reducible assumption) | omega))

abbrev lawText : PySem.Str := PySem.Str.ofString "a\nb c\n\nd e f g"
abbrev Around.un (A : Around) : Around := { A with handled := none }
def PlaceSpec (w : World) (H : Heap) : Prop := ∀ (A : Around) (s : Shared) (R : Result → Shared → Prop) (e : Addr) (t t' : Tok),
  Room (Around.un A) 2 40 → A.handled = some (.ref e) → Bare s.heap e → H.StaysIn s.heap →
  (∀ {h' tk' r n k k'}, Ext [] s.heap h' → s.heap.get? r = none → h'.get? r = some (tupO [.int 4 k, .int 5 k'] n) → R (.ok (.ret (.ref r))) { s with heap := h', toks := tk' }) →
  codeAny (model PySem.Challenge.pw_pq0447_01 w) A (.call (.ref 54) ⟨[.str lawText t, .int 11 t'], []⟩) R s

theorem min_call {w : World} {prog : Program} {h₀ : Heap} {A : Around} {s : Shared} {L e : Addr} {m : PySem.Str → Option Value} {news : Led} {a b : Int} {t u : Tok} {Q E : Value → Shared → Prop} (hh : A.handled = some (.ref e)) (hb : Bare h₀ e) (hab : ¬ (b < a)) (F : Fr h₀ L s.heap m) (N : News h₀ L s.heap news)
    (k : ∀ h' tk', Fr h₀ L h' m → News h₀ L h' news → Q (.int a t) { s with heap := h', toks := tk' }) :
    wpAny (model prog w) A (call (.builtin "min") [.int a t, .int b u]) Q E s := min_two_h hh (hb.keeps fun o q => F.keep _ _ q) hab fun h' tk kk => k h' tk (F.grownK kk) (N.grown kk)
theorem max_call {w : World} {prog : Program} {h₀ : Heap} {A : Around} {s : Shared} {L e : Addr} {m : PySem.Str → Option Value} {news : Led} {a b : Int} {t u : Tok} {Q E : Value → Shared → Prop} (hh : A.handled = some (.ref e)) (hb : Bare h₀ e) (hab : ¬ (b > a)) (F : Fr h₀ L s.heap m) (N : News h₀ L s.heap news)
    (k : ∀ h' tk', Fr h₀ L h' m → News h₀ L h' news → Q (.int a t) { s with heap := h', toks := tk' }) :
    wpAny (model prog w) A (call (.builtin "max") [.int a t, .int b u]) Q E s := max_two_h hh (hb.keeps fun o q => F.keep _ _ q) hab fun h' tk kk => k h' tk (F.grownK kk) (N.grown kk)

def rowAt (i : Nat) : Int := if i < 2 then 1 else if i < 6 then 2 else if i < 7 then 3 else 4
def startAt (i : Nat) : Int := if i < 2 then 0 else if i < 6 then 2 else if i < 7 then 6 else 7
def PlaceInv (t t' : Tok) (i : Nat) (m : PySem.Str → Option Value) (news : Led) : Prop :=
  news = [] ∧ m (PySem.Str.ofString "text") = some (.str lawText t) ∧ m (PySem.Str.ofString "at") = some (.int 11 t') ∧ ∃ k k', m (PySem.Str.ofString "row") = some (.int (rowAt i) k) ∧ m (PySem.Str.ofString "start") = some (.int (startAt i) k')
theorem loadName_any {M : Model} {A : Around} {E : Value → Shared → Prop} {s : Shared} {env : Env} {h₀ : Heap} {m : PySem.Str → Option Value} {x : PySem.Str} {v : Value} {Q : Value → Shared → Prop} (F : Fr h₀ env.locals s.heap m) (hv : m x = some v) (h : Q v s)
    (hk : env.scope.kind = .function) (hl : env.kindOf x = some .local) : wpAny M A (loadName env x) Q E s := wpAny_loadName_local hk hl F.ns hv h

set_option maxHeartbeats 8000000 in
theorem place_spec {w : World} {lo : List PySem.Str} {mean : ExcName → Option Value} {mg mb : PySem.Str → Option Value} {H : Heap} (G : Root w lo mean mg mb H) : PlaceSpec w H := by
  intro A s R e t t' hr hh hbare st ret
  obtain ⟨handled, dp, fr, gd, un⟩ := A
  obtain rfl : handled = some (.ref e) := hh
  have X := G.X
  have T := G.T
  refine' enterN (K := Mine.hd.heap_39 w.params) (binds := [(PySem.Str.ofString "text", .str lawText t), (PySem.Str.ofString "at", .int 11 t')]) [] X T st ?N ?k6 ?k7 ?k8 ?k9 ?kB ?_ ?c2 ?c3 ?c4 ?c5
  case N => intro q hq; cases hq
  ((try (case k6 => k_is)); (try (case k7 => k_is)); (try (case k8 => (have := Room.depth (by assumption); dsimp only at this ⊢; omega))); (try (case k9 => exact BindsTo.of_eq rfl)); (try (case c5 => decide)); (try (case kB => exact locs rfl)); (try (case c2 => exact rfl)); (try (case c3 => exact rfl)); (try (case c4 => exact rfl)))
  intro g' L' h' hg st' F' N' X' T'
  have hg' : g' = s.heap := hg
  have hbare' : Bare g' e := hg'.symm ▸ hbare
  (try dsimp only)
  (try k_fold)
  (repeat' (first | ((with_reducible show wpAny _ _ (call (Value.builtin "min") _) _ _ _); (k_dflt (refine' min_call ?zqhh ?zqhb ?zqhab ?zqF ?zqN ?_; (case zqhh => exact rfl); (case zqhb => assumption); (case zqhab => first | decide | omega); (case zqF => k_asm); (case zqN => k_asm); k_whole); intro zh ztk zF zN; (try k_sweep))) | ((with_reducible show wpAny _ _ (exec (Stmt.For ..) _) _ _ _); ((rename Fr _ _ _ _ => zlF); (with_unfolding_all refine' for_here zlF ?zqk1 ?zqk2 ?zqhE ?zqhs ?_; (case zqk1 => exact rfl); (case zqk2 => exact rfl); (case zqhs => intro _; exact rfl); (case zqhE => first | passes_own | with_unfolding_all passes_own); k_whole))) | (k_unfold; (try dsimp only)) | (k_end; kc_close) | walk1 | (dsimp only; walk1) | (leave1; walk_say "STEP leave1"; (try dsimp only)) | fail "no step"))
  rename Fr _ _ _ _ => F5
  rename News _ _ _ _ => N5
  refine for_range_h (n := 11) rfl hbare' (by assumption) (by decide) F5 N5 (PlaceInv t t') ⟨rfl, rfl, rfl, _, _, rfl, rfl⟩ ?_ ?_
  · intro i ti m₁ news₁ m₂ h tk own P' hi hB hJ hne hx hm F₁ N₁ nxt rt
    have X1 := X'.keeps F₁.keep
    have T1 := T'.keeps F₁.keep
    obtain ⟨rfl, htx, hat, k, k', hrow, hst⟩ := hJ
    have htx := (hm (PySem.Str.ofString "text") (by decide)).trans htx
    have hat := (hm (PySem.Str.ofString "at") (by decide)).trans hat
    have hrow := (hm (PySem.Str.ofString "row") (by decide)).trans hrow
    have hst := (hm (PySem.Str.ofString "start") (by decide)).trans hst
    rw [List.nil_append] at N₁
    clear F5 N5 hm
    have hi' : i = 0 ∨ i = 1 ∨ i = 2 ∨ i = 3 ∨ i = 4 ∨ i = 5 ∨ i = 6 ∨ i = 7 ∨ i = 8 ∨ i = 9 ∨ i = 10 := by omega
    rcases hi' with rfl | rfl | rfl | rfl | rfl | rfl | rfl | rfl | rfl | rfl | rfl
    all_goals (repeat' (first | ((with_reducible show wpAny _ _ (loadName _ _) _ _ _); (k_dflt (refine' loadName_any ?zqF ?zqv ?_ ?zqa ?zqb; (case zqF => k_asm); (case zqa => exact rfl); (case zqb => exact rfl); (case zqv => (first | assumption | exact Eq.trans (if_neg (by decide)) (by assumption) | exact Eq.trans (if_neg (by decide)) (Eq.trans (if_neg (by decide)) (by assumption)) | fail "no")); k_whole))) | ((with_reducible show wpAny _ _ (eval (Expr.Name ..) _) _ _ _); (k_dflt (refine' name_any ?zqF ?zqv ?_ ?zqa ?zqb ?zqc; (case zqF => k_asm); (case zqa => exact rfl); (case zqb => exact rfl); (case zqv => (first | assumption | exact Eq.trans (if_neg (by decide)) (by assumption) | exact Eq.trans (if_neg (by decide)) (Eq.trans (if_neg (by decide)) (by assumption)) | fail "no")); (case zqc => decide); k_whole))) | (k_unfold; (try dsimp only)) | (k_end; kc_close) | walk1 | (dsimp only; walk1) | (leave1; walk_say "STEP leave1"; (try dsimp only)) | fail "no step"))
    all_goals (rename Fr _ _ _ _ => F8; rename News _ _ _ _ => N8; exact nxt (news' := []) F8 N8 (fun p hp => by cases hp) ⟨rfl, by (first | assumption | exact rfl | exact Eq.trans (if_neg (by decide)) (by assumption) | exact Eq.trans (if_neg (by decide)) (Eq.trans (if_neg (by decide)) (by assumption)) | fail "no"), by (first | assumption | exact rfl | exact Eq.trans (if_neg (by decide)) (by assumption) | exact Eq.trans (if_neg (by decide)) (Eq.trans (if_neg (by decide)) (by assumption)) | fail "no"), _, _, by (first | assumption | exact rfl | exact Eq.trans (if_neg (by decide)) (by assumption) | exact Eq.trans (if_neg (by decide)) (Eq.trans (if_neg (by decide)) (by assumption)) | fail "no"), by (first | assumption | exact rfl | exact Eq.trans (if_neg (by decide)) (by assumption) | exact Eq.trans (if_neg (by decide)) (Eq.trans (if_neg (by decide)) (by assumption)) | fail "no")⟩)
  · intro h' tk m' news' F' N' hJ
    clear F5 N5
    obtain ⟨rfl, htx, hat, k, k', hrow, hst⟩ := hJ
    (repeat' (first | ((with_reducible show wpAny _ _ (eval (Expr.Name ..) _) _ _ _); (k_dflt (refine' name_any ?zqF ?zqv ?_ ?zqa ?zqb ?zqc; (case zqF => k_asm); (case zqa => exact rfl); (case zqb => exact rfl); (case zqv => (first | assumption | exact Eq.trans (if_neg (by decide)) (by assumption) | exact Eq.trans (if_neg (by decide)) (Eq.trans (if_neg (by decide)) (by assumption)) | fail "no")); (case zqc => decide); k_whole))) | ((with_reducible show wpAny _ _ (call (Value.builtin "max") _) _ _ _); (k_dflt (refine' max_call ?zqhh ?zqhb ?zqhab ?zqF ?zqN ?_; (case zqhh => exact rfl); (case zqhb => assumption); (case zqhab => first | decide | omega); (case zqF => k_asm); (case zqN => k_asm); k_whole); intro zh ztk zF zN; (try k_sweep))) | (k_unfold; (try dsimp only)) | (k_end; kc_close) | walk1 | (dsimp only; walk1) | (leave1; walk_say "STEP leave1"; (try dsimp only)) | fail "no step"))
    rename Fr _ _ _ _ => F8
    rename News _ _ _ _ => N8
    have hD := N8 _ (.head _)
    exact ret (Ext.of_fr hg F8) (none_of_hide hg hD.2.2 (by simp)) hD.1
end Mine

/-! part D1 -/
namespace Mine
open _root_.PySem _root_.PySem.W _root_.PySem.Calls _root_.PyProof.Rows
example : True := by w_top off; trivial

local macro_rules | `(tactic| k_ne) => `(tactic| (refine neN ?_; (try dsimp only); first | with_reducible assumption | exact Ne.symm (by with_reducible assumption) | omega))

/-- an error object whose three names are known -/
structure ErrVals (w : World) (h : Heap) (e C : Addr) (a b c : Value) : Prop where
  obj : ∃ oe vs dx od k1 k2 k3, h.get? e = some oe ∧ oe.cls = .ref C ∧ oe.dict = some dx ∧ oe.data = .fields vs ∧ vs[2]? = some .none ∧ h.get? dx = some od ∧ od.data = (initDict w k1 k2 k3 a b c).data
theorem ErrVals.keeps {w : World} {h h' : Heap} {e C : Addr} {a b c : Value} (x : ErrVals w h e C a b c) (k : ∀ b o, h.get? b = some o → h'.get? b = some o) : ErrVals w h' e C a b c := by
  obtain ⟨oe, vs, dx, od, k1, k2, k3, e1, e2, e3, e4, e5, e6, e7⟩ := x.obj
  exact ⟨oe, vs, dx, od, k1, k2, k3, k _ _ e1, e2, e3, e4, e5, k _ _ e6, e7⟩
theorem ErrVals.bare {w : World} {h : Heap} {e C : Addr} {a b c : Value} (x : ErrVals w h e C a b c) : Bare h e := by
  obtain ⟨oe, vs, dx, od, k1, k2, k3, e1, e2, e3, e4, e5, e6, e7⟩ := x.obj
  exact ⟨oe, vs, e1, e4, e5⟩
theorem notCls_fields {o : Obj} {vs : Array Value} (e : o.data = .fields vs) : notCls o = true := by
  obtain ⟨c, d, da, sl⟩ := o
  dsimp only at e
  subst e; rfl
theorem err_attr {ps : Params} {prog : Program} {w : World} {A : Around} {E : Value → Shared → Prop} {s : Shared} {e C : Addr} {a b c v : Value} {name : PySem.Str} {expr : Bool} {Q : Value → Shared → Prop} (X : (Mine.hd.heap_39 ps).In s.heap) (hC : ErrCls C) (x : ErrVals w s.heap e C a b c)
    (hn : (name = PySem.Str.ofString "kind" ∧ v = a) ∨ (name = PySem.Str.ofString "at" ∧ v = b) ∨ (name = PySem.Str.ofString "detail" ∧ v = c)) (hh : handedIn v = true) (h : Q v { s with toks := s.toks + 1 }) :
    wpAny (model prog w) A (getAttr (.ref e) name expr) Q E s := by
  obtain ⟨cd, EF⟩ := err_facts (ps := ps) hC
  obtain ⟨oe, vs, dx, od, k1, k2, k3, e1, e2, e3, e4, e5, e6, e7⟩ := x.obj
  have I : InstAt s.heap e oe C (some od) := ⟨e1, e2, notCls_fields e4, by rw [e3]; exact e6⟩
  have hd : hasDictIn (Mine.hd.heap_39 ps) C = true := by unfold hasDictIn; rw [EF.cls]; exact EF.dc
  have fin : ∀ n v, findIn (Mine.hd.heap_39 ps) (.ref C) n = some none → lookIn n od = some (some v) → findObj (Mine.hd.heap_39 ps) C (some od) n = some (.value v) := fun n v h1 h2 => findObj_own hd h1 rfl h2
  rcases hn with ⟨rfl, rfl⟩ | ⟨rfl, rfl⟩ | ⟨rfl, rfl⟩
  · exact ex_get X I EF.ga EF.gh EF.be (fin _ _ EF.kind (by unfold lookIn; rw [e7]; rfl)) hh h
  · exact ex_get X I EF.ga EF.gh EF.be (fin _ _ EF.at_ (by unfold lookIn; rw [e7]; rfl)) hh h
  · exact ex_get X I EF.ga EF.gh EF.be (fin _ _ EF.detail (by unfold lookIn; rw [e7]; rfl)) hh h

def DescribeSpec (w : World) (H : Heap) : Prop := ∀ (A : Around) (s : Shared) (R : Result → Shared → Prop) (e : Addr) (t k1 k2 k3 : Tok),
  Room (Around.un A) 4 60 → A.handled = some (.ref e) → ErrVals w s.heap e 45 (.str (PySem.Str.ofString "unknown_parameter") k1) (.int 11 k2) (.str (PySem.Str.ofString "zz") k3) → H.StaysIn s.heap →
  (∀ {h' tk' k}, Ext [] s.heap h' → R (.ok (.ret (.str (PySem.Str.ofString "4:5: unknown_parameter (zz)") k))) { s with heap := h', toks := tk' }) →
  codeAny (model PySem.Challenge.pw_pq0447_01 w) A (.call (.ref 61) ⟨[.ref e, .str lawText t], []⟩) R s

theorem place_call {w : World} {H h₀ : Heap} {A : Around} {s : Shared} {L e : Addr} {m : PySem.Str → Option Value} {news : Led} {t t' : Tok} {Q E : Value → Shared → Prop} (PS : PlaceSpec w H) (R : Room (Around.un A) 2 40) (hh : A.handled = some (.ref e)) (hb : Bare s.heap e) (F : Fr h₀ L s.heap m) (N : News h₀ L s.heap news) (st : H.StaysIn h₀)
    (k : ∀ h' tk' r n k k', Fr h₀ L h' m → News h₀ L h' ((r, tupO [.int 4 k, .int 5 k'] n) :: news) → (∀ p ∈ news, p.1 ≠ r) → Q (.ref r) { s with heap := h', toks := tk' }) :
    wpAny (model PySem.Challenge.pw_pq0447_01 w) A (call (.ref 54) [.str lawText t, .int 11 t']) Q E s := by
  refine wpAny_call (PS A s _ e t t' R hh hb (fun b o e => F.keep b o (st b o e)) @fun h' tk' r n k1 k2 x e0 e => ?_)
  obtain ⟨F', N', l⟩ := news_fresh F N x e0 e
  exact k h' tk' r n k1 k2 F' N' l
theorem unpack_call {w : World} {prog : Program} {h₀ : Heap} {A : Around} {s : Shared} {L e : Addr} {m : PySem.Str → Option Value} {news : Led} {env : Env} {elts : List Expr} {x1} {pos : Pos} {t : Addr} {xs : List Value} {n : Nat} {Q : Unit → Shared → Prop} {E : Value → Shared → Prop} (hh : A.handled = some (.ref e)) (hb : Bare h₀ e) (F : Fr h₀ L s.heap m) (N : News h₀ L s.heap news) (hm : (t, tupO xs n) ∈ news)
    (hn : (assignEach elts env).length = xs.length) (hstar : (assignEach elts env).findIdx? (·.1) = none)
    (k : ∀ h', Fr h₀ L h' m → News h₀ L h' news → wpAny (model prog w) A (assignInOrder ((assignEach elts env).map (·.2)) xs) Q E { s with heap := h' }) :
    wpAny (model prog w) A (assign (.Tuple elts x1 pos) env (.ref t)) Q E s :=
  unpack_h (items := xs.toArray) hh (hb.keeps fun o q => F.keep _ _ q) (News.isTup N hm) (by rw [hn, List.size_toArray]) hstar fun h' he => k h' (F.extBut he (Nat.le_refl _)) (N.extBut he (Nat.le_refl _))

set_option maxHeartbeats 8000000 in
theorem describe_spec {w : World} {lo : List PySem.Str} {mean : ExcName → Option Value} {mg mb : PySem.Str → Option Value} {H : Heap} (G : Root w lo mean mg mb H) (PS : PlaceSpec w H) : DescribeSpec w H := by
  intro A s R e t k1 k2 k3 hr hh hv st ret
  obtain ⟨handled, dp, fr, gd, un⟩ := A
  obtain rfl : handled = some (.ref e) := hh
  have X := G.X
  have T := G.T
  refine' enterN (K := Mine.hd.heap_39 w.params) (binds := [(PySem.Str.ofString "error", .ref e), (PySem.Str.ofString "text", .str lawText t)]) [] X T st ?N ?k6 ?k7 ?k8 ?k9 ?kB ?_ ?c2 ?c3 ?c4 ?c5
  case N => intro q hq; cases hq
  ((try (case k6 => k_is)); (try (case k7 => k_is)); (try (case k8 => (have := Room.depth (by assumption); dsimp only at this ⊢; omega))); (try (case k9 => exact BindsTo.of_eq rfl)); (try (case c5 => decide)); (try (case kB => exact locs rfl)); (try (case c2 => exact rfl)); (try (case c3 => exact rfl)); (try (case c4 => exact rfl)))
  intro g' L' h' hg st' F' N' X' T'
  have hg' : g' = s.heap := hg
  have hv' : ErrVals w g' e 45 _ _ _ := hg'.symm ▸ hv
  (try dsimp only)
  (try k_fold)
  (repeat' (first | (((with_reducible show wpAny _ _ (call (Value.ref 54) _) _ _ _); k_dflt (refine' place_call ?zqPS ?zqR ?zqhh ?zqhb ?zqF ?zqN ?zqst ?_; (case zqPS => assumption); (case zqR => (refine Room.deeper (Room.weaken (by assumption) ?_ ?_) <;> omega)); (case zqhh => exact rfl); (case zqhb => exact ErrVals.bare (ErrVals.keeps (by assumption) (Fr.keep (by k_asm)))); (case zqF => k_asm); (case zqN => k_asm); (case zqst => assumption); k_whole); intro zh ztk zr zn zk1 zk2 zF zN zl; (try k_sweep))) | ((with_reducible show wpAny _ _ (assign (Expr.Tuple ..) _ _) _ _ _); ((with_reducible show wpAny _ _ (assign (Expr.Tuple _ _ _) _ (Value.ref _)) _ _ _); k_dflt (refine' unpack_call ?zqhh ?zqhb ?zqF ?zqN ?zqm ?zqhn ?zqhs ?_; (case zqF => k_asm); (case zqN => k_asm); (case zqm => k_mem); (case zqhh => exact rfl); (case zqhb => exact ErrVals.bare (by assumption)); (case zqhn => exact rfl); (case zqhs => exact rfl); k_whole); intro zh zF zN; (try k_sweep))) | ((with_reducible show wpAny _ _ (getAttr (Value.ref _) _ _) _ _ _); (k_dflt (refine' err_attr ?zqX ?zqC ?zqx ?zqn ?zqh ?_; (case zqx => exact ErrVals.keeps (by assumption) (Fr.keep (by k_asm))); (case zqX => first | assumption | exact Frag.In.keeps (by k_asm) (Fr.keep (by k_asm))); (case zqC => exact .inr rfl); (case zqn => first | exact .inl ⟨rfl, rfl⟩ | exact .inr (.inl ⟨rfl, rfl⟩) | exact .inr (.inr ⟨rfl, rfl⟩)); (case zqh => exact rfl); k_whole))) | (k_unfold; (try dsimp only)) | (k_end; kc_close) | walk1 | (dsimp only; walk1) | (leave1; walk_say "STEP leave1"; (try dsimp only)) | fail "no step"))
  rename Fr _ _ _ _ => F9
  have e : Str.empty ++ Str.ofString (toString (4 : Int)) ++ Str.ofString ":" ++ Str.ofString (toString (5 : Int)) ++ Str.ofString ": " ++ Str.ofString "unknown_parameter (zz)" = Str.ofString "4:5: unknown_parameter (zz)" := by decide +kernel
  dsimp only
  rw [e]
  exact ret (Ext.of_fr hg F9)
end Mine

/-! part C1 -/
namespace Mine
open _root_.PySem _root_.PySem.W _root_.PySem.Calls _root_.PyProof.Rows
example : True := by w_top off; trivial

section
variable {prog : Program} {w : World} {A : Around} {E : Value → Shared → Prop} {s : Shared} {env : Env}
theorem handle_err {K : Frag} {e C : Addr} {t : Expr} {n : PySem.Str} {b₀ : Stmt} {suite : List Stmt} {pos : Pos} {rest : List ExceptHandler} {Q : Flow → Shared → Prop} (O : ErrObj K C)
    (h : wpAny (model prog w) (A.mark (some (.ref e))) (eval t env) (fun c s₁ => c = .ref C ∧ K.In s₁.heap ∧ (∃ oe, s₁.heap.get? e = some oe ∧ oe.cls = .ref C) ∧
      wpAny (model prog w) (A.mark (some (.ref e))) (setFlight (.ref e) none) (fun _ s₂ =>
          wpAny (model prog w) (A.mark (some (.ref e))) (storeName env n (.ref e)) (fun _ s₃ =>
            wpAny (model prog w) (A.mark (some (.ref e))) (execs (b₀ :: suite) env)
              (fun f s₄ => wpAny (model prog w) A (do bindName env n .none; unbindBehindTheSuite env n pos) (fun _ s₅ => Q f s₅) E s₄) (fun _ _ => False) s₃) (fun _ _ => False) s₂) (fun _ _ => False) s₁) (fun _ _ => False) s) :
    wpAny (model prog w) A (handleBy (.ref e) env (.ExceptHandler (some t) (some n) (b₀ :: suite) pos :: rest)) Q E s := by
  refine wpAny_handleBy_cons (codeAny_handlers_test (wpAny_mono (wpAny_noRaise h) (fun c s₁ h₁ => ?_) fun _ _ y => y)) (by intro q; cases q)
  obtain ⟨rfl, X, ⟨oe, he, hcls⟩, hk⟩ := h₁
  obtain ⟨nm, q, N, bs, bm, hdct, sn, sub, ab, col, dd, k0, k1, k2, k3, k5, hl, b1, b6, b2, b3, b5⟩ := O.obj
  have hB : bm.contains (.type "BaseException") = true := by
    rw [List.contains_cons] at b6
    rcases Bool.or_eq_true _ _ ▸ b6 with z | z
    · exact absurd z (by rw [show (Value.type "BaseException" == Value.ref C) = false from rfl]; exact Bool.false_ne_true)
    · exact z
  obtain ⟨hh, g, d, tk, os⟩ := s₁
  refine wpAny_excMatches_sub_self (X _ _ hl) he hcls hB (codeAny_handlers_suite_as ?_)
  exact wpAny_noRaise (wpAny_mono hk (fun _ s₂ h₂ => wpAny_noRaise (wpAny_mono h₂ (fun _ s₃ h₃ => wpAny_noRaise h₃) fun _ _ z => z)) fun _ _ z => z)
end

section
variable {prog : Program} {w : World} {A₀ : Around} {E : Value → Shared → Prop} {s' : Shared} {base : Heap} {outer : List Env} {L a e C dx : Addr} {m : PySem.Str → Option Value} {name : PySem.Str} {scope : Scope} {cd : Value}
  {n : PySem.Str} {b₀ : Stmt} {suite : List Stmt} {pos np : Pos} {rest : List ExceptHandler} {Q : Flow → Shared → Prop} {K : Frag} {p : Program} {lo : List PySem.Str} {mg mb : PySem.Str → Option Value} {x : PySem.Str}
theorem caught_err (O : ErrObj K C) (hs : A₀.frames = some outer) (F : Fr base L s'.heap m) (fr : s'.heap.FunFrames base (envOf name scope L a cd :: outer)) (hen : base.get? e = none) (er : ErrAt s'.heap base e C dx .none)
    (X : K.In base) (T : TopRead p lo mg mb base) (hx : nsIn K mainGlobals x = some (some (.ref C)))
    (k : ∀ h', Flown base (envOf name scope L a cd :: outer) s'.heap h' → ErrAt h' base e C dx .none →
      wpAny (model prog w) ((A₀.deeper (envOf name scope L a cd)).mark (some (.ref e))) (storeName (envOf name scope L a cd) n (.ref e)) (fun _ s₃ =>
        wpAny (model prog w) ((A₀.deeper (envOf name scope L a cd)).mark (some (.ref e))) (execs (b₀ :: suite) (envOf name scope L a cd))
          (fun f s₄ => wpAny (model prog w) (A₀.deeper (envOf name scope L a cd)) (do bindName (envOf name scope L a cd) n .none; unbindBehindTheSuite (envOf name scope L a cd) n pos) (fun _ s₅ => Q f s₅) E s₄) (fun _ _ => False) s₃) (fun _ _ => False) { s' with heap := h' })
    (hk : scope.kind = .function := by rfl) (hxk : (envOf name scope L a cd).kindOf x = some .globalImplicit := by rfl) (hd : (x == ("__debug__" : Str)) = false := by decide) :
    wpAny (model prog w) (A₀.deeper (envOf name scope L a cd)) (noteFrame (.ref e) (envOf name scope L a cd))
      (fun _ s₂ => wpAny (model prog w) (A₀.deeper (envOf name scope L a cd)) (setFlight (.ref e) none) (fun _ s₃ =>
        wpAny (model prog w) (A₀.deeper (envOf name scope L a cd)) (handleBy (.ref e) (envOf name scope L a cd) (.ExceptHandler (some (.Name x np)) (some n) (b₀ :: suite) pos :: rest)) Q E s₃) E s₂) E s' := by
  refine err_noted1 (Around.frames_deeper hs) fr rfl F.keep hen er fun h₁ x₁ y₁ => ?_
  refine err_landed (s := { s' with heap := h₁ }) y₁ _ x₁.stays x₁.frames fun h₂ x₂ y₂ => ?_
  have x12 := x₁.trans x₂
  have F₂ : Fr base L h₂ m := F.of_stays x12.stays x12.up
  refine handle_err O ?_
  refine name_K (s := { s' with heap := h₂ }) F₂ X T hx ⟨rfl, X.keeps x12.stays, ?_, ?_⟩ hk hxk hd
  · obtain ⟨oe, vs, T, oT, ts, he, hc, _⟩ := y₂
    exact ⟨oe, he, hc.1⟩
  · exact err_landed (s := { s' with heap := h₂ }) y₂ _ x12.stays x12.frames fun h₃ x₃ y₃ => k h₃ (x12.trans x₃) y₃
end
end Mine

/-! part C2 -/
namespace Mine
open _root_.PySem _root_.PySem.W _root_.PySem.Calls _root_.PyProof.Rows
example : True := by w_top off; trivial
local macro_rules | `(tactic| k_ne) => `(tactic| (refine neN ?_; (try dsimp only); first | with_reducible assumption | exact Ne.symm (by with_reducible assumption) | omega))

/-- the names of a module and of what is given to it -/
structure Asked (w : World) (h : Heap) (tl : Led) (v hv bv : Value) (nm : PySem.Str) (hvs bvs : List Value) (ls : List (List PySem.Str)) (d : Addr) (kvs : List (PySem.Str × Value)) : Prop where
  led : LedAt h tl
  mod : Mod tl v nm hv bv
  th : Tup tl hv hvs
  tb : Tup tl bv bvs
  ents : Pairs (Ent tl) (hvs ++ bvs) ls
  len : hvs.length + bvs.length ≤ 1000
  dict : h.DictOf (PySem.strKind PySem.Challenge.pw_pq0447_01 w) d kvs
  no : (d == sysModules) = false
theorem dictOf_keeps {prog : Program} {w : World} {h h' : Heap} {d : Addr} {kvs : List (PySem.Str × Value)} (x : h.DictOf (PySem.strKind prog w) d kvs) (k : ∀ b o, h.get? b = some o → h'.get? b = some o) : h'.DictOf (PySem.strKind prog w) d kvs := by
  obtain ⟨o, ho, r⟩ := Heap.dictOf_iff.mp x
  exact Heap.dictOf_iff.mpr ⟨o, k _ _ ho, r⟩
theorem Asked.keeps {w h h' tl v hv bv nm hvs bvs ls d kvs} (x : Asked w h tl v hv bv nm hvs bvs ls d kvs) (k : ∀ b o, h.get? b = some o → h'.get? b = some o) : Asked w h' tl v hv bv nm hvs bvs ls d kvs :=
  ⟨fun p hp => k _ _ (x.led p hp), x.mod, x.th, x.tb, x.ents, x.len, dictOf_keeps x.dict k, x.no⟩

def RefusedOk (w : World) (H : Heap) : Prop := ∀ (A : Around) (s : Shared) (R : Result → Shared → Prop) (tl : Led) (v hv bv : Value) (nm : PySem.Str) (hvs bvs : List Value) (ls : List (List PySem.Str)) (d : Addr) (kvs : List (PySem.Str × Value)),
  Room A 6 80 → H.StaysIn s.heap → Asked w s.heap tl v hv bv nm hvs bvs ls d kvs → (∀ k ∈ kvs.map (·.1), k ∈ ls.flatten) →
  (∀ {h' tk' r n k1 k2 k3 k4}, Ext [] s.heap h' → s.heap.get? r = none → h'.get? r = some (tupO [.str (PySem.Str.ofString "") k1, .int 0 k2, .str (PySem.Str.ofString "") k3, .str (PySem.Str.ofString "") k4] n) → R (.ok (.ret (.ref r))) { s with heap := h', toks := tk' }) →
  codeAny (model PySem.Challenge.pw_pq0447_01 w) A (.call (.ref 146) ⟨[v, .ref d], []⟩) R s

theorem check_ok_call {w : World} {H h₀ : Heap} {A : Around} {s : Shared} {L : Addr} {m : PySem.Str → Option Value} {news : Led} {tl : Led} {v hv bv : Value} {nm : PySem.Str} {hvs bvs : List Value} {ls : List (List PySem.Str)} {d : Addr} {kvs : List (PySem.Str × Value)} {t : Tok} {Q E : Value → Shared → Prop}
    (CS : CheckOk w H) (R : Room A 4 60) (F : Fr h₀ L s.heap m) (N : News h₀ L s.heap news) (st : H.StaysIn h₀) (a : Asked w h₀ tl v hv bv nm hvs bvs ls d kvs) (hall : ∀ k ∈ kvs.map (·.1), k ∈ ls.flatten)
    (k : ∀ h' tk', Fr h₀ L h' m → News h₀ L h' news → Q .none { s with heap := h', toks := tk' }) :
    wpAny (model PySem.Challenge.pw_pq0447_01 w) A (call (.ref 104) [v, .ref d, .int 11 t]) Q E s := by
  have a' := a.keeps F.keep
  exact wpAny_call (CS A s _ tl v hv bv nm hvs bvs ls d kvs t R (fun b o e => F.keep b o (st b o e)) a'.led a'.mod a'.th a'.tb a'.ents a'.len a'.dict a'.no hall @fun h' tk' x => k h' tk' (F.keeps fun b o e => x b o (by simp) e) (N.grown fun b o e => x b o (by simp) e))

set_option maxHeartbeats 8000000 in
theorem refused_ok {w : World} {lo : List PySem.Str} {mean : ExcName → Option Value} {mg mb : PySem.Str → Option Value} {H : Heap} (G : Root w lo mean mg mb H) (CS : CheckOk w H) : RefusedOk w H := by
  intro A s R tl v hv bv nm hvs bvs ls d kvs hr st ask hall ret
  obtain ⟨handled, dp, fr, gd, un⟩ := A
  obtain rfl : handled = none := hr.handled
  have X := G.X
  have T := G.T
  have hmod := ask.mod
  obtain ⟨t0, t1, t2, x4, y6, hm⟩ := hmod
  obtain ⟨a, na, rfl, ha⟩ := tup_at ask.led hm
  refine' enterN (K := Mine.hd.heap_39 w.params) (binds := [(PySem.Str.ofString "module", .ref a), (PySem.Str.ofString "given", .ref d)]) [] X T st ?N ?k6 ?k7 ?k8 ?k9 ?kB ?_ ?c2 ?c3 ?c4 ?c5
  case N => intro q hq; cases hq
  ((try (case k6 => k_is)); (try (case k7 => k_is)); (try (case k8 => (have := Room.depth (by assumption); dsimp only at this ⊢; omega))); (try (case k9 => exact BindsTo.of_eq rfl)); (try (case c5 => decide)); (try (case kB => exact locs rfl)); (try (case c2 => exact rfl)); (try (case c3 => exact rfl)); (try (case c4 => exact rfl)))
  intro g' L' h' hg st' F' N' X' T'
  have hg' : g' = s.heap := hg
  have ask' : Asked w g' tl (.ref a) hv bv nm hvs bvs ls d kvs := hg'.symm ▸ ask
  (try dsimp only)
  (try k_fold)
  (repeat' (first | (((with_reducible show wpAny _ _ (call (Value.ref 104) _) _ _ _); k_dflt (refine' check_ok_call ?zqCS ?zqR ?zqF ?zqN ?zqst ?zqa ?zqhl ?_; (case zqCS => assumption); (case zqR => (refine Room.deeper (Room.weaken (by assumption) ?_ ?_) <;> omega)); (case zqF => k_asm); (case zqN => k_asm); (case zqst => assumption); (case zqa => assumption); (case zqhl => assumption); k_whole); intro zh ztk zF zN; (try k_sweep))) | ((with_reducible show wpAny _ _ (exec (Stmt.Try ..) _) _ _ _); (refine wpAny_Try_except ?_)) | (k_unfold; (try dsimp only)) | (k_end; kc_close) | walk1 | (dsimp only; walk1) | (leave1; walk_say "STEP leave1"; (try dsimp only)) | fail "no step"))
  rename Fr _ _ _ _ => F9
  rename News _ _ _ _ => N9
  have hD := N9 _ (.head _)
  exact ret (Ext.of_fr hg F9) (none_of_hide hg hD.2.2 (by simp)) hD.1

def RefusedBad (w : World) (H : Heap) : Prop := ∀ (A : Around) (s : Shared) (R : Result → Shared → Prop) (tl : Led) (v hv bv : Value) (nm : PySem.Str) (hvs bvs : List Value) (ls : List (List PySem.Str)) (d : Addr) (kvs : List (PySem.Str × Value)) (base : Heap) (outer : List Env),
  Room A 9 90 → H.StaysIn base → Below A base outer s.heap → @LE.le Nat _ base.objs.size s.heap.objs.size → Asked w s.heap tl v hv bv nm hvs bvs ls d kvs → kvs.map (·.1) = [PySem.Str.ofString "zz"] → PySem.Str.ofString "zz" ∉ ls.flatten →
  (∀ {h' tk' r n k1 k2 k3 k4}, base.StaysIn h' → (∀ b ∈ outer.filterMap (·.frame), ∀ o, s.heap.get? b = some o → ∃ sl, h'.get? b = some { o with slots := sl }) → base.get? r = none → h'.get? r = some (tupO [.str (PySem.Str.ofString "unknown_parameter") k1, .int 11 k2, .str (PySem.Str.ofString "zz") k3, .str (PySem.Str.ofString "4:5: unknown_parameter (zz)") k4] n) → R (.ok (.ret (.ref r))) { s with heap := h', toks := tk' }) →
  codeAny (model PySem.Challenge.pw_pq0447_01 w) A (.call (.ref 146) ⟨[v, .ref d], []⟩) R s

/-- the frames below, as entries of a ledger -/
def outs (h : Heap) (l : List Env) : Led := (l.filterMap (·.frame)).map fun b => (b, (h.get? b).getD { cls := .none, data := .freed })
theorem outs_news {base h : Heap} {L : Addr} {l : List Env} (f : h.FunFrames base l) (n : ∀ b ∈ l.filterMap (·.frame), b ≠ L) : News base L h (outs h l) := by
  intro p hp
  obtain ⟨b, hb, rfl⟩ := List.mem_map.mp hp
  obtain ⟨h0, o, ho, _⟩ := f.mem hb
  exact ⟨by rw [ho]; rfl, n b hb, h0⟩
theorem outs_mem {h : Heap} {l : List Env} {b : Addr} {o : Obj} (hb : b ∈ l.filterMap (·.frame)) (ho : h.get? b = some o) : (b, o) ∈ outs h l := List.mem_map.mpr ⟨b, hb, by rw [ho]; rfl⟩
theorem ErrVals.of_news {w : World} {h₀ h : Heap} {L e dx C : Addr} {news : Led} {oe od : Obj} {vs : Array Value} {k1 k2 k3 : Nat} {a b c : Value} (N : News h₀ L h ((e, oe) :: (dx, od) :: news)) (h1 : oe.cls = .ref C) (h2 : oe.dict = some dx) (h3 : oe.data = .fields vs) (h4 : vs[2]? = some .none)
    (h5 : od.data = (initDict w k1 k2 k3 a b c).data) : ErrVals w h e C a b c := ⟨_, vs, dx, _, k1, k2, k3, (N _ (.head _)).1, h1, h2, h3, h4, (N _ (.tail _ (.head _))).1, h5⟩
/-- the error at hand, whatever the frame does -/
def HasErr (w : World) (e C : Addr) (a b c : Value) (q : Led) : Prop := ∃ oe od dx vs k1 k2 k3, (e, oe) ∈ q ∧ (dx, od) ∈ q ∧ oe.cls = .ref C ∧ oe.dict = some dx ∧ oe.data = .fields vs ∧ vs[2]? = some .none ∧ od.data = (initDict w k1 k2 k3 a b c).data
theorem HasErr.vals {w : World} {h₀ h : Heap} {L e C : Addr} {news q : Led} {a b c : Value} (x : HasErr w e C a b c q) (N : News h₀ L h news) (k : ∀ p ∈ q, p ∈ news) : ErrVals w h e C a b c := by
  obtain ⟨oe, od, dx, vs, k1, k2, k3, m1, m2, r⟩ := x
  exact ⟨oe, vs, dx, od, k1, k2, k3, (N _ (k _ m1)).1, r.1, r.2.1, r.2.2.1, r.2.2.2.1, (N _ (k _ m2)).1, r.2.2.2.2⟩

theorem describe_call {w : World} {H h₀ : Heap} {A : Around} {s : Shared} {L e : Addr} {m : PySem.Str → Option Value} {news : Led} {t k1 k2 k3 : Tok} {Q E : Value → Shared → Prop} (DS : DescribeSpec w H) (R : Room (Around.un A) 4 60) (hh : A.handled = some (.ref e))
    (hv : ErrVals w s.heap e 45 (.str (PySem.Str.ofString "unknown_parameter") k1) (.int 11 k2) (.str (PySem.Str.ofString "zz") k3)) (F : Fr h₀ L s.heap m) (N : News h₀ L s.heap news) (st : H.StaysIn h₀)
    (k : ∀ h' tk' k, Fr h₀ L h' m → News h₀ L h' news → Q (.str (PySem.Str.ofString "4:5: unknown_parameter (zz)") k) { s with heap := h', toks := tk' }) :
    wpAny (model PySem.Challenge.pw_pq0447_01 w) A (call (.ref 61) [.ref e, .str lawText t]) Q E s :=
  wpAny_call (DS A s _ e t k1 k2 k3 R hh hv (fun b o e => F.keep b o (st b o e)) @fun h' tk' k' x => k h' tk' k' (F.keeps fun b o e => x b o (by simp) e) (N.grown fun b o e => x b o (by simp) e))

theorem check_bad_call {w : World} {H h₀ base : Heap} {A₀ : Around} {outer : List Env} {s : Shared} {L a : Addr} {name : PySem.Str} {scope : Scope} {cd : Value} {m : PySem.Str → Option Value} {tl : Led} {v hv bv : Value} {nm : PySem.Str} {hvs bvs : List Value} {ls : List (List PySem.Str)} {d : Addr} {kvs : List (PySem.Str × Value)} {t : Tok} {Q E : Value → Shared → Prop}
    (CB : CheckBad w H) (R : Room (A₀.deeper (envOf name scope L a cd)) 6 60) (bel : Below A₀ base outer h₀) (hk : scope.kind = .function) (F : Fr h₀ L s.heap m) (st : H.StaysIn h₀) (ask : Asked w h₀ tl v hv bv nm hvs bvs ls d kvs) (hks : kvs.map (·.1) = [PySem.Str.ofString "zz"]) (hzz : PySem.Str.ofString "zz" ∉ ls.flatten)
    (k : ∀ h' tk' e k1 k2 k3, Thrown w base (envOf name scope L a cd :: outer) s.heap h' e 45 (.str (PySem.Str.ofString "unknown_parameter") k1) (.int 11 k2) (.str (PySem.Str.ofString "zz") k3) → E (.ref e) { s with heap := h', toks := tk' }) :
    wpAny (model PySem.Challenge.pw_pq0447_01 w) (A₀.deeper (envOf name scope L a cd)) (call (.ref 104) [v, .ref d, .int 11 t]) Q E s := by
  have ask' := ask.keeps F.keep
  exact wpAny_call (CB _ s _ tl v hv bv nm hvs bvs ls d kvs t base _ R (fun b o e => F.keep b o (st b o e)) (bel.push F hk) ask'.led ask'.mod ask'.th ask'.tb ask'.ents ask'.len ask'.dict ask'.no hks hzz @fun h' tk' e k1 k2 k3 th => k h' tk' e k1 k2 k3 th)

set_option maxHeartbeats 8000000 in
theorem refused_bad {w : World} {lo : List PySem.Str} {mean : ExcName → Option Value} {mg mb : PySem.Str → Option Value} {H : Heap} (G : Root w lo mean mg mb H) (CB : CheckBad w H) (DS : DescribeSpec w H) : RefusedBad w H := by
  intro A s R tl v hv bv nm hvs bvs ls d kvs base outer hr stb bel hsz ask hks hzz ret
  have st : H.StaysIn s.heap := fun b o e => bel.stays _ _ (stb b o e)
  obtain ⟨handled, dp, fr, gd, un⟩ := A
  obtain rfl : handled = none := hr.handled
  have X := G.X
  have T := G.T
  have hmod := ask.mod
  obtain ⟨t0, t1, t2, x4, y6, hm⟩ := hmod
  obtain ⟨a, na, rfl, ha⟩ := tup_at ask.led hm
  refine' enterN (K := Mine.hd.heap_39 w.params) (binds := [(PySem.Str.ofString "module", .ref a), (PySem.Str.ofString "given", .ref d)]) [] X T st ?N ?k6 ?k7 ?k8 ?k9 ?kB ?_ ?c2 ?c3 ?c4 ?c5
  case N => intro q hq; cases hq
  ((try (case k6 => k_is)); (try (case k7 => k_is)); (try (case k8 => (have := Room.depth (by assumption); dsimp only at this ⊢; omega))); (try (case k9 => exact BindsTo.of_eq rfl)); (try (case c5 => decide)); (try (case kB => exact locs rfl)); (try (case c2 => exact rfl)); (try (case c3 => exact rfl)); (try (case c4 => exact rfl)))
  intro g' L' h' hg st' F' N' X' T'
  have hg' : g' = s.heap := hg
  (try dsimp only)
  (try k_fold)
  (repeat' (first | ((with_reducible show wpAny _ _ (exec (Stmt.Try ..) _) _ _ _); (refine wpAny_Try_except ?_)) | (k_unfold; (try dsimp only)) | (k_end; kc_close) | walk1 | (dsimp only; walk1) | (leave1; walk_say "STEP leave1"; (try dsimp only)) | fail "no step"))
  rename Fr _ _ _ _ => F1
  have bel' : Below { handled := none, depth := dp, frames := fr, guards := gd, units := un } base outer g' := hg'.symm ▸ bel
  have Fb : Fr base L' h' _ := ⟨F1.ns, fun b o e => F1.keep b o (bel'.stays b o e), Nat.le_trans (hg'.symm ▸ hsz) F1.above⟩
  have ask' : Asked w g' tl (.ref a) hv bv nm hvs bvs ls d kvs := hg'.symm ▸ ask
  have kL : ∀ b ∈ outer.filterMap (·.frame), b ≠ L' := fun b hb q => by
    obtain ⟨_, o, ho, _⟩ := bel'.frames.mem hb
    have h1 := Heap.lt_size ho
    have h2 := F1.above
    rw [q] at h1
    exact absurd (Nat.lt_of_lt_of_le h1 h2) (Nat.lt_irrefl _)
  refine check_bad_call CB ?room bel' rfl F1 st' ask' hks hzz fun h2 tk2 e k1 k2 k3 th => ?_
  case room => (refine Room.deeper (Room.weaken (by assumption) ?_ ?_) <;> omega)
  obtain ⟨dx, od, j1, j2, j3, er, hdx, hod, hdn⟩ := th.err
  have Xb : (Mine.hd.heap_39 w.params).In base := X.keeps stb
  have Tb := T.keeps stb
  have F2 : Fr base L' h2 _ := Fb.of_stays th.flown.stays th.flown.up
  refine caught_err (err_obj (.inr rfl)) bel.stack F2 th.flown.frames th.new er Xb (topRead_of Tb) (by k_is) fun h3 x3 y3 => ?_
  have F3 : Fr base L' h3 _ := F2.of_stays x3.stays x3.up
  obtain ⟨oe, vs, Tb1, oT, ts, he, hc, hd, h1, hnT, hne, hT, hdT, h3'⟩ := y3
  obtain ⟨sl, hdx3⟩ := x3.up dx od hdx (fun vs q => by rw [hod] at q; cases q)
  obtain ⟨oL, esL, epL, hL3, hLd, _⟩ := F3.ns
  have hLe : e ≠ L' := fun q => by
    rw [q, hL3] at he
    rw [← Option.some.inj he, hLd] at hd
    cases hd
  have hLdx : dx ≠ L' := fun q => by
    obtain ⟨oL', _, _, hL1, _⟩ := F1.ns
    rw [q, hL1] at hdn; cases hdn
  have hdxb : base.get? dx = none := by
    cases q : base.get? dx with
    | none => rfl
    | some o => have := Fb.keep _ _ q; rw [hdn] at this; cases this
  have N3 : News base L' h3 ((e, oe) :: (dx, { od with slots := sl }) :: outs h3 outer) := by
    intro p hp
    rcases List.mem_cons.mp hp with rfl | hp
    · exact ⟨he, hLe, th.new⟩
    · rcases List.mem_cons.mp hp with rfl | hp
      · exact ⟨hdx3, hLdx, hdxb⟩
      · exact outs_news x3.frames.2.2 kL p hp
  have hout : ∀ b ∈ outer.filterMap (·.frame), ∀ o, s.heap.get? b = some o → ∃ sl, (b, ({ o with slots := sl } : Obj)) ∈ outs h3 outer := fun b hb o ho => by
    obtain ⟨_, o', ho', hnf⟩ := bel'.frames.mem hb
    rw [← hg'] at ho
    rw [ho] at ho'
    rw [← Option.some.inj ho'] at hnf
    obtain ⟨sl, q⟩ := (th.flown.up.trans x3.up) b o (F1.keep _ _ ho) hnf
    exact ⟨sl, outs_mem hb q⟩
  have hse : HasErr w e 45 _ _ _ ((e, oe) :: (dx, { od with slots := sl }) :: outs h3 outer) := ⟨oe, _, dx, vs, j1, j2, j3, .head _, .tail _ (.head _), hc.1, hc.2, hd, h1.2, hod⟩
  generalize hog : outs h3 outer = og at N3 hse hout
  clear er he hL3 hT hdx3 F2 th ask' x3
  (repeat' (first | (((with_reducible show wpAny _ _ (call (Value.ref 61) _) _ _ _); k_dflt (refine' describe_call ?zqDS ?zqR ?zqhh ?zqhv ?zqF ?zqN ?zqst ?_; (case zqDS => assumption); (case zqR => (refine Room.deeper (Room.weaken (by assumption) ?_ ?_) <;> omega)); (case zqhh => exact rfl); (case zqhv => exact HasErr.vals (by assumption) (by assumption) (fun p q => q)); (case zqF => k_asm); (case zqN => k_asm); (case zqst => assumption); k_whole); intro zh ztk zk zF zN; (try k_sweep))) | ((with_reducible show wpAny _ _ (getAttr (Value.ref _) _ _) _ _ _); (k_dflt (refine' err_attr ?zqX ?zqC ?zqx ?zqn ?zqh ?_; (case zqx => exact HasErr.vals (by assumption) (by assumption) (fun p q => q)); (case zqX => first | assumption | exact Frag.In.keeps (by k_asm) (Fr.keep (by k_asm))); (case zqC => exact .inr rfl); (case zqn => first | exact .inl ⟨rfl, rfl⟩ | exact .inr (.inl ⟨rfl, rfl⟩) | exact .inr (.inr ⟨rfl, rfl⟩)); (case zqh => exact rfl); k_whole))) | (k_unfold; (try dsimp only)) | (k_end; kc_close) | walk1 | (dsimp only; walk1) | (leave1; walk_say "STEP leave1"; (try dsimp only)) | fail "no step"))
  rename Fr _ _ _ _ => F9
  rename News _ _ _ _ => N9
  exact ret F9.keep (fun b hb o ho => let ⟨sl, q⟩ := hout b hb o ho; ⟨sl, (N9 _ (.tail _ (.tail _ (.tail _ q)))).1⟩) (N9 _ (.head _)).2.2 (N9 _ (.head _)).1
end Mine

/-! part T2 -/
namespace Mine
open _root_.PySem _root_.PySem.W _root_.PySem.Calls _root_.PyProof.Rows Builtin Builtin.ObjectAttr
example : True := by w_top off; trivial

section
variable {prog : Program} {w : World} {A : Around} {E : Value → Shared → Prop} {s : Shared} {K : Frag} {x C : Addr} {ox : Obj} {od : Obj}
theorem ex_class {Q : Option Value → Shared → Prop} (X : K.In s.heap) (I : InstAt s.heap x ox C (some od)) (hga : findIn K (.ref C) "__getattribute__" = some (some (.builtin "BaseException.__getattribute__"))) (hgh : findIn K (.ref C) "__getattr__" = some none)
    (hbe : mroIn K C (.type "BaseException") = some true) (hob : mroIn K C (.type "object") = some true) (hc : (clsIn K C).isSome = true)
    (ha : findIn K (.ref C) "__class__" = some (some (.builtin "object.__class__"))) (hn : specialIn K (.builtin "object.__class__") "__get__" = some (some (.builtin "getset_descriptor.__get__"))) (ht : takesIn K (.builtin "object.__class__") = some true)
    (h : Q (some (.ref C)) { s with toks := s.toks + 1 }) : wpAny (model prog w) A (getAttr? (.ref x) "__class__") Q E s := by
  obtain ⟨hp, g, d, t, os⟩ := s
  have L0 := I.type (M := model prog w)
  have L1 := looks_findIn (M := model prog w) X hga
  have L2 := looks_findIn (M := model prog w) X hgh
  have L3 := looks_find (M := model prog w) X I (findObj_data (od := od) hc ha hn ht)
  have L4 : Looks (model prog w) hp (isInstance (.ref x) (.type "BaseException")) true := L0.andThen (looks_mroIn X hbe)
  have e0 : (onTheHeap (.ref C) && (Value.builtin "BaseException.__getattribute__" == Value.builtin "object.__getattribute__")) = false := by rw [show (Value.builtin "BaseException.__getattribute__" == Value.builtin "object.__getattribute__") = false from by decide, Bool.and_false]
  unfold getAttr? getAttrBy? getAttrBy
  refine wpAny_bind (wpAny_mkText (wpAny_bind (wpAny_attempt (wpAny_holding (wpAny_bind (L0.at (wpAny_bind (L1.at ?_))))))))
  dsimp only
  rw [e0, if_neg Bool.false_ne_true]
  unfold getAttrByItsOwn
  refine wpAny_bind (L2.at (wpAny_bind (wpAny_attempt (wpAny_holding ?_))))
  unfold callGetattribute
  rw [Bool.false_and, if_neg Bool.false_ne_true]
  unfold boundAndCalled
  refine wpAny_bind (wpAny_of_eq (bga_bind _) (wpAny_call ?_))
  refine codeAny_call_builtin bga_plain PySem.F.entry_bexc_ga (@check_slot (model prog w) _ _ _ "BaseException.__getattribute__" "BaseException" "__getattribute__" (.ref x) [.str "__class__" t] [] _ bga_kind bga_split L4 (PySem.F.args_bexc_ga _ _) ?_)
  unfold Builtin.«object.__getattribute__»
  have e3 : slotArgs "__getattribute__" 1 ⟨[.ref x, .str "__class__" t], []⟩ = pure (.ref x, [.str "__class__" t]) := by rfl
  refine wpAny_bind (wpAny_of_eq e3 ?_)
  dsimp only
  refine wpAny_bind (wpAny_of_eq (show attrName (.str "__class__" t) = pure "__class__" from rfl) (wpAny_bind (L0.at (wpAny_bind (L3.at ?_)))))
  show wpAny _ _ (holding [_] (call _ [_, .ref x, .ref C]) >>= ret) _ _ _
  refine wpAny_bind (wpAny_holding (wpAny_call (class_get (s := ⟨hp, g, d, t + 1, os⟩) (ox := ox) (od := some od) X I hob ?_)))
  refine wpAny_pure ?_
  show wpAny _ _ (handedOut (.ref C)) _ _ _
  exact wpAny_pure (wpAny_pure h)

theorem isi_tuple {a : Addr} {xs : List Value} {n : Nat} {Q : Value → Shared → Prop} (h : s.heap.get? a = some { cls := .type "tuple", data := .seq xs.toArray n }) (q : Q (.bool true) s) : wpAny (model prog w) A (call (.builtin "isinstance") [.ref a, .type "tuple"]) Q E s :=
  call_isinstance_yes (Tx := "tuple") (T := "tuple") ⟨_, h, rfl⟩ (by kernel_rfl) (by rw [isSubtype_type]; kernel_rfl) q

theorem isi_err {Q : Value → Shared → Prop} (X : K.In s.heap) (I : InstAt s.heap x ox C (some od)) (hga : findIn K (.ref C) "__getattribute__" = some (some (.builtin "BaseException.__getattribute__"))) (hgh : findIn K (.ref C) "__getattr__" = some none)
    (hbe : mroIn K C (.type "BaseException") = some true) (hob : mroIn K C (.type "object") = some true) (hc : (clsIn K C).isSome = true) (htu : mroIn K C (.type "tuple") = some false)
    (ha : findIn K (.ref C) "__class__" = some (some (.builtin "object.__class__"))) (hn : specialIn K (.builtin "object.__class__") "__get__" = some (some (.builtin "getset_descriptor.__get__"))) (ht : takesIn K (.builtin "object.__class__") = some true)
    (q : Q (.bool false) { s with toks := s.toks + 1 }) : wpAny (model prog w) A (call (.builtin "isinstance") [.ref x, .type "tuple"]) Q E s := by
  have L0 := I.type (M := model prog w)
  have L1 : Looks (model prog w) s.heap (isSubtype (.ref C) (.type "tuple")) false := looks_mroIn X htu
  refine call_isinstance_of ?_ (by intro e; cases e)
  unfold Builtin.«isinstance.nested»
  refine wpAny_bind (L0.here ?_)
  dsimp only
  rw [if_neg (fun q => by cases beq_iff_eq.mp q)]
  refine wpAny_bind (wpAny_of_eq (show typeOf (.type "tuple") = pure (.type "type") from by kernel_rfl) ?_)
  rw [if_pos (by decide)]
  k_delta "plainIsInstance"
  have L2 : Looks (model prog w) s.heap (isInstance (.ref x) (.type "tuple")) false := L0.andThen L1
  refine wpAny_bind (wpAny_bind (wpAny_pure (a := true) ?_))
  simp only [Bool.not_true, Bool.false_eq_true, if_false]
  refine wpAny_bind (L2.here ?_)
  simp only [Bool.false_eq_true, if_false]
  refine wpAny_bind (ex_class X I hga hgh hbe hob hc ha hn ht ?_)
  dsimp only
  have L3 : Looks (model prog w) s.heap (isType (.ref C)) true := by
    obtain ⟨cd, hcd⟩ := Option.isSome_iff_exists.mp hc
    unfold clsIn at hcd
    split at hcd
    · rename_i ho
      exact (Looks.ld (X _ _ ho)).andThen .now
    · cases hcd
  refine wpAny_bind (L3 _ _ _ _ (fun _ _ e => e) ?_)
  simp only [Bool.not_true, Bool.false_eq_true, if_false]
  refine wpAny_bind (wpAny_rule ?_)
  refine L1 _ _ _ _ (fun _ _ e => e) ?_
  exact wpAny_pure q
end
end Mine

/-! part T3 -/
namespace Mine
open _root_.PySem _root_.PySem.W _root_.PySem.Calls _root_.PyProof.Rows
example : True := by w_top off; trivial
local macro_rules | `(tactic| k_ne) => `(tactic| (refine neN ?_; (try dsimp only); first | with_reducible assumption | exact Ne.symm (by with_reducible assumption) | omega))

/-- a thing of the list of modules that is no module -/
def Err32 (tl : Led) (v : Value) : Prop := ∃ a t dx od, v = .ref a ∧ (a, excD 32 t dx) ∈ tl ∧ (dx, od) ∈ tl
/-- a module, its name, the names that its items instantiate -/
def Mdl (tl : Led) (v : Value) (nm : PySem.Str) (us : List PySem.Str) : Prop :=
  ∃ hv bv bvs ps, Mod tl v nm hv bv ∧ Tup tl bv bvs ∧ Pairs (ItemP tl) bvs ps ∧ (ps.map (·.2)).sum ≤ 1000 ∧ (∀ x, x ∈ us ↔ x ∈ ps.flatMap (·.1)) ∧ (∀ x ∈ us, x ∈ theNames)
abbrev Rec := Option (PySem.Str × List PySem.Str)
def Elt (tl : Led) (v : Value) (r : Rec) : Prop := match r with
  | none => Err32 tl v
  | some p => Mdl tl v p.1 p.2
def allUsed (rs : List Rec) : List PySem.Str := (rs.filterMap id).flatMap (·.2)
/-- the names of the modules that are not among us -/
def topsOf (us : List PySem.Str) (rs : List Rec) : List PySem.Str := ((rs.filterMap id).map (·.1)).filter fun n => !decide (n ∈ us)
theorem take_snoc {α : Type} {l : List α} {i : Nat} {a : α} (h : l[i]? = some a) : l.take (i + 1) = l.take i ++ [a] := by
  rw [List.take_add_one, h]; rfl
theorem allUsed_snoc {rs : List Rec} {i : Nat} {r : Rec} (h : rs[i]? = some r) : ∀ x, x ∈ allUsed (rs.take (i + 1)) ↔ x ∈ allUsed (rs.take i) ∨ ∃ p, r = some p ∧ x ∈ p.2 := fun x => by
  rw [take_snoc h]
  unfold allUsed
  rw [List.filterMap_append, List.flatMap_append, List.mem_append]
  cases r with
  | none => simp
  | some p => simp
theorem topsOf_snoc {us : List PySem.Str} {rs : List Rec} {i : Nat} {r : Rec} (h : rs[i]? = some r) : topsOf us (rs.take (i + 1)) = topsOf us (rs.take i) ++ (match r with | none => [] | some p => if p.1 ∈ us then [] else [p.1]) := by
  rw [take_snoc h]
  unfold topsOf
  rw [List.filterMap_append, List.map_append, List.filter_append]
  cases r with
  | none => rfl
  | some p =>
    by_cases q : p.1 ∈ us
    · simp [q]
    · simp [q]

section
variable {prog : Program} {w : World} {A : Around} {E : Value → Shared → Prop} {s : Shared} {h₀ : Heap} {L : Addr} {m : PySem.Str → Option Value} {news : Led}
theorem item_at {value slice : Expr} {t : Addr} {xs : List Value} {k : Nat} {u : Tok} {x : Value} {Q : Value → Shared → Prop} (ht : IsTup s.heap t xs.toArray) (hk : k < 100) (hx : xs[k]? = some x) (h : Q x s)
    (hs : subscripted slice false (.ref t) (.int k u) = operate [.ref t, .int k u] (getItem (.ref t) (.int k u)) := by with_unfolding_all rfl) :
    wpAny (model prog w) A (subscriptTail value slice (.ref t) (.int k u)) Q E s := by
  have hl : k < xs.length := (List.getElem?_eq_some_iff.mp hx).1
  refine item_tupleT ht (by omega) (by omega) (j := k) ?_ hx h hs
  unfold seqIndex?
  simp
  omega
theorem err_isi {ps : Params} {a t dx : Addr} {od : Obj} {Q : Value → Shared → Prop} (X : (Mine.hd.heap_39 ps).In s.heap) (ha : s.heap.get? a = some (excD 32 t dx)) (hd : s.heap.get? dx = some od) (q : Q (.bool false) { s with toks := s.toks + 1 }) :
    wpAny (model prog w) A (call (.builtin "isinstance") [.ref a, .type "tuple"]) Q E s := by
  refine isi_err (K := Mine.hd.heap_39 ps) (C := 32) X (⟨ha, rfl, rfl, hd⟩ : InstAt s.heap a _ 32 (some od)) (by k_is) (by k_is) (by k_is) (by k_is) ?_ (by k_is) (by k_is) (by k_is) (by k_is) q
  exact (by k_is : clsIn (Mine.hd.heap_39 ps) 32 = some _) ▸ rfl
theorem inst_call {H : Heap} {tl : Led} {v : Value} {vs : List Value} {ps : List (List PySem.Str × Nat)} {Q : Value → Shared → Prop} (IS : InstSpec w H) (R : Room A 6 80) (F : Fr h₀ L s.heap m) (N : News h₀ L s.heap news) (st : H.StaysIn h₀) (hled : LedAt s.heap tl)
    (ht : Tup tl v vs) (hp : Pairs (ItemP tl) vs ps) (hl : (ps.map (·.2)).sum ≤ 1000)
    (k : ∀ h' tk' r kv ks n, Fr h₀ L h' m → News h₀ L h' ((r, listOf (List.toArray kv) n) :: news) → (∀ p ∈ news, p.1 ≠ r) → StrsAre kv ks → ks.Nodup → (∀ x, x ∈ ks ↔ x ∈ ps.flatMap (·.1)) → Q (.ref r) { s with heap := h', toks := tk' }) :
    wpAny (model PySem.Challenge.pw_pq0447_01 w) A (call (.ref 78) [v]) Q E s := by
  refine wpAny_call (IS A s _ tl v vs ps R (fun b o e => F.keep b o (st b o e)) hled ht hp hl @fun h' tk' r kv ks n x e0 e hs hn hx => ?_)
  obtain ⟨F', N', l⟩ := news_fresh F N x e0 e
  exact k h' tk' r kv ks n F' N' l hs hn hx
end

def TopsSpec (w : World) (H : Heap) : Prop := ∀ (A : Around) (s : Shared) (R : Result → Shared → Prop) (al : Addr) (tl : Led) (ms : List Value) (rs : List Rec),
  Room A 10 120 → H.StaysIn s.heap → LedAt s.heap tl → SeqAt s.heap al ms → Pairs (Elt tl) ms rs → ms.length ≤ 10 →
  (∀ {h' tk' r vs n}, Ext [] s.heap h' → s.heap.get? r = none → h'.get? r = some (listOf (List.toArray vs) n) → StrsAre vs (topsOf (allUsed rs) rs) → R (.ok (.ret (.ref r))) { s with heap := h', toks := tk' }) →
  codeAny (model PySem.Challenge.pw_pq0447_01 w) A (.call (.ref 85) ⟨[.ref al], []⟩) R s

local macro_rules | `(tactic| k_all) => `(tactic| first | (refine List.forall_mem_append.mpr ⟨?a, ?b⟩; (case a => k_all); (case b => k_all)) | exact tail_ne (by assumption) (by k_mem) | fail "k_all")

theorem seqAt_keeps {h h' : Heap} {a : Addr} {xs : List Value} (x : SeqAt h a xs) (k : ∀ b o, h.get? b = some o → h'.get? b = some o) : SeqAt h' a xs := by
  rcases x with ⟨o, ho, r⟩ | ⟨o, ho, r⟩
  · exact .inl ⟨o, k _ _ ho, r⟩
  · exact .inr ⟨o, k _ _ ho, r⟩
theorem seqAt_get {h : Heap} {a : Addr} {xs : List Value} (x : SeqAt h a xs) : ∃ o, h.get? a = some o := by
  rcases x with ⟨o, ho, r⟩ | ⟨o, ho, r⟩ <;> exact ⟨o, ho⟩
theorem strs_at {vs : List Value} {ks : List PySem.Str} (h : StrsAre vs ks) : ∀ {i : Nat} {v : Value}, vs[i]? = some v → ∃ k t, ks[i]? = some k ∧ v = .str k t := by
  induction h with
  | nil => intro i v e; cases e
  | cons k t r ih =>
    intro i v e
    cases i with
    | zero => exact ⟨k, t, rfl, (Option.some.inj e).symm⟩
    | succ i => exact ih e
def UsedD (w : World) (od : Obj) (ks : List PySem.Str) : Prop := ∃ kvs, od.IsDictOf (PySem.strKind PySem.Challenge.pw_pq0447_01 w) kvs ∧ (∀ x, x ∈ kvs.map (·.1) ↔ x ∈ ks) ∧ (∀ x ∈ ks, x ∈ theNames)
theorem UsedD.len {w : World} {od : Obj} {ks : List PySem.Str} (h : UsedD w od ks) : ∃ kvs, od.IsDictOf (PySem.strKind PySem.Challenge.pw_pq0447_01 w) kvs ∧ (∀ x, x ∈ kvs.map (·.1) ↔ x ∈ ks) ∧ kvs.length ≤ 6 := by
  obtain ⟨kvs, hd, h1, h2⟩ := h
  obtain ⟨es, ep, _, _, _, _, nd⟩ := id hd
  have := nodup_len (m := theNames) nd fun x hx => h2 x ((h1 x).mp hx)
  rw [List.length_map] at this
  exact ⟨kvs, hd, h1, this⟩
theorem usedD_nil {w : World} {od : Obj} (h : od.IsDictOf (PySem.strKind PySem.Challenge.pw_pq0447_01 w) []) : UsedD w od [] := ⟨[], h, by simp, by simp⟩
theorem usedD_put {w : World} {od : Obj} {kvs : List (PySem.Str × Value)} {ks ks' : List PySem.Str} {k : PySem.Str} {v : Value} (h : od.IsDictOf (PySem.strKind PySem.Challenge.pw_pq0447_01 w) (stored kvs k v)) (h1 : ∀ x, x ∈ kvs.map (·.1) ↔ x ∈ ks) (h2 : ∀ x, x ∈ ks' ↔ x ∈ ks ∨ x = k) (h3 : ∀ x ∈ ks', x ∈ theNames) : UsedD w od ks' :=
  ⟨_, h, fun x => by rw [stored_keys, h1, h2], h3⟩
def TopsInv1 (w : World) (al d : Addr) (rs : List Rec) (i : Nat) (m : PySem.Str → Option Value) (news : Led) : Prop :=
  m (PySem.Str.ofString "modules") = some (.ref al) ∧ m (PySem.Str.ofString "used") = some (.ref d) ∧ ∃ od, news = [(d, od)] ∧ UsedD w od (allUsed (rs.take i))
def TopsInv2 (w : World) (al d : Addr) (ks us : List PySem.Str) (own : Led) (i : Nat) (m : PySem.Str → Option Value) (news : Led) : Prop :=
  m (PySem.Str.ofString "modules") = some (.ref al) ∧ m (PySem.Str.ofString "used") = some (.ref d) ∧ ∃ od, news = (d, od) :: own ∧ UsedD w od (ks ++ us.take i)

def TopsInv3 (w : World) (al d na : Addr) (us : List PySem.Str) (rs : List Rec) (i : Nat) (m : PySem.Str → Option Value) (news : Led) : Prop :=
  m (PySem.Str.ofString "modules") = some (.ref al) ∧ m (PySem.Str.ofString "used") = some (.ref d) ∧ m (PySem.Str.ofString "names") = some (.ref na) ∧ ∃ od ns nn, news = [(na, listOf (List.toArray ns) nn), (d, od)] ∧ StrsAre ns (topsOf us (rs.take i)) ∧ ns.length ≤ i ∧ UsedD w od us
theorem notin_dict {prog : Program} {w : World} {A : Around} {E : Value → Shared → Prop} {s : Shared} {h₀ : Heap} {L d : Addr} {news : Led} {od : Obj} {kvs : List (PySem.Str × Value)} {k : PySem.Str} {t : Tok} {Q : Value → Shared → Prop} (N : News h₀ L s.heap news) (hm : (d, od) ∈ news) (hd : od.IsDictOf (PySem.strKind prog w) kvs) (lo : (d == sysModules) = false)
    (h : Q (.bool (!decide (k ∈ kvs.map (·.1)))) { s with toks := s.toks + 1 }) : wpAny (model prog w) A (compareOp .NotIn (.str k t) (.ref d)) Q E s := by
  refine kdg_notin N hm hd lo (strKind_is prog w k t) (decide (k ∈ kvs.map (·.1))) ?_ h
  unfold valueAt
  rw [Option.isSome_map]
  by_cases q : k ∈ kvs.map (·.1)
  · rw [decide_eq_true q]
    obtain ⟨kv, hm', e⟩ := List.mem_map.mp q
    exact List.find?_isSome.mpr ⟨kv, hm', by simp [e]⟩
  · rw [decide_eq_false q]
    cases z : kvs.find? (fun kv => decide (kv.1 = k)) with
    | none => rfl
    | some kv =>
      have := List.find?_some z
      exact absurd (List.mem_map.mpr ⟨kv, List.mem_of_find?_eq_some z, of_decide_eq_true this⟩) q

set_option maxHeartbeats 8000000 in
theorem tops_spec {w : World} {lo : List PySem.Str} {mean : ExcName → Option Value} {mg mb : PySem.Str → Option Value} {H : Heap} (G : Root w lo mean mg mb H) (IS : InstSpec w H) : TopsSpec w H := by
  intro A s R al tl ms rs hr st hled hal hps hlen ret
  obtain ⟨handled, dp, fr, gd, un⟩ := A
  obtain rfl : handled = none := hr.handled
  have X := G.X
  have T := G.T
  refine' enterN (K := Mine.hd.heap_39 w.params) (binds := [(PySem.Str.ofString "modules", .ref al)]) [] X T st ?N ?k6 ?k7 ?k8 ?k9 ?kB ?_ ?c2 ?c3 ?c4 ?c5
  case N => intro q hq; cases hq
  ((try (case k6 => k_is)); (try (case k7 => k_is)); (try (case k8 => (have := Room.depth (by assumption); dsimp only at this ⊢; omega))); (try (case k9 => exact BindsTo.of_eq rfl)); (try (case c5 => decide)); (try (case kB => exact locs rfl)); (try (case c2 => exact rfl)); (try (case c3 => exact rfl)); (try (case c4 => exact rfl)))
  intro g' L' h' hg st' F' N' X' T'
  have hg' : g' = s.heap := hg
  have hledg : LedAt g' tl := hg' ▸ hled
  have halg : SeqAt g' al ms := hg' ▸ hal
  (try dsimp only)
  (try k_fold)
  (repeat' (first | ((with_reducible show wpAny _ _ (exec (Stmt.For ..) _) _ _ _); ((rename Fr _ _ _ _ => zlF); (with_unfolding_all refine' for_here zlF ?zqk1 ?zqk2 ?zqhE ?zqhs ?_; (case zqk1 => exact rfl); (case zqk2 => exact rfl); (case zqhs => intro _; exact rfl); (case zqhE => first | passes_own | with_unfolding_all passes_own); k_whole))) | (k_unfold; (try dsimp only)) | (k_end; kc_close) | walk1 | (dsimp only; walk1) | (leave1; walk_say "STEP leave1"; (try dsimp only)) | fail "no step"))
  rename Fr _ _ _ _ => F1
  rename News _ _ _ _ => N1
  rename PySem.Obj.IsDictOf (PySem.strKind _ _) _ _ => D1
  obtain ⟨oal, hoal⟩ := seqAt_get halg
  refine for_seq rfl (seqAt_keeps halg F1.keep) (fr_ne F1 hoal) (news_ne N1 hoal) F1 N1 (TopsInv1 w al _ rs) ⟨rfl, rfl, _, rfl, usedD_nil D1⟩ ?_ ?_
  · intro i v m₁ news₁ m₂ h tk own P' hi hv hJ hne hx hm F₁ N₁ nxt rt
    have X1 := X'.keeps F₁.keep
    have T1 := T'.keeps F₁.keep
    obtain ⟨hmo, hus, od, rfl, hud⟩ := hJ
    have hmo := (hm (PySem.Str.ofString "modules") (by decide)).trans hmo
    have hus := (hm (PySem.Str.ofString "used") (by decide)).trans hus
    obtain ⟨r, hr', hel⟩ := pairs_get hps hv
    rw [List.cons_append, List.nil_append] at N₁
    clear F1 N1 D1 hm
    cases r with
    | none =>
      obtain ⟨a, t, dx, odx, rfl, m1, m2⟩ := hel
      have ha := hledg _ m1
      have hdx := hledg _ m2
      dsimp only at ha hdx
      (repeat' (first | ((with_reducible show wpAny _ _ (call (Value.builtin "isinstance") _) _ _ _); (k_dflt (first | (refine' isi_tuple ?zqh ?_; (case zqh => exact Fr.keep (by k_asm) _ _ (by assumption)); k_whole) | (refine' err_isi (ps := _) ?zqX ?zqha ?zqhd ?_; (case zqX => first | assumption | exact Frag.In.keeps (by k_asm) (Fr.keep (by k_asm))); (case zqha => exact Fr.keep (by k_asm) _ _ (by assumption)); (case zqhd => exact Fr.keep (by k_asm) _ _ (by assumption)); k_whole) | fail "isinstance"))) | ((with_reducible show wpAny _ _ (eval (Expr.Name ..) _) _ _ _); (k_dflt (refine' name_any ?zqF ?zqv ?_ ?zqa ?zqb ?zqc; (case zqF => k_asm); (case zqa => exact rfl); (case zqb => exact rfl); (case zqv => first | assumption | fail "no"); (case zqc => decide); k_whole))) | (k_unfold; (try dsimp only)) | (k_end; kc_close) | walk1 | (dsimp only; walk1) | (leave1; walk_say "STEP leave1"; (try dsimp only)) | fail "no step"))
      rename Fr _ _ _ _ => F5
      rename News _ _ _ _ => N5
      refine nxt (news' := [(_, od)]) F5 N5 (fun p hp => .inl (List.mem_map_of_mem hp)) ⟨hmo, hus, od, rfl, ?_⟩
      obtain ⟨kvs, j1, j2, j3⟩ := hud
      exact ⟨kvs, j1, fun x => by rw [j2, allUsed_snoc hr']; simp, fun x hx => j3 x (by rw [allUsed_snoc hr'] at hx; simpa using hx)⟩
    | some p =>
      obtain ⟨hv, bv, bvs, ps, hmod, htb, hpb, hsum, hus2, hkn⟩ := hel
      obtain ⟨t0, t1, t2, x4, y6, hmt⟩ := hmod
      obtain ⟨a, na, rfl, ha⟩ := tup_at hledg hmt
      (repeat' (first | (((with_reducible show wpAny _ _ (call (Value.ref 78) _) _ _ _); k_dflt (refine' inst_call ?zqIS ?zqR ?zqF ?zqN ?zqst ?zqhled ?zqht ?zqhp ?zqhl ?_; (case zqIS => assumption); (case zqR => (refine Room.deeper (Room.weaken (by assumption) ?_ ?_) <;> omega)); (case zqF => k_asm); (case zqN => k_asm); (case zqst => assumption); (case zqhled => exact fun p hp => Fr.keep (by k_asm) _ _ ((by assumption : LedAt _ _) p hp)); (case zqht => assumption); (case zqhp => assumption); (case zqhl => assumption); k_whole); intro zh ztk zr zkv zks zn zF zN zl zhs zhn zhx; (try k_sweep))) | (((with_reducible show wpAny _ _ (subscriptTail _ _ (Value.ref _) (Value.int 5 _)) _ _ _); k_dflt (refine' item_at (k := 5) ?zqt ?zqhk ?zqhx ?_; ((case zqt => exact isTup_of (Fr.keep (by k_asm) _ _ (by assumption))); (case zqhk => decide); (case zqhx => exact rfl); k_whole)))) | ((with_reducible show wpAny _ _ (call (Value.builtin "isinstance") _) _ _ _); (k_dflt (first | (refine' isi_tuple ?zqh ?_; (case zqh => exact Fr.keep (by k_asm) _ _ (by assumption)); k_whole) | (refine' err_isi (ps := _) ?zqX ?zqha ?zqhd ?_; (case zqX => first | assumption | exact Frag.In.keeps (by k_asm) (Fr.keep (by k_asm))); (case zqha => exact Fr.keep (by k_asm) _ _ (by assumption)); (case zqhd => exact Fr.keep (by k_asm) _ _ (by assumption)); k_whole) | fail "isinstance"))) | ((with_reducible show wpAny _ _ (exec (Stmt.For ..) _) _ _ _); ((rename Fr _ _ _ _ => zlF); (with_unfolding_all refine' for_here zlF ?zqk1 ?zqk2 ?zqhE ?zqhs ?_; (case zqk1 => exact rfl); (case zqk2 => exact rfl); (case zqhs => intro _; exact rfl); (case zqhE => first | passes_own | with_unfolding_all passes_own); k_whole))) | ((with_reducible show wpAny _ _ (eval (Expr.Name ..) _) _ _ _); (k_dflt (refine' name_any ?zqF ?zqv ?_ ?zqa ?zqb ?zqc; (case zqF => k_asm); (case zqa => exact rfl); (case zqb => exact rfl); (case zqv => first | assumption | fail "no"); (case zqc => decide); k_whole))) | (k_unfold; (try dsimp only)) | (k_end; kc_close) | walk1 | (dsimp only; walk1) | (leave1; walk_say "STEP leave1"; (try dsimp only)) | fail "no step"))
      rename Fr _ _ _ _ => F5
      rename News _ _ _ _ => N5
      rename StrsAre _ _ => hs5
      rename List.Nodup _ => nd5
      rename (∀ x, x ∈ _ ↔ x ∈ ps.flatMap (·.1)) => hx5
      rename (∀ p ∈ _ :: own, p.1 ≠ _) => l5
      have hh5 : ∃ ks, StrsAre _ ks ∧ ks.Nodup ∧ ∀ x, x ∈ ks ↔ x ∈ ps.flatMap (·.1) := ⟨_, hs5, nd5, hx5⟩
      clear hs5 nd5 hx5
      obtain ⟨ks5, hs5, nd5, hx5⟩ := hh5
      have hks5 : ∀ x, x ∈ ks5 ↔ x ∈ p.2 := fun x => (hx5 x).trans (hus2 x).symm
      have hl5 := nodup_len (m := theNames) nd5 fun x hx => hkn x ((hks5 x).mp hx)
      have hr5 := N5 _ (.head _)
      refine for_seq rfl (.inl (News.isList N5 (.head _))) hr5.2.1 l5 F5 (fun p hp => N5 p (.tail _ hp)) (TopsInv2 w al _ (allUsed (rs.take i)) ks5 own) ⟨hmo, hus, _, rfl, by rw [List.take_zero, List.append_nil]; exact hud⟩ ?_ ?_
      · intro i2 v2 m3 news3 m4 h4 tk4 own4 P4 hi4 hv4 hJ4 hne4 hx4 hm4 F4 N4 nxt4 rt4
        have X4 := X'.keeps F4.keep
        have T4 := T'.keeps F4.keep
        obtain ⟨hmo4, hus4, od4, rfl, hud4⟩ := hJ4
        have hmo4 := (hm4 (PySem.Str.ofString "modules") (by decide)).trans hmo4
        have hus4 := (hm4 (PySem.Str.ofString "used") (by decide)).trans hus4
        clear F5 N5 hm4
        obtain ⟨nm5, t5, hnm5, rfl⟩ := strs_at hs5 hv4
        obtain ⟨kvs, hkd, hkk, hkl⟩ := hud4.len
        have hin : nm5 ∈ p.2 := (hks5 _).mp (List.mem_of_getElem? hnm5)
        rw [List.cons_append] at N4
        (repeat' (first | ((with_reducible show wpAny _ _ (setItem (Value.ref _) (Value.str _ _) _) _ _ _); (k_dflt (refine' set_str ?zqF ?zqN ?zqU ?zqd ?zqz ?_; (case zqF => k_asm); (case zqN => k_asm); (case zqU => k_updF); (case zqd => assumption); (case zqz => (rw [PySem.sizeLine_eq]; omega)); k_whole); intro zh zo zF zN zhd; (try dsimp only at zN); (try k_sweep))) | ((with_reducible show wpAny _ _ (eval (Expr.Name ..) _) _ _ _); (k_dflt (refine' name_any ?zqF ?zqv ?_ ?zqa ?zqb ?zqc; (case zqF => k_asm); (case zqa => exact rfl); (case zqb => exact rfl); (case zqv => first | assumption | fail "no"); (case zqc => decide); k_whole))) | (k_unfold; (try dsimp only)) | (k_end; kc_close) | walk1 | (dsimp only; walk1) | (leave1; walk_say "STEP leave1"; (try dsimp only)) | fail "no step"))
        rename Fr _ _ _ _ => F9
        rename News _ _ _ _ => N9
        rename PySem.Obj.IsDictOf _ _ (stored _ _ _) => hd9
        refine nxt4 (news' := (_, _) :: own) F9 N9 (fun q hq => .inl ?_) ⟨hmo4, hus4, _, rfl, usedD_put hd9 hkk (fun x => ?_) (fun x hx => ?_)⟩
        · rcases List.mem_cons.mp hq with rfl | hq
          · exact .head _
          · exact .tail _ (List.mem_map_of_mem hq)
        · rw [take_snoc hnm5]; simp [or_assoc]
        · rw [take_snoc hnm5] at hx
          simp only [List.mem_append, List.mem_singleton] at hx
          obtain ⟨_, _, _, h3⟩ := hud4
          rcases hx with hx | hx | rfl
          · exact h3 x (List.mem_append_left _ hx)
          · exact h3 x (List.mem_append_right _ hx)
          · exact hkn _ hin
      · intro h6 tk6 m6 news6 F6 N6 hJ6
        obtain ⟨hmo6, hus6, od6, rfl, hud6⟩ := hJ6
        clear F5 N5
        k_steps
        refine nxt (news' := [(_, od6)]) F6 N6 (fun q hq => .inl ?_) ⟨hmo6, hus6, od6, rfl, ?_⟩
        · rw [List.mem_singleton.mp hq]; exact .head _
        · obtain ⟨kvs, j1, j2, j3⟩ := hud6
          rw [List.take_of_length_le (l := ks5) (by rw [hs5.length]; exact Nat.le_refl _)] at j2 j3
          have hx : ∀ x, x ∈ allUsed (rs.take (i + 1)) ↔ x ∈ allUsed (rs.take i) ++ ks5 := fun x => by rw [allUsed_snoc hr', List.mem_append, hks5]; simp
          exact ⟨kvs, j1, fun x => (j2 x).trans (hx x).symm, fun x h => j3 x ((hx x).mp h)⟩
  · intro h2 tk2 m2 news2 F2 N2 hJ2
    obtain ⟨hmo2, hus2, od2, rfl, hud2⟩ := hJ2
    clear F1 N1 D1
    rw [List.take_of_length_le (by rw [← pairs_len hps]; exact Nat.le_refl _)] at hud2
    (repeat' (first | ((with_reducible show wpAny _ _ (exec (Stmt.For ..) _) _ _ _); ((rename Fr _ _ _ _ => zlF); (with_unfolding_all refine' for_here zlF ?zqk1 ?zqk2 ?zqhE ?zqhs ?_; (case zqk1 => exact rfl); (case zqk2 => exact rfl); (case zqhs => intro _; exact rfl); (case zqhE => first | passes_own | with_unfolding_all passes_own); k_whole))) | ((with_reducible show wpAny _ _ (eval (Expr.Name ..) _) _ _ _); (k_dflt (refine' name_any ?zqF ?zqv ?_ ?zqa ?zqb ?zqc; (case zqF => k_asm); (case zqa => exact rfl); (case zqb => exact rfl); (case zqv => first | assumption | fail "no"); (case zqc => decide); k_whole))) | (k_unfold; (try dsimp only)) | (k_end; kc_close) | walk1 | (dsimp only; walk1) | (leave1; walk_say "STEP leave1"; (try dsimp only)) | fail "no step"))
    rename Fr _ _ _ _ => F3
    rename News _ _ _ _ => N3
    refine for_seq rfl (seqAt_keeps halg F3.keep) (fr_ne F3 hoal) (news_ne N3 hoal) F3 N3 (TopsInv3 w al _ _ (allUsed rs) rs) ⟨hmo2, hus2, rfl, _, [], _, rfl, .nil, Nat.le_refl _, hud2⟩ ?_ ?_
    · intro i v m₁ news₁ m₂ h tk own P' hi hv hJ hne hx hm F₁ N₁ nxt rt
      have X1 := X'.keeps F₁.keep
      have T1 := T'.keeps F₁.keep
      obtain ⟨hmo, hus, hna, od, ns, nn, rfl, hsn, hsl, hud⟩ := hJ
      have hmo := (hm (PySem.Str.ofString "modules") (by decide)).trans hmo
      have hus := (hm (PySem.Str.ofString "used") (by decide)).trans hus
      have hna := (hm (PySem.Str.ofString "names") (by decide)).trans hna
      obtain ⟨r, hr', hel⟩ := pairs_get hps hv
      rw [List.cons_append, List.cons_append, List.nil_append] at N₁
      obtain ⟨kvs, hkd, hkk, hkl⟩ := hud.len
      clear F3 N3 hm
      cases r with
      | none =>
        obtain ⟨a, t, dx, odx, rfl, m1, m2⟩ := hel
        have ha := hledg _ m1
        have hdx := hledg _ m2
        dsimp only at ha hdx
        (repeat' (first | ((with_reducible show wpAny _ _ (call (Value.builtin "isinstance") _) _ _ _); (k_dflt (first | (refine' isi_tuple ?zqh ?_; (case zqh => exact Fr.keep (by k_asm) _ _ (by assumption)); k_whole) | (refine' err_isi (ps := _) ?zqX ?zqha ?zqhd ?_; (case zqX => first | assumption | exact Frag.In.keeps (by k_asm) (Fr.keep (by k_asm))); (case zqha => exact Fr.keep (by k_asm) _ _ (by assumption)); (case zqhd => exact Fr.keep (by k_asm) _ _ (by assumption)); k_whole) | fail "isinstance"))) | ((with_reducible show wpAny _ _ (eval (Expr.Name ..) _) _ _ _); (k_dflt (refine' name_any ?zqF ?zqv ?_ ?zqa ?zqb ?zqc; (case zqF => k_asm); (case zqa => exact rfl); (case zqb => exact rfl); (case zqv => first | assumption | fail "no"); (case zqc => decide); k_whole))) | (k_unfold; (try dsimp only)) | (k_end; kc_close) | walk1 | (dsimp only; walk1) | (leave1; walk_say "STEP leave1"; (try dsimp only)) | fail "no step"))
        rename Fr _ _ _ _ => F9
        rename News _ _ _ _ => N9
        exact nxt (news' := [(_, _), (_, _)]) F9 N9 (fun q hq => .inl (List.mem_map_of_mem hq)) ⟨hmo, hus, hna, od, ns, nn, rfl, by rw [topsOf_snoc hr', List.append_nil]; exact hsn, by omega, hud⟩
      | some p =>
        obtain ⟨hv, bv, bvs, ps, hmod, htb, hpb, hsum, hus2, hkn⟩ := hel
        obtain ⟨t0, t1, t2, x4, y6, hmt⟩ := hmod
        obtain ⟨a, na, rfl, ha⟩ := tup_at hledg hmt
        (repeat' (first | (((with_reducible show wpAny _ _ (subscriptTail _ _ (Value.ref _) (Value.int 2 _)) _ _ _); k_dflt (refine' item_at (k := 2) ?zqt ?zqhk ?zqhx ?_; ((case zqt => exact isTup_of (Fr.keep (by k_asm) _ _ (by assumption))); (case zqhk => decide); (case zqhx => exact rfl); k_whole)))) | ((with_reducible show wpAny _ _ (call (Value.builtin "isinstance") _) _ _ _); (k_dflt (first | (refine' isi_tuple ?zqh ?_; (case zqh => exact Fr.keep (by k_asm) _ _ (by assumption)); k_whole) | (refine' err_isi (ps := _) ?zqX ?zqha ?zqhd ?_; (case zqX => first | assumption | exact Frag.In.keeps (by k_asm) (Fr.keep (by k_asm))); (case zqha => exact Fr.keep (by k_asm) _ _ (by assumption)); (case zqhd => exact Fr.keep (by k_asm) _ _ (by assumption)); k_whole) | fail "isinstance"))) | ((with_reducible show wpAny _ _ (call (Value.builtin "list.append") _) _ _ _); (k_dflt (refine' append_any ?zqF ?zqN ?zqU ?zqz ?_; (case zqF => k_asm); (case zqN => k_asm); (case zqU => k_updF); (case zqz => omega); k_whole); intro zh zn zF zN; (try dsimp only at zN); (try k_sweep))) | ((with_reducible show wpAny _ _ (callWith _ (Value.builtin "list.append") ..) _ _ _); (with_unfolding_all refine PyProof.Rows.callWith_method1 ?_)) | ((with_reducible show wpAny _ _ (compareOp CmpOp.NotIn (Value.str _ _) (Value.ref _)) _ _ _); (k_dflt (refine' notin_dict ?zqN ?zqm ?zqd ?zqlo ?_; (case zqN => k_asm); (case zqm => k_mem); (case zqd => assumption); (case zqlo => assumption); k_whole))) | ((with_reducible show wpAny _ _ (eval (Expr.Name ..) _) _ _ _); (k_dflt (refine' name_any ?zqF ?zqv ?_ ?zqa ?zqb ?zqc; (case zqF => k_asm); (case zqa => exact rfl); (case zqb => exact rfl); (case zqv => first | assumption | fail "no"); (case zqc => decide); k_whole))) | (k_unfold; (try dsimp only)) | (k_end; kc_close) | walk1 | (dsimp only; walk1) | (leave1; walk_say "STEP leave1"; (try dsimp only)) | fail "no step"))
        · rename Fr _ _ _ _ => F9
          rename News _ _ _ _ => N9
          rename (p.1 ∈ _) => hin9
          exact nxt (news' := [(_, _), (_, _)]) F9 N9 (fun q hq => .inl (List.mem_map_of_mem hq)) ⟨hmo, hus, hna, od, ns, nn, rfl, by
            rw [topsOf_snoc hr']
            dsimp only
            rw [if_pos ((hkk _).mp hin9), List.append_nil]; exact hsn, by omega, hud⟩
        · rename Fr _ _ _ _ => F9
          rename News _ _ _ _ => N9
          rename (¬ (p.1 ∈ _)) => hni9
          refine nxt (news' := [(_, _), (_, _)]) F9 N9 (fun q hq => .inl ?_) ⟨hmo, hus, hna, od, ns ++ [.str p.1 t2], _, rfl, ?_, ?_, hud⟩
          · rcases List.mem_cons.mp hq with rfl | hq
            · exact .head _
            · rw [List.mem_singleton.mp hq]; exact .tail _ (.head _)
          · rw [topsOf_snoc hr']
            dsimp only
            rw [if_neg (fun z => hni9 ((hkk _).mpr z))]
            exact StrsAre.append' hsn (.cons _ _ .nil)
          · rw [List.length_append, List.length_singleton]; omega
    · intro h5 tk5 m5 news5 F5 N5 hJ5
      obtain ⟨hmo5, hus5, hna5, od5, ns5, nn5, rfl, hsn5, hsl5, hud5⟩ := hJ5
      clear F3 N3
      (repeat' (first | ((with_reducible show wpAny _ _ (eval (Expr.Name ..) _) _ _ _); (k_dflt (refine' name_any ?zqF ?zqv ?_ ?zqa ?zqb ?zqc; (case zqF => k_asm); (case zqa => exact rfl); (case zqb => exact rfl); (case zqv => first | assumption | fail "no"); (case zqc => decide); k_whole))) | (k_unfold; (try dsimp only)) | (k_end; kc_close) | walk1 | (dsimp only; walk1) | (leave1; walk_say "STEP leave1"; (try dsimp only)) | fail "no step"))
      dsimp only
      rw [List.take_of_length_le (l := rs) (by rw [← pairs_len hps]; exact Nat.le_refl _)] at hsn5
      have hD := N5 _ (.head _)
      exact ret (Ext.of_fr hg F5) (none_of_hide hg hD.2.2 (by simp)) hD.1 hsn5
end Mine

/-! part DC -/
namespace Mine
open _root_.PySem _root_.PySem.W _root_.PySem.Calls _root_.PyProof.Rows
example : True := by w_top off; trivial
section
variable {prog : Program} {w : World} {A : Around} {E : Value → Shared → Prop} {s : Shared} {env : Env}
abbrev SKey := PySem.Str
/-- which items a dict comprehension takes, what keys and values it makes of them -/
structure DcMark (p : Value → Bool) (FK : Value → PySem.Str → Prop) (FV : Value → Value → Prop) : Prop where
def DcKeyed (prog : Program) (w : World) (FK : Value → PySem.Str → Prop) (v key : Value) : Prop := ∃ k, (PySem.strKind prog w).is k key = true ∧ FK v k
def DcQuiet (prog : Program) (w : World) (A : Around) (env : Env) (kx vx : Expr) (x : PySem.Str) (ifs : List Expr) (scope : Scope) (cl : List (PySem.Str × Addr)) (p : Value → Bool) (FK : Value → PySem.Str → Prop) (FV : Value → Value → Prop) (items : List Value) (s₁ : Shared) : Prop :=
  (∀ C v s₃ m₃ E', v ∈ items → Fr s₁.heap C s₃.heap m₃ → News s₁.heap C s₃.heap [] → m₃ x = some v →
      wpAny (model prog w) A (forIn ifs true fun c r => if r = true then do let ok ← isTrue c (compEnvC scope cl C env) (eval c (compEnvC scope cl C env)); pure (ForInStep.yield ok) else pure (ForInStep.yield r))
        (fun ok s₄ => ok = p v ∧ Keeps s₃ s₄) E' s₃) ∧
  (∀ C v s₃ m₃ E', v ∈ items → p v = true → Fr s₁.heap C s₃.heap m₃ → News s₁.heap C s₃.heap [] → m₃ x = some v →
      wpAny (model prog w) A (eval kx (compEnvC scope cl C env)) (fun key s₄ => DcKeyed prog w FK v key ∧ Keeps s₃ s₄) E' s₃) ∧
  (∀ C v s₃ m₃ E', v ∈ items → p v = true → Fr s₁.heap C s₃.heap m₃ → News s₁.heap C s₃.heap [] → m₃ x = some v →
      wpAny (model prog w) A (eval vx (compEnvC scope cl C env)) (fun y s₄ => FV v y ∧ Keeps s₃ s₄) E' s₃)
def DcSrc (prog : Program) (w : World) (A : Around) (env : Env) (kx vx : Expr) (x : PySem.Str) (ifs : List Expr) (scope : Scope) (cl : List (PySem.Str × Addr)) (p : Value → Bool) (FK : Value → PySem.Str → Prop) (FV : Value → Value → Prop) (Q : Value → Shared → Prop) (xv : Value) (s₁ : Shared) : Prop :=
  ∃ a items, xv = .ref a ∧ SeqAt s₁.heap a items ∧ items.length ≤ sizeLine ∧ DcQuiet prog w A env kx vx x ifs scope cl p FK FV items s₁ ∧
    (∀ D h' tk kvs, s₁.heap.get? D = none → @LE.le Nat _ s₁.heap.objs.size D → h'.DictOf (PySem.strKind prog w) D kvs → StoredAll FK FV (items.filter p) kvs → (∀ b o, s₁.heap.get? b = some o → h'.get? b = some o) → Q (.ref D) { s₁ with heap := h', toks := tk })
theorem dc_block {kx vx iter : Expr} {x : PySem.Str} {px : Pos} {ifs : List Expr} {scope : Scope} {cl : List (PySem.Str × Addr)} {pos : Pos} {s₂ s₀ : Shared} {I a : Addr} {items : List Value} {St : Nat → Heap → Prop} {p : Value → Bool} {FK : Value → PySem.Str → Prop} {FV : Value → Value → Prop} {RR : Value → Addr → Result → Shared → Prop}
    (W : Walks prog w A I [I, a] [I] items.toArray.size (fun i v => items.toArray[i]? = some v) St) (hsz : items.length ≤ sizeLine) (hcell : ∀ y ∈ scope.names, y.2 ≠ .cell) (hkind : scope.kind = .function) (hx : scope.names.lookup x = some .local) (hst : St 0 s₂.heap)
    (hfp : ∀ b ∈ [I, a], b < s₂.heap.objs.size) (keep : ∀ b o, s₀.heap.get? b = some o → s₂.heap.get? b = some o) (hI : s₀.heap.get? I = none) (hle : @LE.le Nat _ s₀.heap.objs.size s₂.heap.objs.size) (hq : DcQuiet prog w A env kx vx x ifs scope cl p FK FV items s₀)
    (hRR : ∀ D C h' tk m' kvs, s₂.heap.get? D = none → @LE.le Nat _ s₀.heap.objs.size D → s₂.heap.get? C = none → D ≠ C → h'.Ns C m' → h'.DictOf (PySem.strKind prog w) D kvs → StoredAll FK FV (items.filter p) kvs → (∀ b o, s₀.heap.get? b = some o → h'.get? b = some o) → RR (.ref D) C (.ok .next) { s₂ with heap := h', toks := tk }) :
    wpAny (model prog w) A newDict (fun acc s₃ => wpAny (model prog w) A (newFunctionEnv scope env.globals cl [] env.qual none .none (some env)) (fun cenv s₄ =>
      codeAny (model prog w) A (.compStart (.DictComp kx vx [⟨.Name x px, iter, ifs, 0⟩] scope pos) 0 (.ref I) acc { cenv with scope := relabel scope env }) (RR acc cenv.locals) s₄) E s₃) E s₂ := by
  have nIs : ∀ b o, s₀.heap.get? b = some o → b ∉ [I] := fun b o e q => by rw [List.mem_singleton.mp q, hI] at e; cases e
  refine wpAny_newObj_type (wpAny_newFunctionEnv hcell (by intro y hy; simp at hy) (fun h₁ hns₁ hsb₁ => ?_) hkind)
  dsimp only at hns₁ hsb₁ ⊢
  have hnew : (s₂.heap.push { cls := .type "dict", dict := none, data := .dict #[] }).DictOf (PySem.strKind prog w) s₂.heap.objs.size [] := Heap.DictOf.new s₂.heap
  generalize hH2 : s₂.heap.push { cls := .type "dict", dict := none, data := .dict #[] } = H2 at hns₁ hsb₁ hnew ⊢
  have hC : H2.objs.size = s₂.heap.objs.size + 1 := by rw [← hH2, Heap.size_push]
  have lt2 : ∀ b o, s₂.heap.get? b = some o → @LT.lt Nat _ b s₂.heap.objs.size := fun b o e => Heap.lt_size e
  have hDC : @Ne Nat s₂.heap.objs.size H2.objs.size := by rw [hC]; omega
  have old : ∀ b o, s₂.heap.get? b = some o → h₁.get? b = some o := fun b o e => by
    have := lt2 b o e
    exact hsb₁.extBut b o (show @Ne Nat b _ from by rw [hC]; omega) (Heap.get?_push_of_some _ (hH2 ▸ Heap.get?_push_of_some _ e))
  have hacc : h₁.DictOf (PySem.strKind prog w) s₂.heap.objs.size [] := hnew.at fun o e => hsb₁.extBut _ _ hDC (Heap.get?_push_of_some _ e)
  have hDf : s₂.heap.objs.size ∉ [I, a] := fun q => Nat.lt_irrefl _ (hfp _ q)
  have hCf : H2.objs.size ∉ [I, a] := fun q => by have h3 : @LT.lt Nat _ H2.objs.size _ := hfp _ q; rw [hC] at h3; omega
  have fresh : ∀ b, @LE.le Nat _ s₂.heap.objs.size b → s₂.heap.get? b = none := fun b hb => Heap.get?_none_of_le hb
  have toFr : ∀ {s₃ : Shared} {m₃ : PySem.Str → Option Value}, s₃.heap.Ns H2.objs.size m₃ → (∀ b o, b ≠ H2.objs.size → b ∉ [I] → b ≠ s₂.heap.objs.size → h₁.get? b = some o → s₃.heap.get? b = some o) → Fr s₀.heap H2.objs.size s₃.heap m₃ := fun {s₃ m₃} hn hk => by
    refine ⟨hn, fun b o e => ?_, by show @LE.le Nat _ _ _; rw [hC]; omega⟩
    have h3 := lt2 b o (keep b o e)
    exact hk b o (show @Ne Nat b _ from by rw [hC]; omega) (nIs b o e) (show @Ne Nat b _ from by omega) (old b o (keep b o e))
  have mem : ∀ {i : Nat} {v : Value}, items.toArray[i]? = some v → v ∈ items := fun {i v} e => List.mem_of_getElem? (i := i) (by simpa using e)
  have loop : ∀ s₃ : Shared, s₃ = { s₂ with heap := h₁, toks := s₂.toks + ([] : List (PySem.Str × Value)).length } →
      codeAny (model prog w) A (.compLoop (.DictComp kx vx [⟨.Name x px, iter, ifs, 0⟩] scope pos) 0 (.ref I) (.ref s₂.heap.objs.size) (compEnvC scope cl H2.objs.size env)) (RR (.ref s₂.heap.objs.size) H2.objs.size) s₃ := by
    rintro s₃ rfl
    refine codeAny_compLoop_walkD (hsz := by rw [List.size_toArray]; exact hsz) (knd := PySem.strKind prog w) (cenv := compEnvC scope cl H2.objs.size env) W p FK FV (lookup_relabel_local hx) (by simp [compEnvC, relabel, hkind]) hDC hDf hCf (W.frame _ _ _ hst fun b _ o e => old b o e) hacc hns₁
      (fun i v s₃ m₃ hv hn hm hk => hq.1 _ v s₃ m₃ _ (mem hv) (toFr hn hk) News.nil hm)
      (fun i v s₃ m₃ hv hpv hn hm hk => hq.2.1 _ v s₃ m₃ _ (mem hv) hpv (toFr hn hk) News.nil hm)
      (fun i v s₃ m₃ hv hpv hn hm hk => hq.2.2 _ v s₃ m₃ _ (mem hv) hpv (toFr hn hk) News.nil hm) fun h' tk m' kvs vs hn ha hlen hP hF hk => ?_
    have e : vs = items := by
      have := list_of_places (items := items.toArray) hlen hP
      simpa using this
    subst e
    exact hRR _ _ h' tk m' kvs (fresh _ (Nat.le_refl _)) hle (fresh _ (by rw [hC]; omega)) hDC hn ha hF fun b o e => (toFr (s₃ := { s₂ with heap := h', toks := tk }) hn hk).keep b o e
  exact codeAny_compStart_dict (loop _ rfl) (W.self 0 _ _ _ (W.frame _ _ _ hst fun b _ o e => old b o e) (loop _ rfl))

theorem dc_seq {kx vx iter : Expr} {x : PySem.Str} {px : Pos} {ifs : List Expr} {scope : Scope} {cl : List (PySem.Str × Addr)} {pos : Pos} {Q : Value → Shared → Prop} {p : Value → Bool} {FK : Value → PySem.Str → Prop} {FV : Value → Value → Prop} (_ : DcMark p FK FV)
    (hh : A.handled = none) (hclos : closureFor scope env = pure cl) (hcell : ∀ y ∈ scope.names, y.2 ≠ .cell) (hkind : scope.kind = .function)
    (hnames : ∀ y ∈ scope.names, y.2 = .local → scope.names.lookup y.1 = some .local) (hx : scope.names.lookup x = some .local)
    (hs : ∀ x, foldedSetIterable iter env x = pure x)
    (h : wpAny (model prog w) A (eval iter env) (DcSrc prog w A env kx vx x ifs scope cl p FK FV Q) E s) :
    wpAny (model prog w) A (eval (.DictComp kx vx [⟨.Name x px, iter, ifs, 0⟩] scope pos) env) Q E s := by
  rw [arm_eval_DictComp]
  refine wpAny_comprehension_free (use := none) rfl hs hclos hkind hnames (wpAny_mono h (fun xv s₁ h₁ => ?_) fun _ _ e => e)
  obtain ⟨a, items, rfl, ha, hsz, hq, hQ⟩ := h₁
  refine pyIter_seq hh ha fun I h' St W st0 hI hb keep hIe => ?_
  have hle : @LE.le Nat _ s₁.heap.objs.size h'.objs.size := by
    have h3 : @LT.lt Nat _ I h'.objs.size := hb I (by simp)
    rw [hIe] at h3; omega
  refine dc_block (s₀ := s₁) (RR := fun acc C => compPost (model prog w) A E none Q acc C) W hsz hcell hkind hx st0 hb keep hI hle hq ?_
  intro D C h'' tk m' kvs hD hle' hC hDC hn hl hF hk
  have nn : ∀ {b}, h'.get? b = none → s₁.heap.get? b = none := fun {b} e => by
    cases q : s₁.heap.get? b with
    | none => rfl
    | some o => rw [keep _ _ q] at e; cases e
  exact ⟨m', hn, fun h3 hs3 => hQ D h3 tk kvs (nn hD) hle' (hl.extBut hs3.extBut hDC) hF fun b o e => hs3.extBut b o (by rintro rfl; rw [nn hC] at e; cases e) (hk b o e)⟩

def DcSrcA (prog : Program) (w : World) (A : Around) (env : Env) (kx vx : Expr) (x y : PySem.Str) (ifs : List Expr) (scope : Scope) (cl : List (PySem.Str × Addr)) (p : Value → Bool) (FK : Value → PySem.Str → Prop) (FV : Value → Value → Prop) (Q : Flow → Shared → Prop) (xv : Value) (s₁ : Shared) : Prop :=
  ∃ a items m, xv = .ref a ∧ SeqAt s₁.heap a items ∧ items.length ≤ sizeLine ∧ s₁.heap.Ns env.locals m ∧ DcQuiet prog w A env kx vx x ifs scope cl p FK FV items s₁ ∧
    (∀ D h' tk kvs, s₁.heap.get? D = none → @LE.le Nat _ s₁.heap.objs.size D → h'.DictOf (PySem.strKind prog w) D kvs → StoredAll FK FV (items.filter p) kvs → h'.Ns env.locals (fun z => if z = y then some (.ref D) else m z) → (∀ b o, b ≠ env.locals → s₁.heap.get? b = some o → h'.get? b = some o) → Q .next { s₁ with heap := h', toks := tk })
theorem dc_assign {kx vx iter : Expr} {x y : PySem.Str} {px py : Pos} {ifs : List Expr} {scope : Scope} {cl : List (PySem.Str × Addr)} {pos spos : Pos} {Q : Flow → Shared → Prop} {p : Value → Bool} {FK : Value → PySem.Str → Prop} {FV : Value → Value → Prop} (_ : DcMark p FK FV)
    (hh : A.handled = none) (hsw : swapsWith (.DictComp kx vx [⟨.Name x px, iter, ifs, 0⟩] scope pos) (some (.Name y py)) spos.line env = pure true) (hclos : closureFor scope env = pure cl) (hcell : ∀ y ∈ scope.names, y.2 ≠ .cell) (hkind : scope.kind = .function)
    (hnames : ∀ y ∈ scope.names, y.2 = .local → scope.names.lookup y.1 = some .local) (hx : scope.names.lookup x = some .local)
    (hy : env.kindOf y = some .local) (hp : (env.scope.kind == .class || (env.scope.kind == .module && env.locals != env.globals)) = false)
    (hs : ∀ x, foldedSetIterable iter env x = pure x)
    (h : wpAny (model prog w) A (eval iter env) (DcSrcA prog w A env kx vx x y ifs scope cl p FK FV Q) E s) :
    wpAny (model prog w) A (exec (.Assign [.Name y py] (.DictComp kx vx [⟨.Name x px, iter, ifs, 0⟩] scope pos) spos) env) Q E s := by
  rw [exec_Assign_Name_used _ _ _ _ hsw]
  refine wpAny_bind (wpAny_standAt (wpAny_bind ?_))
  show wpAny _ A (do let _ ← comprehension (.DictComp kx vx [⟨.Name x px, iter, ifs, 0⟩] scope pos) scope env _ newDict false (eval iter env) (some (assign (.Name y py) env))) _ _ s
  refine wpAny_bind (wpAny_mono (wpAny_comprehension_free (use := some (assign (.Name y py) env)) (Q := fun _ s' => Q .next s') rfl hs hclos hkind hnames (wpAny_mono h (fun xv s₁ h₁ => ?_) fun _ _ e => e)) (fun _ s' hq => wpAny_pure (wpAny_pure hq)) fun _ _ e => e)
  obtain ⟨a, items, m, rfl, ha, hsz, hns, hq, hQ⟩ := h₁
  refine pyIter_seq hh ha fun I h' St W st0 hI hb keep hIe => ?_
  have hle : @LE.le Nat _ s₁.heap.objs.size h'.objs.size := by
    have h3 : @LT.lt Nat _ I h'.objs.size := hb I (by simp)
    rw [hIe] at h3; omega
  refine dc_block (s₀ := s₁) (RR := fun acc C => compPost (model prog w) A E (some (assign (.Name y py) env)) (fun _ s' => Q .next s') acc C) W hsz hcell hkind hx st0 hb keep hI hle hq ?_
  intro D C h'' tk m' kvs hD hle' hC hDC hnC hl hF hk
  have nn : ∀ {b}, h'.get? b = none → s₁.heap.get? b = none := fun {b} e => by
    cases q : s₁.heap.get? b with
    | none => rfl
    | some o => rw [keep _ _ q] at e; cases e
  have hLC : env.locals ≠ C := by rintro rfl; obtain ⟨o, _, _, ho, _⟩ := hns; rw [nn hC] at ho; cases ho
  have hLD : env.locals ≠ D := by rintro rfl; obtain ⟨o, _, _, ho, _⟩ := hns; rw [nn hD] at ho; cases ho
  show wpAny _ A (assign (.Name y py) env (.ref D)) _ _ _
  refine wpAny_assign_Name (wpAny_storeName_local hy (hns.at' fun o e => hk _ o e) (fun h₂ hn₂ hs₂ => ?_) hp)
  refine ⟨m', hnC.sameBut hs₂ (Ne.symm hLC), fun h₃ hs₃ => ?_⟩
  refine hQ D h₃ _ kvs (nn hD) hle' ((hl.extBut hs₂.extBut (Ne.symm hLD)).extBut hs₃.extBut hDC) hF (hn₂.sameBut hs₃ hLC) fun b o hb e => ?_
  exact hs₃.extBut b o (by rintro rfl; rw [nn hC] at e; cases e) (hs₂.extBut b o hb (hk b o e))
end
end Mine

/-! part T4 -/
namespace Mine
open _root_.PySem _root_.PySem.W _root_.PySem.Calls _root_.PyProof.Rows
example : True := by w_top off; trivial
local macro_rules | `(tactic| k_ne) => `(tactic| (refine neN ?_; (try dsimp only); first | with_reducible assumption | exact Ne.symm (by with_reducible assumption) | omega))

/-- the modules among the things, by name -/
def selOf : List Value → List Rec → List (PySem.Str × Value)
  | v :: vs, some p :: rs => (p.1, v) :: selOf vs rs
  | _ :: vs, none :: rs => selOf vs rs
  | _, _ => []
def dueOf (vs : List Value) (rs : List Rec) : List (PySem.Str × Value) := (selOf vs rs).foldl (fun acc kv => stored acc kv.1 kv.2) []
theorem selOf_snoc {v : Value} {r : Rec} : ∀ {vs : List Value} {rs : List Rec}, vs.length = rs.length → selOf (vs ++ [v]) (rs ++ [r]) = selOf vs rs ++ selOf [v] [r]
  | [], [], _ => rfl
  | x :: vs, q :: rs, h => by
    have ih := selOf_snoc (v := v) (r := r) (vs := vs) (rs := rs) (by simpa using h)
    cases q with
    | none => exact ih
    | some p => simp only [List.cons_append, selOf, ih]
theorem dueOf_some {v : Value} {p : PySem.Str × List PySem.Str} {vs : List Value} {rs : List Rec} (h : vs.length = rs.length) : dueOf (vs ++ [v]) (rs ++ [some p]) = stored (dueOf vs rs) p.1 v := by
  unfold dueOf
  rw [selOf_snoc h, List.foldl_append]; rfl
theorem dueOf_none {v : Value} {vs : List Value} {rs : List Rec} (h : vs.length = rs.length) : dueOf (vs ++ [v]) (rs ++ [none]) = dueOf vs rs := by
  unfold dueOf
  rw [selOf_snoc h, List.foldl_append]; rfl
theorem stored_fold {FK : Value → PySem.Str → Prop} : ∀ {l : List Value} {kvs : List (PySem.Str × Value)}, StoredAll FK (fun v y => y = v) l kvs → ∀ sel : List (PySem.Str × Value), l = sel.map (·.2) → (∀ kv ∈ sel, ∀ k, FK kv.2 k → k = kv.1) →
    kvs = sel.foldl (fun acc kv => stored acc kv.1 kv.2) [] := by
  intro l kvs h
  induction h with
  | nil =>
    intro sel e _
    cases sel with
    | nil => rfl
    | cons _ _ => cases e
  | @snoc l kvs v k y _ hk hy ih =>
    intro sel e hf
    rcases nil_or_snoc sel with rfl | ⟨sel', kv, rfl⟩
    · simp at e
    · rw [List.map_append] at e
      obtain ⟨e1, e2⟩ := List.append_inj' e rfl
      have e3 : v = kv.2 := by simpa using e2
      rw [List.foldl_append, ← ih sel' e1 fun q hq => hf q (List.mem_append_left _ hq)]
      subst e3
      have := hf kv (by simp) k hk
      subst this
      subst hy
      rfl

def isTupB (h : Heap) (v : Value) : Bool := match v with
  | .ref a => match h.get? a with
    | some o => o.cls == .type "tuple"
    | none => false
  | _ => false
def keyOf (h : Heap) (v : Value) (k : PySem.Str) : Prop := ∃ t, (itemsOf h v)[2]? = some (.str k t)
theorem elt_some {h : Heap} {tl : Led} {v : Value} {p : PySem.Str × List PySem.Str} (l : LedAt h tl) (e : Mdl tl v p.1 p.2) : isTupB h v = true ∧ ∀ k, keyOf h v k → k = p.1 := by
  obtain ⟨hv, bv, bvs, ps, ⟨t0, t1, t2, x4, y6, hmt⟩, _⟩ := e
  obtain ⟨a, na, rfl, ha⟩ := tup_at l hmt
  refine ⟨by unfold isTupB; dsimp only; rw [ha]; rfl, fun k hk => ?_⟩
  obtain ⟨t, ht⟩ := hk
  rw [itemsOf_eq ha] at ht
  have := Option.some.inj ht
  injection this with e1
  exact e1.symm
theorem elt_none {h : Heap} {tl : Led} {v : Value} (l : LedAt h tl) (e : Err32 tl v) : isTupB h v = false := by
  obtain ⟨a, t, dx, od, rfl, m1, _⟩ := e
  unfold isTupB
  dsimp only
  rw [l _ m1]; rfl
theorem sel_filter {h : Heap} {tl : Led} (l : LedAt h tl) : ∀ {vs : List Value} {rs : List Rec}, Pairs (Elt tl) vs rs → vs.filter (isTupB h) = (selOf vs rs).map (·.2) ∧ ∀ kv ∈ selOf vs rs, ∀ k, keyOf h kv.2 k → k = kv.1
  | _, _, .nil => ⟨rfl, fun _ q => by cases q⟩
  | v :: vs, r :: rs, .cons e q => by
    obtain ⟨i1, i2⟩ := sel_filter l q
    cases r with
    | none =>
      rw [List.filter_cons_of_neg (by rw [elt_none l e]; exact Bool.false_ne_true)]
      exact ⟨i1, i2⟩
    | some p =>
      obtain ⟨j1, j2⟩ := elt_some (p := p) l e
      rw [List.filter_cons_of_pos j1]
      refine ⟨by rw [i1]; rfl, fun kv hkv k hk => ?_⟩
      rcases List.mem_cons.mp hkv with rfl | hkv
      · exact j2 k hk
      · exact i2 kv hkv k hk

def ModsSpec (w : World) (H : Heap) : Prop := ∀ (A : Around) (s : Shared) (R : Result → Shared → Prop) (al : Addr) (tl : Led) (ms : List Value) (rs : List Rec),
  Room A 4 60 → H.StaysIn s.heap → LedAt s.heap tl → SeqAt s.heap al ms → Pairs (Elt tl) ms rs → ms.length ≤ 10 →
  (∀ {h' tk' D}, Ext [] s.heap h' → s.heap.get? D = none → @LE.le Nat _ s.heap.objs.size D → h'.DictOf (PySem.strKind PySem.Challenge.pw_pq0447_01 w) D (dueOf ms rs) → R (.ok (.ret (.ref D))) { s with heap := h', toks := tk' }) →
  codeAny (model PySem.Challenge.pw_pq0447_01 w) A (.call (.ref 66) ⟨[.ref al], []⟩) R s

set_option maxHeartbeats 8000000 in
theorem mods_spec {w : World} {lo : List PySem.Str} {mean : ExcName → Option Value} {mg mb : PySem.Str → Option Value} {H : Heap} (G : Root w lo mean mg mb H) : ModsSpec w H := by
  intro A s R al tl ms rs hr st hled hal hps hlen ret
  obtain ⟨handled, dp, fr, gd, un⟩ := A
  obtain rfl : handled = none := hr.handled
  have X := G.X
  have T := G.T
  refine' enterN (K := Mine.hd.heap_39 w.params) (binds := [(PySem.Str.ofString "modules", .ref al)]) [] X T st ?N ?k6 ?k7 ?k8 ?k9 ?kB ?_ ?c2 ?c3 ?c4 ?c5
  case N => intro q hq; cases hq
  ((try (case k6 => k_is)); (try (case k7 => k_is)); (try (case k8 => (have := Room.depth (by assumption); dsimp only at this ⊢; omega))); (try (case k9 => exact BindsTo.of_eq rfl)); (try (case c5 => decide)); (try (case kB => exact locs rfl)); (try (case c2 => exact rfl)); (try (case c3 => exact rfl)); (try (case c4 => exact rfl)))
  intro g' L' h' hg st' F' N' X' T'
  have hg' : g' = s.heap := hg
  have hledg : LedAt g' tl := hg' ▸ hled
  have halg : SeqAt g' al ms := hg' ▸ hal
  have MK : DcMark (isTupB g') (keyOf g') (fun v y => y = v) := ⟨⟩
  (try dsimp only)
  (try k_fold)
  (repeat' (first | ((with_reducible show wpAny _ _ (eval (Expr.DictComp ..) _) _ _ _); (k_dflt (refine' dc_seq ?zqmk ?zqhh ?zqhclos ?zqhcell ?zqhkind ?zqhnames ?zqhx ?zqhs ?_; (case zqmk => assumption); (case zqhh => exact rfl); (case zqhclos => exact closureFor_none (by decide)); (case zqhcell => decide); (case zqhkind => exact rfl); (case zqhnames => decide); (case zqhx => exact rfl); (case zqhs => exact fun _ => rfl); k_whole))) | (k_unfold; (try dsimp only)) | (k_end; kc_close) | walk1 | (dsimp only; walk1) | (leave1; walk_say "STEP leave1"; (try dsimp only)) | fail "no step"))
  have seqS : SeqAt h' al ms := seqAt_keeps halg F'.keep
  refine ⟨al, ms, rfl, seqS, by rw [sizeLine_eq]; omega, ⟨?_, ?_, ?_⟩, ?_⟩
  · intro C v s₃ m₃ E' hv F3 N3 hm
    obtain ⟨i, hi⟩ := List.getElem?_of_mem hv
    obtain ⟨r, _, hel⟩ := pairs_get hps hi
    have X3 := X'.keeps (fun b o e => F3.keep b o (F'.keep b o e))
    have T3 := T'.keeps (fun b o e => F3.keep b o (F'.keep b o e))
    have X1 := X'.keeps F'.keep
    have T1 := T'.keeps F'.keep
    cases r with
    | none =>
      rw [elt_none hledg hel]
      obtain ⟨a, t, dx, odx, rfl, m1, m2⟩ := hel
      have ha := F'.keep _ _ (hledg _ m1)
      have hdx := F'.keep _ _ (hledg _ m2)
      dsimp only at ha hdx
      clear F' N'
      (repeat' (first | ((with_reducible show wpAny _ _ (eval (Expr.Name ..) _) _ _ _); (k_dflt (refine' name_any ?zqF ?zqv ?_ ?zqa ?zqb ?zqc; (case zqF => k_asm); (case zqa => exact rfl); (case zqb => exact rfl); (case zqv => first | assumption | fail "no"); (case zqc => decide); k_whole))) | ((with_reducible show wpAny _ _ (call (Value.builtin "isinstance") _) _ _ _); (k_dflt (first | (refine' isi_tuple ?zqh ?_; (case zqh => exact Fr.keep (by k_asm) _ _ (by assumption)); k_whole) | (refine' err_isi (ps := _) ?zqX ?zqha ?zqhd ?_; (case zqX => first | assumption | exact Frag.In.keeps (by k_asm) (Fr.keep (by k_asm))); (case zqha => exact Fr.keep (by k_asm) _ _ (by assumption)); (case zqhd => exact Fr.keep (by k_asm) _ _ (by assumption)); k_whole) | fail "isinstance"))) | (k_unfold; (try dsimp only)) | (k_end; kc_close) | walk1 | (dsimp only; walk1) | (leave1; walk_say "STEP leave1"; (try dsimp only)) | fail "no step"))
      exact keeps_refl
    | some p =>
      rw [(elt_some (p := p) hledg hel).1]
      obtain ⟨hv, bv, bvs, ps, ⟨t0, t1, t2, x4, y6, hmt⟩, _⟩ := hel
      obtain ⟨a, na, rfl, ha0⟩ := tup_at hledg hmt
      have ha := F'.keep _ _ ha0
      clear F' N'
      (repeat' (first | ((with_reducible show wpAny _ _ (eval (Expr.Name ..) _) _ _ _); (k_dflt (refine' name_any ?zqF ?zqv ?_ ?zqa ?zqb ?zqc; (case zqF => k_asm); (case zqa => exact rfl); (case zqb => exact rfl); (case zqv => first | assumption | fail "no"); (case zqc => decide); k_whole))) | ((with_reducible show wpAny _ _ (call (Value.builtin "isinstance") _) _ _ _); (k_dflt (first | (refine' isi_tuple ?zqh ?_; (case zqh => exact Fr.keep (by k_asm) _ _ (by assumption)); k_whole) | (refine' err_isi (ps := _) ?zqX ?zqha ?zqhd ?_; (case zqX => first | assumption | exact Frag.In.keeps (by k_asm) (Fr.keep (by k_asm))); (case zqha => exact Fr.keep (by k_asm) _ _ (by assumption)); (case zqhd => exact Fr.keep (by k_asm) _ _ (by assumption)); k_whole) | fail "isinstance"))) | (k_unfold; (try dsimp only)) | (k_end; kc_close) | walk1 | (dsimp only; walk1) | (leave1; walk_say "STEP leave1"; (try dsimp only)) | fail "no step"))
      exact keeps_refl
  · intro C v s₃ m₃ E' hv hp F3 N3 hm
    obtain ⟨i, hi⟩ := List.getElem?_of_mem hv
    obtain ⟨r, _, hel⟩ := pairs_get hps hi
    cases r with
    | none =>
      rw [elt_none hledg hel] at hp
      cases hp
    | some p =>
      obtain ⟨hv, bv, bvs, ps, ⟨t0, t1, t2, x4, y6, hmt⟩, _⟩ := hel
      obtain ⟨a, na, rfl, ha0⟩ := tup_at hledg hmt
      have ha := F'.keep _ _ ha0
      have hky : keyOf g' (.ref a) p.1 := ⟨t2, by rw [itemsOf_eq ha0]; rfl⟩
      clear F' N'
      (repeat' (first | ((with_reducible show wpAny _ _ (eval (Expr.Name ..) _) _ _ _); (k_dflt (refine' name_any ?zqF ?zqv ?_ ?zqa ?zqb ?zqc; (case zqF => k_asm); (case zqa => exact rfl); (case zqb => exact rfl); (case zqv => first | assumption | fail "no"); (case zqc => decide); k_whole))) | (((with_reducible show wpAny _ _ (subscriptTail _ _ (Value.ref _) (Value.int 2 _)) _ _ _); k_dflt (refine' item_at (k := 2) ?zqt ?zqhk ?zqhx ?_; ((case zqt => exact isTup_of (Fr.keep (by k_asm) _ _ (by assumption))); (case zqhk => decide); (case zqhx => exact rfl); k_whole)))) | (k_unfold; (try dsimp only)) | (k_end; kc_close) | walk1 | (dsimp only; walk1) | (leave1; walk_say "STEP leave1"; (try dsimp only)) | fail "no step"))
      all_goals first | exact keeps_refl | exact ⟨p.1, strKind_is _ _ _ _, hky⟩
  · intro C v s₃ m₃ E' hv hp F3 N3 hm
    clear F' N'
    (repeat' (first | ((with_reducible show wpAny _ _ (eval (Expr.Name ..) _) _ _ _); (k_dflt (refine' name_any ?zqF ?zqv ?_ ?zqa ?zqb ?zqc; (case zqF => k_asm); (case zqa => exact rfl); (case zqb => exact rfl); (case zqv => first | assumption | fail "no"); (case zqc => decide); k_whole))) | (k_unfold; (try dsimp only)) | (k_end; kc_close) | walk1 | (dsimp only; walk1) | (leave1; walk_say "STEP leave1"; (try dsimp only)) | fail "no step"))
    all_goals first | exact keeps_refl | rfl
  · intro D h'' tk kvs hD hDs hdk hst hkeep
    obtain ⟨e1, e2⟩ := sel_filter hledg hps
    have e3 := stored_fold hst (selOf ms rs) e1 e2
    have hkeep' : ∀ b o, g'.get? b = some o → h''.get? b = some o := fun b o e => hkeep b o (F'.keep b o e)
    have hDg : g'.get? D = none := by
      cases q : g'.get? D with
      | none => rfl
      | some o => have := F'.keep _ _ q; rw [hD] at this; cases this
    rw [e3] at hdk
    exact ret (fun b o _ e => hkeep' b o (hg' ▸ e)) (hg' ▸ hDg) (Nat.le_trans (Nat.le_of_eq (by rw [hg'])) (Nat.le_trans F'.above (Nat.le_of_lt (Nat.lt_of_lt_of_le F'.ns.lt hDs)))) hdk
end Mine

/-! part L1 -/
namespace Mine
open _root_.PySem _root_.PySem.W _root_.PySem.Calls _root_.PyProof.Rows _root_.PySem.SeqAt
example : True := by w_top off; trivial

/-! two lists of texts compared -/
def AllOk (ks : List PySem.Str) : Prop := ∀ k ∈ ks, PyData.canLay0 (.str k) = true
theorem ok_names {ks : List PySem.Str} (h : ∀ k ∈ ks, k ∈ theNames) : AllOk ks := fun k hk => by
  have := h k hk
  have all : ∀ x ∈ theNames, PyData.canLay0 (.str x) = true := by decide +kernel
  exact all k this
theorem ok_params {ks : List PySem.Str} (h : ∀ k ∈ ks, k ∈ theParams) : AllOk ks := fun k hk => by
  have := h k hk
  have all : ∀ x ∈ theParams, PyData.canLay0 (.str x) = true := by decide +kernel
  exact all k this
theorem readsAll_strs {h : Heap} : ∀ {vs : List Value} {ks : List PySem.Str}, StrsAre vs ks → ReadsAll h vs (ks.map PyData.str) []
  | _, _, .nil => .nil
  | _, _, .cons k t r => by
    have := ReadsAll.cons (Reads.str (h := h) k t) (readsAll_strs (h := h) r)
    simpa using this
theorem reads_strs {h : Heap} {a : Addr} {vs : List Value} {ks : List PySem.Str} (hl : h.IsList a vs.toArray) (hi : StrsAre vs ks) : Reads h (.ref a) (.list (ks.map PyData.str)) [a] := by
  obtain ⟨o, ho, hc, n, hd⟩ := hl
  exact Reads.list ho hc hd (by simpa using readsAll_strs hi)
theorem canLayAll0_strs : ∀ {ks : List PySem.Str}, AllOk ks → PyData.canLayAll0 (ks.map PyData.str) = true
  | [], _ => by simp [PyData.canLayAll0]
  | k :: r, h => by
    have h1 := h k (.head _)
    have h2 := canLayAll0_strs (ks := r) fun x hx => h x (.tail _ hx)
    simp only [List.map_cons, PyData.canLayAll0, h1, h2, Bool.and_self]
theorem depthAll_strs : ∀ ks : List PySem.Str, PyData.depthAll (ks.map PyData.str) ≤ 1
  | [] => by simp [PyData.depthAll]
  | n :: r => by
    have := depthAll_strs r
    simp only [List.map_cons, PyData.depthAll, PyData.depth]
    omega
theorem shaped_strs {ks : List PySem.Str} (h : AllOk ks) : shaped (.list (ks.map PyData.str)) = true := by
  have h1 := depthAll_strs ks
  have h2 : PyData.depth (.list (ks.map PyData.str)) ≤ 64 := by simp only [PyData.depth]; omega
  show (PyData.canLay0 (.list (ks.map PyData.str)) && decide (PyData.depth (.list (ks.map PyData.str)) ≤ 64)) = true
  rw [Bool.and_eq_true]
  exact ⟨by simp only [PyData.canLay0]; exact canLayAll0_strs h, decide_eq_true h2⟩
theorem noMix_strs : ∀ ks ms : List PySem.Str, noMixAll (ks.map PyData.str) (ms.map PyData.str) = true
  | [], [] => by simp [noMixAll]
  | [], _ :: _ => by simp [noMixAll]
  | _ :: _, [] => by simp [noMixAll]
  | _ :: r, _ :: q => by simp [noMixAll, noMix, noMix_strs r q]
theorem same_strs : ∀ ks ms : List PySem.Str, PySem.Spec.sameAll (ks.map PyData.str) (ms.map PyData.str) = decide (ks = ms)
  | [], [] => by simp [PySem.Spec.sameAll]
  | [], _ :: _ => by simp [PySem.Spec.sameAll]
  | _ :: _, [] => by simp [PySem.Spec.sameAll]
  | n :: r, k :: q => by
    simp only [List.map_cons, PySem.Spec.sameAll, PySem.Spec.same, same_strs r q]
    by_cases h : n = k <;> simp [h]
section
variable {prog : Program} {w : World} {A : Around} {E : Value → Shared → Prop} {s : Shared}
theorem eq_strs {a b : Addr} {vs us : List Value} {ks ms : List PySem.Str} {Q : Value → Shared → Prop} (hl : s.heap.IsList a vs.toArray) (hi : StrsAre vs ks) (hl' : s.heap.IsList b us.toArray) (hi' : StrsAre us ms) (o1 : AllOk ks) (o2 : AllOk ms) (hu : A.units + 64 < cLine)
    (h : Q (.bool (decide (ks = ms))) s) : wpAny (model prog w) A (compareOp .Eq (.ref a) (.ref b)) Q E s :=
  eq_dataH_same (reads_strs hl hi) (reads_strs hl' hi') (shaped_strs o1) (shaped_strs o2) hu (by simp only [noMix]; exact noMix_strs ks ms) (by simp only [PySem.Spec.same]; rw [same_strs]; exact h)
theorem ne_strs {a b : Addr} {vs us : List Value} {ks ms : List PySem.Str} {Q : Value → Shared → Prop} (hl : s.heap.IsList a vs.toArray) (hi : StrsAre vs ks) (hl' : s.heap.IsList b us.toArray) (hi' : StrsAre us ms) (o1 : AllOk ks) (o2 : AllOk ms) (hu : A.units + 64 < cLine)
    (h : Q (.bool (!decide (ks = ms))) s) : wpAny (model prog w) A (compareOp .NotEq (.ref a) (.ref b)) Q E s :=
  ne_dataH_same (reads_strs hl hi) (reads_strs hl' hi') (shaped_strs o1) (shaped_strs o2) hu (by simp only [noMix]; exact noMix_strs ks ms) (by simp only [PySem.Spec.same]; rw [same_strs]; exact h)
end

/-! two sorted lists of the same texts -/
theorem eq_of_cps {a b : PySem.Str} (h : a.cps.toList = b.cps.toList) : a = b := by
  cases a; cases b
  simp only at h
  simp [Array.toList_inj.mp h]
theorem lt_asymm_str {a b : PySem.Str} (h1 : PySem.Spec.ltCps b.cps.toList a.cps.toList = false) (h2 : PySem.Spec.ltCps a.cps.toList b.cps.toList = false) : a = b := by
  rw [ltCps_eq] at h1 h2
  exact eq_of_cps (List.le_antisymm (of_decide_eq_false h1) (of_decide_eq_false h2))
theorem rising_le : ∀ {ks : List PySem.Str} {p : PySem.Str}, risingS p ks = true → ∀ x ∈ ks, ¬ (x.cps.toList < p.cps.toList)
  | [], _, _, _, h => nomatch h
  | y :: r, p, h, x, hx => by
    unfold risingS at h
    obtain ⟨h1, h2⟩ := Bool.and_eq_true_iff.mp h
    have h1' : ¬ (y.cps.toList < p.cps.toList) := by
      rw [ltCps_eq] at h1
      simpa using h1
    rcases List.mem_cons.mp hx with rfl | hx
    · exact h1'
    · have h3 := rising_le h2 x hx
      intro q
      exact h3 (Std.lt_of_lt_of_le q (Std.not_lt.mp h1'))
theorem sorted_pair : ∀ {ks : List PySem.Str}, sortedS ks = true → ks.Pairwise fun a b => ¬ (b.cps.toList < a.cps.toList)
  | [], _ => .nil
  | x :: r, h => .cons (fun y hy => rising_le (ks := r) h y hy) (sorted_pair (ks := r) (by
      cases r with
      | nil => rfl
      | cons y q =>
        have h' : risingS x (y :: q) = true := h
        unfold risingS at h'
        exact (Bool.and_eq_true_iff.mp h').2))
theorem sorted_same {ks ms : List PySem.Str} (p : ks.Perm ms) (h1 : sortedS ks = true) (h2 : sortedS ms = true) : ks = ms :=
  p.eq_of_pairwise (fun a b _ _ x y => eq_of_cps (List.le_antisymm (Std.not_lt.mp x) (Std.not_lt.mp y))) (sorted_pair h1) (sorted_pair h2)
theorem perm_of_sets {α : Type} [DecidableEq α] {l m : List α} (hl : l.Nodup) (hm : m.Nodup) (h : ∀ x, x ∈ l ↔ x ∈ m) : l.Perm m :=
  (List.perm_ext_iff_of_nodup hl hm).mpr h
end Mine

/-! part L2 -/
namespace Mine
open _root_.PySem _root_.PySem.W _root_.PySem.Calls _root_.PyProof.Rows _root_.PySem.SeqAt
example : True := by w_top off; trivial

section
variable {prog : Program} {w : World} {A : Around} {E : Value → Shared → Prop} {s : Shared} {h₀ : Heap} {env : Env} {m : PySem.Str → Option Value} {news : Led}
/-- a loop over a range of n, with a law of one lap -/
theorem for_rangeJ {Q : Flow → Shared → Prop} {x : PySem.Str} {body : List Stmt} {r : Addr} {n : Nat} {u1 u2 u3 : Tok} (hh : A.handled = none)
    (hr : IsRange s.heap r 0 n 1 u1 u2 u3) (hn : n ≤ 1000)
    (F : Fr h₀ env.locals s.heap m) (N : News h₀ env.locals s.heap news) (J : Nat → (PySem.Str → Option Value) → Led → Prop) (hJ : J 0 m news)
    (step : ∀ {i t m₁ news₁ h tk I it} (T : Flow → Shared → Prop), i < n → J i m₁ news₁ → (∀ p ∈ news₁, p.1 ≠ I) → Fr h₀ env.locals h (fun y => if y = x then some (.int (i : Int) t) else m₁ y) → News h₀ env.locals h ((I, it) :: news₁) →
      (∀ {h' tk' m' news'}, Fr h₀ env.locals h' m' → News h₀ env.locals h' ((I, it) :: news') → (∀ p ∈ news', p.1 ≠ I) → J (i + 1) m' news' → T .next { s with heap := h', toks := tk' }) →
      (∀ {v s'}, Q (.ret v) s' → T (.ret v) s') →
      wpAny (model prog w) A (execs body env) T E { s with heap := h, toks := tk })
    (done : ∀ {h' tk m' news'}, Fr h₀ env.locals h' m' → News h₀ env.locals h' news' → J n m' news' → Q .next { s with heap := h', toks := tk }) :
    wpAny (model prog w) A (pyIter (.ref r)) (fun it s₂ => LoopAtV prog w A h₀ env x body Q E it s₂) E s := by
  have hsz : Builtin.Range.rangeSize 0 n 1 = n := by
    unfold Builtin.Range.rangeSize
    simp
    omega
  have hsm : Builtin.Range.small 0 n 1 = true := by
    unfold Builtin.Range.small
    rw [hsz]
    unfold Builtin.Range.rangeFitsLong
    simp
    omega
  refine iter_rangeUnr hh hr hsm hsz F N fun I hI => ?_
  have key : ∀ k i m news, k + i = n → J i m news → (∀ p ∈ news, p.1 ≠ I) → RangeRest prog w A E h₀ env x body Q s I 0 n k i m news := by
    intro k
    induction k with
    | zero =>
      intro i m news hi hj _ h tk F N
      have : i = n := by omega
      subst this
      exact done F N hj
    | succ k ih =>
      intro i m news hi hj ho t h tk F N
      rw [show (0 : Int) + (i : Int) = (i : Int) by omega] at F
      exact step _ (by omega) hj ho F N (fun F' N' ho' hj' => ⟨_, _, _, _, rfl, F', N', ho', ih _ _ _ (by omega) hj' ho'⟩) (fun q => q)
  exact key n 0 m news (by omega) hJ fun p hp => Nat.ne_of_lt (hI p hp)
end

section
variable {w : World} {H h₀ : Heap} {A : Around} {s : Shared} {L : Addr} {m : PySem.Str → Option Value} {news : Led} {Q E : Value → Shared → Prop}
def RowO (o : Obj) : Prop := ∃ (rv : List Value) (rn : List Int) (n : Nat), o = listOf rv.toArray n ∧ IntsAre rv rn ∧ rn.length ≤ 126
theorem rowAt_of {ar : Addr} {o : Obj} (N : News h₀ L s.heap news) (hm : (ar, o) ∈ news) (x : RowO o) : RowAt s.heap ar := by
  obtain ⟨rv, rn, n, rfl, a, b⟩ := x
  exact ⟨rv, rn, ⟨_, (N _ hm).1, rfl, n, rfl⟩, a, b⟩
theorem row_call {asr : Addr} {vs : List Value} {ns : List Int} (RS : RowSpec w H) (R : Room A 2 40) (F : Fr h₀ L s.heap m) (N : News h₀ L s.heap news) (st : H.StaysIn h₀) (hl : s.heap.IsList asr vs.toArray) (hi : IntsAre vs ns) (hlen : ns.length ≤ 63)
    (k : ∀ h' tk' ah ar oh orr, Fr h₀ L h' m → News h₀ L h' ((ah, oh) :: (ar, orr) :: news) → HandO ar oh 0 → RowO orr → @Ne Nat ar ah → (∀ p ∈ news, p.1 ≠ ah) → (∀ p ∈ news, p.1 ≠ ar) → Q (.ref ah) { s with heap := h', toks := tk' }) :
    wpAny (model PySem.Challenge.pw_pq0447_01 w) A (call (.ref 111) [.ref asr]) Q E s := by
  refine wpAny_call (RS A s _ asr vs ns R (fun b o e => F.keep b o (st b o e)) hl hi hlen @fun h' tk' ah ar oh orr rv rn n x e0 e1 e2 hO e3 e4 hir hlr hne => ?_)
  obtain ⟨F1, N1, l1⟩ := news_fresh F N x e1 e3
  obtain ⟨F2, N2, l2⟩ := news_fresh F N x e0 e2
  refine k h' tk' ah ar oh orr F1 (fun p hp => ?_) hO ⟨rv, rn, n, e4, hir, hlr⟩ (fun q => hne q.symm) l2 l1
  rcases List.mem_cons.mp hp with rfl | hp
  · exact N2 _ (.head _)
  · exact N1 p hp
theorem news_tail {h' : Heap} {g : Led} {tl : Led} (F : Fr h₀ L s.heap m) (F' : Fr h₀ L h' m) (N : News h₀ L s.heap news) (N' : News h₀ L h' g) (led : LedAt h' tl) (new : ∀ p ∈ tl, s.heap.get? p.1 = none) :
    News h₀ L h' (g ++ tl) ∧ (∀ q ∈ news, ∀ p ∈ tl, q.1 ≠ p.1) := by
  refine ⟨fun p hp => ?_, fun q hq p hp e => by
    have h1 := (N q hq).1
    rw [e, new p hp] at h1; cases h1⟩
  rcases List.mem_append.mp hp with hp | hp
  · exact N' p hp
  · refine ⟨led p hp, fun e => ?_, ?_⟩
    · obtain ⟨oL, _, _, hL, _⟩ := F.ns
      have := new p hp
      rw [e, hL] at this; cases this
    · cases q : h₀.get? p.1 with
      | none => rfl
      | some o => have := F.keep _ _ q; rw [new p hp] at this; cases this
theorem pars_call {g : Obj → Led} {ah ar : Addr} {oh : Obj} {K : Nat} {sv : PySem.Str} {ts : Tok} (PS : ParsSpec w H) (R : Room A 4 60) (F : Fr h₀ L s.heap m) (N : News h₀ L s.heap news) (st : H.StaysIn h₀) (h0 : H.get? ah = none)
    (U : UpdF ah oh news g) (hO : HandO ar oh K) (hrow : RowAt s.heap ar) (hK : K + 5 < 1000000) (hsv : sv = PySem.Str.ofString "p" ∨ sv = PySem.Str.ofString "q")
    (k : ∀ r h' tk' oh' tl vs ps, Fr h₀ L h' m → News h₀ L h' (g oh' ++ tl) → (∀ q ∈ news, ∀ p ∈ tl, q.1 ≠ p.1) → HandO ar oh' (K + 5) → Tup tl r vs → Pairs (Par tl) vs ps → (∀ p ∈ ps, p.2 ∈ theParams) → ps.length ≤ 2 → Q r { s with heap := h', toks := tk' }) :
    wpAny (model PySem.Challenge.pw_pq0447_01 w) A (call (.ref 139) [.ref ah, .str sv ts]) Q E s := by
  obtain ⟨pre, post, e0, _, _, _⟩ := U.split
  refine wpAny_call (PS A s _ ah ar oh K sv ts R (fun b o e => F.keep b o (st b o e)) h0 (N (ah, oh) (by rw [e0]; simp)).1 hO hrow hK hsv @fun r h' tk' oh' tl vs ps x e hO' led new tup par nm len => ?_)
  obtain ⟨N', nn⟩ := news_ext1 N U x e
  have F' := fr_ext F x nn
  obtain ⟨N2, ne⟩ := news_tail F F' N N' led new
  exact k r h' tk' oh' tl vs ps F' N2 ne hO' tup par nm len

/-- two tuples of the ledger put together -/
theorem add_led {a b : Addr} {xs ys : List Value} {n1 n2 : Nat} (F : Fr h₀ L s.heap m) (N : News h₀ L s.heap news) (ha : (a, tupO xs n1) ∈ news) (hb : (b, tupO ys n2) ∈ news) (hsz : xs.length + ys.length ≤ 1000000)
    (k : ∀ h' r ex, Fr h₀ L h' m → News h₀ L h' (news ++ ex) → (∀ q ∈ news, ∀ p ∈ ex, q.1 ≠ p.1) → Tup (news ++ ex) (.ref r) (xs ++ ys) → Q (.ref r) { s with heap := h' }) :
    wpAny (model PySem.Challenge.pw_pq0447_01 w) A (binaryOp .Add (.ref a) (.ref b)) Q E s := by
  refine add_tuples F N (News.isTup N ha) (News.isTup N hb) (fun e => ?_) (fun _ e => ?_) (fun _ _ h' F' N' => ?_) (by rw [sizeLine_eq]; omega)
  · subst e
    exact k s.heap b [] F (by simpa using N) (by simp) ⟨b, n2, rfl, by simpa using hb⟩
  · subst e
    exact k s.heap a [] F (by simpa using N) (by simp) ⟨a, n1, rfl, by simpa using ha⟩
  · refine k h' _ [(s.heap.objs.size, { cls := .type "tuple", data := .seq (xs ++ ys).toArray })] F' (fun p hp => N' p ?_) (fun q hq p hp e => ?_) ⟨_, 0, rfl, by simp⟩
    · rcases List.mem_append.mp hp with hp | hp
      · exact .tail _ hp
      · rw [List.mem_singleton.mp hp]; exact .head _
    · rw [List.mem_singleton.mp hp] at e
      have h1 := Heap.lt_size (N q hq).1
      have e' : q.1 = s.heap.objs.size := e
      rw [e'] at h1; exact absurd h1 (Nat.lt_irrefl _)

theorem led_of {tl : Led} (N : News h₀ L s.heap news) (sub : ∀ p ∈ tl, p ∈ news) : LedAt s.heap tl := fun p hp => (N p (sub p hp)).1
theorem ord_call {tl : Led} {v hv bv : Value} {nm : PySem.Str} {hvs bvs : List Value} {hps : List (Bool × PySem.Str)} {ls : List (List PySem.Str)} (OS : OrdSpec w H) (R : Room A 4 60) (F : Fr h₀ L s.heap m) (N : News h₀ L s.heap news) (st : H.StaysIn h₀) (hled : LedAt s.heap tl)
    (hm : Mod tl v nm hv bv) (hh : Tup tl hv hvs) (hb : Tup tl bv bvs) (hp : Pairs (Par tl) hvs hps) (he : Pairs (Ent tl) (hvs ++ bvs) ls) (hl : hvs.length + bvs.length ≤ 1000)
    (k : ∀ h' tk' r vs n, Fr h₀ L h' m → News h₀ L h' ((r, listOf (List.toArray vs) n) :: news) → (∀ p ∈ news, p.1 ≠ r) → StrsAre vs (if front hps = [] then ls.flatten else front hps) → Q (.ref r) { s with heap := h', toks := tk' }) :
    wpAny (model PySem.Challenge.pw_pq0447_01 w) A (call (.ref 97) [v]) Q E s := by
  refine wpAny_call (OS A s _ tl v hv bv nm hvs bvs hps ls R (fun b o e => F.keep b o (st b o e)) hled hm hh hb hp he hl @fun h' tk' r vs n x e0 e hs => ?_)
  obtain ⟨F', N', l⟩ := news_fresh F N x e0 e
  exact k h' tk' r vs n F' N' l hs

/-- a module of the ledger, and what it says -/
structure ModL (tl : Led) (v hv bv : Value) (nm : PySem.Str) (hvs bvs : List Value) (ls : List (List PySem.Str)) : Prop where
  mod : Mod tl v nm hv bv
  th : Tup tl hv hvs
  tb : Tup tl bv bvs
  ents : Pairs (Ent tl) (hvs ++ bvs) ls
  len : hvs.length + bvs.length ≤ 1000
abbrev noneRec : List Value → Prop := fun _ => True
theorem ModL.ask {tl : Led} {v hv bv : Value} {nm : PySem.Str} {hvs bvs : List Value} {ls : List (List PySem.Str)} (x : ModL tl v hv bv nm hvs bvs ls) {d : Addr} {od : Obj} {kvs : List (PySem.Str × Value)} (N : News h₀ L s.heap news) (sub : ∀ p ∈ tl, p ∈ news) (hd : (d, od) ∈ news)
    (hk : od.IsDictOf (PySem.strKind PySem.Challenge.pw_pq0447_01 w) kvs) (lo : (d == sysModules) = false) : Asked w s.heap tl v hv bv nm hvs bvs ls d kvs :=
  ⟨led_of N sub, x.mod, x.th, x.tb, x.ents, x.len, Heap.dictOf_iff.mpr ⟨od, (N _ hd).1, hk⟩, lo⟩
abbrev okT (k1 k2 k3 k4 : Tok) : List Value := [.str (PySem.Str.ofString "") k1, .int 0 k2, .str (PySem.Str.ofString "") k3, .str (PySem.Str.ofString "") k4]
abbrev badT (k1 k2 k3 k4 : Tok) : List Value := [.str (PySem.Str.ofString "unknown_parameter") k1, .int 11 k2, .str (PySem.Str.ofString "zz") k3, .str (PySem.Str.ofString "4:5: unknown_parameter (zz)") k4]
theorem refused_ok_call {tl : Led} {v hv bv : Value} {nm : PySem.Str} {hvs bvs : List Value} {ls : List (List PySem.Str)} {d : Addr} {od : Obj} {kvs : List (PySem.Str × Value)} (RO : RefusedOk w H) (R : Room A 6 80) (F : Fr h₀ L s.heap m) (N : News h₀ L s.heap news) (st : H.StaysIn h₀)
    (x : ModL tl v hv bv nm hvs bvs ls) (sub : ∀ p ∈ tl, p ∈ news) (hd : (d, od) ∈ news) (hk : od.IsDictOf (PySem.strKind PySem.Challenge.pw_pq0447_01 w) kvs) (lo : (d == sysModules) = false) (hall : ∀ k ∈ kvs.map (·.1), k ∈ ls.flatten)
    (k : ∀ h' tk' r n k1 k2 k3 k4, Fr h₀ L h' m → News h₀ L h' ((r, tupO (okT k1 k2 k3 k4) n) :: news) → (∀ p ∈ news, p.1 ≠ r) → Q (.ref r) { s with heap := h', toks := tk' }) :
    wpAny (model PySem.Challenge.pw_pq0447_01 w) A (call (.ref 146) [v, .ref d]) Q E s := by
  refine wpAny_call (RO A s _ tl v hv bv nm hvs bvs ls d kvs R (fun b o e => F.keep b o (st b o e)) (x.ask N sub hd hk lo) hall @fun h' tk' r n k1 k2 k3 k4 x e0 e => ?_)
  obtain ⟨F', N', l⟩ := news_fresh F N x e0 e
  exact k h' tk' r n k1 k2 k3 k4 F' N' l
theorem refused_bad_call {env : Env} {tl : Led} {v hv bv : Value} {nm : PySem.Str} {hvs bvs : List Value} {ls : List (List PySem.Str)} {d : Addr} {od : Obj} {kvs : List (PySem.Str × Value)} (RB : RefusedBad w H) (R : Room A 9 90) (hfr : A.frames = some [env]) (hkd : env.scope.kind ≠ .module) (hf : env.frame = some env.locals)
    (F : Fr h₀ env.locals s.heap m) (N : News h₀ env.locals s.heap news) (st : H.StaysIn h₀)
    (x : ModL tl v hv bv nm hvs bvs ls) (sub : ∀ p ∈ tl, p ∈ news) (hd : (d, od) ∈ news) (hk : od.IsDictOf (PySem.strKind PySem.Challenge.pw_pq0447_01 w) kvs) (lo : (d == sysModules) = false) (hks : kvs.map (·.1) = [PySem.Str.ofString "zz"]) (hzz : PySem.Str.ofString "zz" ∉ ls.flatten)
    (k : ∀ h' tk' r n k1 k2 k3 k4, Fr h₀ env.locals h' m → News h₀ env.locals h' ((r, tupO (badT k1 k2 k3 k4) n) :: news) → (∀ p ∈ news, p.1 ≠ r) → Q (.ref r) { s with heap := h', toks := tk' }) :
    wpAny (model PySem.Challenge.pw_pq0447_01 w) A (call (.ref 146) [v, .ref d]) Q E s := by
  have hnL : ∀ {b o}, h₀.get? b = some o → b ∉ [env.locals] := fun {b o} e q => fr_ne F e (List.mem_singleton.mp q)
  have below : Below A (hideAll s.heap [env.locals]) [env] s.heap := ⟨hfr, fun b o e => of_hideAll _ e, .cons hkd hf F.ns (hideAll_none _ (by simp)) trivial⟩
  obtain ⟨oL, es, ep, hL, hLd, hLr⟩ := F.ns
  refine wpAny_call (RB A s _ tl v hv bv nm hvs bvs ls d kvs (hideAll s.heap [env.locals]) [env] R (fun b o e => hideAll_get _ (F.keep b o (st b o e)) (hnL (st b o e))) below (Nat.le_of_eq (hideAll_size _ _)) (x.ask N sub hd hk lo) hks hzz @fun h' tk' r n k1 k2 k3 k4 y hout e0 e => ?_)
  obtain ⟨sl, hL'⟩ := hout env.locals (by simp [hf]) oL hL
  have F' : Fr h₀ env.locals h' m := ⟨⟨_, es, ep, hL', hLd, hLr⟩, fun b o e => y b o (hideAll_get _ (F.keep b o e) (hnL e)), F.above⟩
  have hrL : r ≠ env.locals := fun q => by
    rw [q, hL'] at e
    have := (Obj.mk.inj (Option.some.inj e)).2.2.1
    rw [hLd] at this; cases this
  have er : s.heap.get? r = none := by
    cases q : s.heap.get? r with
    | none => rfl
    | some o => have := hideAll_get [env.locals] q (by simpa using hrL); rw [e0] at this; cases this
  refine k h' tk' r n k1 k2 k3 k4 F' (fun p hp => ?_) (fun p hp q => ?_)
  · rcases List.mem_cons.mp hp with rfl | hp
    · refine ⟨e, hrL, ?_⟩
      cases q : h₀.get? r with
      | none => rfl
      | some o => have := F.keep _ _ q; rw [er] at this; cases this
    · have P := N p hp
      exact ⟨y _ _ (hideAll_get _ P.1 (by simpa using P.2.1)), P.2⟩
  · have := (N p hp).1; rw [q, er] at this; cases this
theorem tops_call {al : Addr} {tl : Led} {ms : List Value} {rs : List Rec} (TS : TopsSpec w H) (R : Room A 10 120) (F : Fr h₀ L s.heap m) (N : News h₀ L s.heap news) (st : H.StaysIn h₀) (hled : LedAt s.heap tl) (hal : SeqAt s.heap al ms) (hp : Pairs (Elt tl) ms rs) (hl : ms.length ≤ 10)
    (k : ∀ h' tk' r vs n, Fr h₀ L h' m → News h₀ L h' ((r, listOf (List.toArray vs) n) :: news) → (∀ p ∈ news, p.1 ≠ r) → StrsAre vs (topsOf (allUsed rs) rs) → Q (.ref r) { s with heap := h', toks := tk' }) :
    wpAny (model PySem.Challenge.pw_pq0447_01 w) A (call (.ref 85) [.ref al]) Q E s := by
  refine wpAny_call (TS A s _ al tl ms rs R (fun b o e => F.keep b o (st b o e)) hled hal hp hl @fun h' tk' r vs n x e0 e hs => ?_)
  obtain ⟨F', N', l⟩ := news_fresh F N x e0 e
  exact k h' tk' r vs n F' N' l hs
theorem mods_call (big : h₀.NoLimit) {al : Addr} {tl : Led} {ms : List Value} {rs : List Rec} (MS : ModsSpec w H) (R : Room A 4 60) (F : Fr h₀ L s.heap m) (N : News h₀ L s.heap news) (st : H.StaysIn h₀) (hled : LedAt s.heap tl) (hal : SeqAt s.heap al ms) (hp : Pairs (Elt tl) ms rs) (hl : ms.length ≤ 10)
    (k : ∀ h' tk' D o, Fr h₀ L h' m → News h₀ L h' ((D, o) :: news) → (∀ p ∈ news, p.1 ≠ D) → (D == sysModules) = false → o.IsDictOf (PySem.strKind PySem.Challenge.pw_pq0447_01 w) (dueOf ms rs) → Q (.ref D) { s with heap := h', toks := tk' }) :
    wpAny (model PySem.Challenge.pw_pq0447_01 w) A (call (.ref 66) [.ref al]) Q E s := by
  refine wpAny_call (MS A s _ al tl ms rs R (fun b o e => F.keep b o (st b o e)) hled hal hp hl @fun h' tk' D x e0 es e => ?_)
  obtain ⟨o, ho, hd⟩ := Heap.dictOf_iff.mp e
  obtain ⟨F', N', l⟩ := news_fresh F N x e0 ho
  exact k h' tk' D o F' N' l (beq_eq_false_iff_ne.mpr (Nat.ne_of_gt (Nat.lt_of_lt_of_le (Nat.lt_of_lt_of_le (modules_low big) (Nat.le_trans F.above (Nat.le_of_lt F.ns.lt))) es))) hd

/-- `sorted(a) != sorted(b)` of two lists of the same names -/
theorem ne_sorted {a b : Addr} {vs us : List Value} {ks ms : List PySem.Str} {n1 n2 : Nat} (N : News h₀ L s.heap news) (ha : (a, seqObj "list" vs.toArray n1) ∈ news) (hb : (b, seqObj "list" us.toArray n2) ∈ news) (i1 : StrsAre vs ks) (i2 : StrsAre us ms)
    (e : ks = ms) (ok : AllOk ks) (hu : A.units + 64 < cLine) (q : Q (.bool false) s) : wpAny (model PySem.Challenge.pw_pq0447_01 w) A (compareOp .NotEq (.ref a) (.ref b)) Q E s := by
  subst e
  refine ne_strs ⟨_, (N _ ha).1, rfl, _, rfl⟩ i1 ⟨_, (N _ hb).1, rfl, _, rfl⟩ i2 ok ok hu ?_
  rw [decide_eq_true rfl]; exact q
theorem sorted_call {D : Addr} {vs : List Value} {ss : List PySem.Str} {n : Nat} (F : Fr h₀ L s.heap m) (N : News h₀ L s.heap news) (hm : (D, listOf vs.toArray n) ∈ news) (hS : StrsAre vs ss) (h64 : ss.length < 64)
    (k : ∀ (h' : Heap) (r : Addr) (vs' : List Value) (ss' : List PySem.Str) (e : Nat), Fr h₀ L h' m → News h₀ L h' ((r, listOf vs'.toArray e) :: news) → (∀ p ∈ news, p.1 ≠ r) → StrsAre vs' ss' → ss'.Perm ss → sortedS ss' = true → Q (.ref r) { s with heap := h' }) :
    wpAny (model PySem.Challenge.pw_pq0447_01 w) A (call (.builtin "sorted") [.ref D]) Q E s :=
  sorted_N_str F N (News.isList N hm) hS (by rw [hS.length]; exact h64) fun h' vs' ss' e F' N' a b c => k h' _ vs' ss' e F' N' (fun p hp => Nat.ne_of_lt (Nat.lt_succ_of_lt (Heap.lt_size (N p hp).1))) a b c
/-- `a != b` of two lists of the same texts -/
theorem ne_same {a b : Addr} {vs us : List Value} {ks ms : List PySem.Str} {n1 n2 : Nat} (N : News h₀ L s.heap news) (ha : (a, listOf vs.toArray n1) ∈ news) (hb : (b, listOf us.toArray n2) ∈ news) (i1 : StrsAre vs ks) (i2 : StrsAre us ms)
    (e : ks = ms) (ok : AllOk ks) (hu : A.units + 64 < cLine) (q : Q (.bool false) s) : wpAny (model PySem.Challenge.pw_pq0447_01 w) A (compareOp .NotEq (.ref a) (.ref b)) Q E s := by
  subst e
  refine ne_strs (News.isList N ha) i1 (News.isList N hb) i2 ok ok hu ?_
  rw [decide_eq_true rfl]; exact q
theorem eq_two {a b : Addr} {vs us : List Value} {ks ms : List PySem.Str} {n1 n2 : Nat} (N : News h₀ L s.heap news) (ha : (a, listOf vs.toArray n1) ∈ news) (hb : (b, listOf us.toArray n2) ∈ news) (i1 : StrsAre vs ks) (i2 : StrsAre us ms)
    (ok : AllOk ks) (ok2 : AllOk ms) (hu : A.units + 64 < cLine) (q : Q (.bool (decide (ks = ms))) s) : wpAny (model PySem.Challenge.pw_pq0447_01 w) A (compareOp .Eq (.ref a) (.ref b)) Q E s :=
  eq_strs (News.isList N ha) i1 (News.isList N hb) i2 ok ok2 hu q
/-- two tuples of the same four places -/
theorem ne_tup4 {a b : Addr} {n1 n2 : Nat} {x1 x3 x4 : PySem.Str} {x2 : Int} {k1 k2 k3 k4 l1 l2 l3 l4 : Tok} (N : News h₀ L s.heap news) (ha : (a, tupO [.str x1 k1, .int x2 k2, .str x3 k3, .str x4 k4] n1) ∈ news) (hb : (b, tupO [.str x1 l1, .int x2 l2, .str x3 l3, .str x4 l4] n2) ∈ news)
    (ok : shaped (.tuple [.str x1, .int x2, .str x3, .str x4]) = true) (hu : A.units + 64 < cLine) (q : Q (.bool false) s) : wpAny (model PySem.Challenge.pw_pq0447_01 w) A (compareOp .NotEq (.ref a) (.ref b)) Q E s := by
  have rd : ∀ {c n k1 k2 k3 k4}, (c, tupO [.str x1 k1, .int x2 k2, .str x3 k3, .str x4 k4] n) ∈ news → Reads s.heap (.ref c) (.tuple [.str x1, .int x2, .str x3, .str x4]) [] := fun {c n k1 k2 k3 k4} hm =>
    Reads.tuple (N _ hm).1 rfl rfl (by
      have := ReadsAll.cons (Reads.str (h := s.heap) x1 k1) (ReadsAll.cons (Reads.int x2 k2) (ReadsAll.cons (Reads.str x3 k3) (ReadsAll.cons (Reads.str x4 k4) .nil)))
      simpa using this)
  refine ne_dataH_same (rd ha) (rd hb) ok ok hu (by simp [noMix, noMixAll]) ?_
  have : PySem.Spec.same (.tuple [.str x1, .int x2, .str x3, .str x4]) (.tuple [.str x1, .int x2, .str x3, .str x4]) = true := by simp [PySem.Spec.same, PySem.Spec.sameAll]
  rw [this]; exact q
/-- two dicts of the same values -/
theorem hits_same {prog : Program} {w : World} {A : Around} {s : Shared} {kb : List (PySem.Str × Value)} (nd : (kb.map (·.1)).Nodup) : ∀ {ka : List (PySem.Str × Value)}, (∀ kv ∈ ka, kv ∈ kb) → KeqHits A s kb ka true
  | [], _ => .nil
  | (k, v) :: r, h => by
    have hv : valueAt kb k = some v := by
      have hm := h _ (.head _)
      clear h
      induction kb with
      | nil => cases hm
      | cons q t ih =>
        unfold valueAt at *
        rw [List.find?_cons]
        by_cases e : q.1 = k
        · rw [decide_eq_true e]
          rcases List.mem_cons.mp hm with rfl | hm
          · rfl
          · have := (List.nodup_cons.mp nd).1
            exact absurd (List.mem_map.mpr ⟨_, hm, e.symm⟩) this
        · rw [decide_eq_false e]
          rcases List.mem_cons.mp hm with rfl | hm
          · exact absurd rfl e
          · exact ih (List.nodup_cons.mp nd).2 hm
    have := KeqHits.hit (A := A) (s := s) hv (SeqAt.EqAt.same v) (hits_same (prog := prog) (w := w) nd fun kv hkv => h kv (.tail _ hkv))
    simpa using this
theorem eq_dicts {a b : Addr} {oa ob : Obj} {kvs : List (PySem.Str × Value)} (N : News h₀ L s.heap news) (pa : (a, oa) ∈ news) (pb : (b, ob) ∈ news) (da : oa.IsDictOf (PySem.strKind PySem.Challenge.pw_pq0447_01 w) kvs) (db : ob.IsDictOf (PySem.strKind PySem.Challenge.pw_pq0447_01 w) kvs)
    (la : (a == sysModules) = false) (lb : (b == sysModules) = false) (hu : A.units < cLine) (q : Q (.bool true) s) : wpAny (model PySem.Challenge.pw_pq0447_01 w) A (compareOp .Eq (.ref a) (.ref b)) Q E s := by
  obtain ⟨_, _, _, _, _, _, nd⟩ := id da
  exact keq_pairs N pa pb da db la lb rfl hu (hits_same (prog := PySem.Challenge.pw_pq0447_01) (w := w) nd fun _ h => h) q
end
end Mine

/-! part L3 -/
namespace Mine
open _root_.PySem _root_.PySem.W _root_.PySem.Calls _root_.PyProof.Rows _root_.PySem.SeqAt
example : True := by w_top off; trivial
/-- a place where the walk stops -/
def Halt (P : Prop) : Prop := P
theorem halt {P : Prop} (h : Halt P) : P := h
structure LcHalt : Prop where
/-- two places that are not one -/
def Off (a b : Nat) : Prop := a ≠ b
theorem Off.intro {a b : Nat} (x : @Ne Nat a b) : Off a b := x
theorem Off.ne {a b : Nat} (x : Off a b) : a ≠ b := x
theorem Off.ne' {a b : Nat} (x : Off a b) : b ≠ a := fun e => x e.symm
theorem off_all {a d : Addr} {o : Obj} {r : Led} (l : ∀ p ∈ (a, o) :: r, p.1 ≠ d) : Off a d ∧ ∀ p ∈ r, p.1 ≠ d := ⟨l _ (.head _), fun p hp => l p (.tail _ hp)⟩
theorem off_all2 {a : Addr} {o : Obj} {r tl : Led} (l : ∀ q ∈ (a, o) :: r, ∀ p ∈ tl, q.1 ≠ p.1) : (∀ p ∈ tl, p.1 ≠ a) ∧ ∀ q ∈ r, ∀ p ∈ tl, q.1 ≠ p.1 := ⟨fun p hp e => l _ (.head _) p hp e.symm, fun q hq => l q (.tail _ hq)⟩
theorem isList_keeps {h h' : Heap} {a : Addr} {vs : Array Value} (x : h.IsList a vs) (k : ∀ b o, h.get? b = some o → h'.get? b = some o) : h'.IsList a vs := let ⟨o, e, r⟩ := x; ⟨o, k _ _ e, r⟩
theorem News.fresh {h₀ h : Heap} {L a : Addr} {o : Obj} {news : Led} (N : News h₀ L h news) (hm : (a, o) ∈ news) : h₀.get? a = none := (N _ hm).2.2
theorem usedO_mt {n : Nat} : UsedO (listOf #[] n) [] := ⟨[], n, rfl, .nil, .nil⟩

section
variable {M : Model} {A : Around} {E : Value → Shared → Prop} {s : Shared} {name : PySem.Str} {scope : Scope} {L a : Addr} {cd : Value} {h₀ : Heap} {m : PySem.Str → Option Value} {news : Led}
theorem cell_store {x : PySem.Str} {c : Addr} {o : Obj} {v₀ : Option Value} {v : Value} {g : Obj → Led} {Q : Unit → Shared → Prop} (F : Fr h₀ L s.heap m) (N : News h₀ L s.heap news)
    (hc : (cellsFrom (L + 1) scope.names []).lookup x = some c) (U : UpdF c o news g) (hd : o.data = .cell v₀)
    (h : ∀ h' o', Fr h₀ L h' m → News h₀ L h' (g o') → o'.data = .cell (some v) → Q () { s with heap := h' })
    (hk : scope.kind = .function) (hl : (envOfC name scope L a cd).kindOf x = some .cell) :
    wpAny M A (storeName (envOfC name scope L a cd) x v) Q E s := by
  obtain ⟨pre, post, rfl, hg, a, b⟩ := U.split
  refine stCN F N hc hd a b (fun h' o' F' N' hd' => h h' o' F' (hg o' ▸ N') hd') hk hl
theorem cell_load {x : PySem.Str} {c : Addr} {o : Obj} {v : Value} {Q : Value → Shared → Prop} (N : News h₀ L s.heap news)
    (hc : (cellsFrom (L + 1) scope.names []).lookup x = some c) (hm : (c, o) ∈ news) (hd : o.data = .cell (some v)) (h : Q v s)
    (hk : scope.kind = .function) (hl : (envOfC name scope L a cd).kindOf x = some .cell) :
    wpAny M A (loadName (envOfC name scope L a cd) x) Q E s := wpAny_loadName_cell hk hl hc ⟨o, N.get hm, hd⟩ h
theorem cell_eval {x : PySem.Str} {pos : Pos} {c : Addr} {o : Obj} {v : Value} {Q : Value → Shared → Prop} (hl : (envOfC name scope L a cd).kindOf x = some .cell) (N : News h₀ L s.heap news) (hc : (cellsFrom (L + 1) scope.names []).lookup x = some c) (hm : (c, o) ∈ news) (hd : o.data = .cell (some v))
    (hk : scope.kind = .function) (hdb : (x == ("__debug__" : PySem.Str)) = false) (h : Q v s) :
    wpAny M A (eval (.Name x pos) (envOfC name scope L a cd)) Q E s := ldCN N hc hm hd h hk hl hdb
end
section
variable {w : World} {H h₀ : Heap} {A : Around} {s : Shared} {L : Addr} {m : PySem.Str → Option Value} {news : Led} {g : Obj → Led} {ah au ar : Addr} {oh ou : Obj} {K : Nat} {us : List PySem.Str} {Q E : Value → Shared → Prop}
theorem pars_callR {sv : PySem.Str} {ts : Tok} (PS : ParsSpec w H) (R : Room A 4 60) (F : Fr h₀ L s.heap m) (N : News h₀ L s.heap news) (st : H.StaysIn h₀) (h0 : H.get? ah = none)
    (U : UpdF ah oh news g) (hO : HandO ar oh K) (hrow : RowAt s.heap ar) (hK : K + 5 < 1000000) (hsv : sv = PySem.Str.ofString "p" ∨ sv = PySem.Str.ofString "q")
    (k : ∀ a n h' tk' oh' tl vs ps, Fr h₀ L h' m → News h₀ L h' (g oh' ++ tl) → (∀ q ∈ news, ∀ p ∈ tl, q.1 ≠ p.1) → HandO ar oh' (K + 5) → (a, tupO vs n) ∈ tl → Pairs (Par tl) vs ps → (∀ p ∈ ps, p.2 ∈ theParams) → ps.length ≤ 2 → Q (.ref a) { s with heap := h', toks := tk' }) :
    wpAny (model PySem.Challenge.pw_pq0447_01 w) A (call (.ref 139) [.ref ah, .str sv ts]) Q E s :=
  pars_call PS R F N st h0 U hO hrow hK hsv fun _ h' tk' oh' tl vs ps F' N' ne hO' tup par nm len => by
    obtain ⟨a, n, rfl, hm⟩ := tup
    exact k a n h' tk' oh' tl vs ps F' N' ne hO' hm par nm len
theorem items_callR {g2 : Obj → Obj → Led} {td : Tok} (IS : ItemsSpec w H 3) (R : Room A 11 81) (F : Fr h₀ L s.heap m) (N : News h₀ L s.heap news) (st : H.StaysIn h₀) (h0 : H.get? ah = none) (h0u : H.get? au = none)
    (U : UpdF ah oh news g) (U2 : ∀ o, UpdF au ou (g o) (g2 o)) (hO : HandO ar oh K) (hU : UsedO ou []) (hrow : RowAt s.heap ar) (hru : ar ≠ au) (hK : K + 89 < 1000000)
    (k : ∀ a n h' tk' oh' ou' us' tl vs ps, Fr h₀ L h' m → News h₀ L h' (g2 oh' ou' ++ tl) → (∀ q ∈ news, ∀ p ∈ tl, q.1 ≠ p.1) → HandO ar oh' (K + 89) → UsedO ou' us' → (∀ x, x ∈ us' ↔ x ∈ ps.flatMap (·.1)) → (∀ x ∈ us', x ∈ theNames) →
      (a, tupO vs n) ∈ tl → Pairs (Item tl 4) vs ps → (ps.map (·.2)).sum ≤ 88 → Q (.ref a) { s with heap := h', toks := tk' }) :
    wpAny (model PySem.Challenge.pw_pq0447_01 w) A (call (.ref 125) [.ref ah, .int 0 td, .ref au]) Q E s :=
  items_call IS R F N st h0 h0u U U2 hO hU (fun _ h => nomatch h) hrow hru (by show K + 89 < 1000000; exact hK) rfl (Nat.le_refl _) fun _ h' tk' oh' ou' us' tl vs ps F' N' ne hO' hU' hn hk tup it hs => by
    obtain ⟨a, n, rfl, hm⟩ := tup
    exact k a n h' tk' oh' ou' us' tl vs ps F' N' ne hO' hU' (fun x => by rw [hn]; simp) hk hm it hs
theorem add_ledR {a b : Addr} {xs ys : List Value} {n1 n2 : Nat} (F : Fr h₀ L s.heap m) (N : News h₀ L s.heap news) (ha : (a, tupO xs n1) ∈ news) (hb : (b, tupO ys n2) ∈ news) (hsz : xs.length + ys.length ≤ 1000000)
    (k : ∀ h' r n ex, Fr h₀ L h' m → News h₀ L h' (news ++ ex) → (∀ q ∈ news, ∀ p ∈ ex, q.1 ≠ p.1) → (r, tupO (xs ++ ys) n) ∈ (a, tupO xs n1) :: (b, tupO ys n2) :: ex → Q (.ref r) { s with heap := h' }) :
    wpAny (model PySem.Challenge.pw_pq0447_01 w) A (binaryOp .Add (.ref a) (.ref b)) Q E s := by
  refine add_tuples F N (News.isTup N ha) (News.isTup N hb) (fun e => ?_) (fun _ e => ?_) (fun _ _ h' F' N' => ?_) (by rw [sizeLine_eq]; omega)
  · subst e
    exact k s.heap b n2 [] F (by simpa using N) (by simp) (by simp)
  · subst e
    exact k s.heap a n1 [] F (by simpa using N) (by simp) (by simp)
  · refine k h' _ 0 [(s.heap.objs.size, { cls := .type "tuple", data := .seq (xs ++ ys).toArray })] F' (fun p hp => N' p ?_) (fun q hq p hp e => ?_) (by simp)
    · rcases List.mem_append.mp hp with hp | hp
      · exact .tail _ hp
      · rw [List.mem_singleton.mp hp]; exact .head _
    · rw [List.mem_singleton.mp hp] at e
      have h1 := Heap.lt_size (N q hq).1
      have e' : q.1 = s.heap.objs.size := e
      rw [e'] at h1; exact absurd h1 (Nat.lt_irrefl _)
end
def OffL (tl : Led) (as : List Addr) : Prop := ∀ a ∈ as, ∀ p ∈ tl, p.1 ≠ a
def RecsOk (rs : List Rec) : Prop := ∀ p, some p ∈ rs → p.1 ∈ theNames
def LapInv (w : World) (ah ar ml ev du cc : Addr) (orr oc : Obj) (i : Nat) (m : PySem.Str → Option Value) (news : Led) : Prop :=
  m (PySem.Str.ofString "hand") = some (.ref ah) ∧ m (PySem.Str.ofString "modules") = some (.ref ml) ∧ m (PySem.Str.ofString "due") = some (.ref du) ∧
  ∃ oh ms n evo duo tl rs, news = (ml, listOf (List.toArray ms) n) :: (ah, oh) :: (ev, evo) :: (du, duo) :: (ar, orr) :: (cc, oc) :: tl ∧ HandO ar oh (1 + 102 * i) ∧ UsedD w evo (allUsed rs) ∧
    duo.IsDictOf (PySem.strKind PySem.Challenge.pw_pq0447_01 w) (dueOf ms rs) ∧ (∀ k ∈ (dueOf ms rs).map (·.1), k ∈ theNames) ∧ Pairs (Elt tl) ms rs ∧ ms.length ≤ 2 * i ∧ RecsOk rs ∧ OffL tl [ml, ah, ev, du, ar, cc]
section
variable {prog : Program} {w : World} {A : Around} {E : Value → Shared → Prop} {s : Shared} {h₀ : Heap} {L : Addr} {m : PySem.Str → Option Value} {news : Led}
theorem new_list {Q : Value → Shared → Prop} (F : Fr h₀ L s.heap m) (N : News h₀ L s.heap news)
    (h : ∀ l h' n, Fr h₀ L h' m → News h₀ L h' ((l, listOf (List.toArray []) n) :: news) → (∀ p ∈ news, p.1 ≠ l) → Q (.ref l) { s with heap := h' }) : wpAny (model prog w) A (newList []) Q E s :=
  newList_K F N fun l h' F' N' l1 => h l h' 0 F' N' fun p hp => Nat.ne_of_lt (l1 p hp)
theorem new_dict {env : Env} {pos : Pos} {Q : Value → Shared → Prop} (F : Fr h₀ L s.heap m) (N : News h₀ L s.heap news) (hbig : h₀.NoLimit)
    (k : ∀ d h' o, Fr h₀ L h' m → News h₀ L h' ((d, o) :: news) → (∀ p ∈ news, p.1 ≠ d) → (d == sysModules) = false → o.IsDictOf (PySem.strKind prog w) [] → Q (.ref d) { s with heap := h' }) : wpAny (model prog w) A (eval (.Dict [] [] pos) env) Q E s :=
  newDict_K F N hbig fun d h' o F' N' l lo a _ _ _ => k d h' o F' N' (fun p hp => Nat.ne_of_lt (l p hp)) lo a
theorem range_p {r : Int} {t : Tok} {Q : Value → Shared → Prop} (h0 : 0 ≤ r) (h6 : r < 6) (F : Fr h₀ L s.heap m) (N : News h₀ L s.heap news)
    (h : ∀ (n : Nat) h' tk ad u1 u2 u3, n ≤ 5 → Fr h₀ L h' m → News h₀ L h' news → IsRange h' ad 0 (n : Int) 1 u1 u2 u3 → Q (.ref ad) { s with heap := h', toks := tk }) :
    wpAny (model prog w) A (call (.type "range") [.int r t]) Q E s := by
  obtain ⟨n, rfl⟩ := Int.eq_ofNat_of_zero_le h0
  exact call_range_1 (h n _ _ _ _ _ _ (by omega) (F.push _) (N.grown fun _ _ e => Heap.get?_push_of_some _ e) (IsRange.new _ _ _ _ _ _ _))
end
theorem reord {h₀ h : Heap} {L : Addr} {a b c d e f : Addr × Obj} (N : News h₀ L h [a, b, c, d, e, f]) : News h₀ L h [c, d, b, a, e, f] := fun p hp => N p (by
  simp only [List.mem_cons, List.not_mem_nil, or_false] at hp ⊢
  rcases hp with h | h | h | h | h | h <;> simp [h])
theorem item_size {tl : Led} {d : Nat} {v : Value} {p : List PySem.Str × Nat} (h : Item tl d v p) : 1 ≤ p.2 := by
  cases d with
  | zero => exact h.elim
  | succ d =>
    obtain ⟨xs, own, cs, ps, _, _, _, _, e⟩ := h
    omega
theorem item_len {tl : Led} {d K : Nat} : ∀ {vs : List Value} {ps : List (List PySem.Str × Nat)}, Pairs (Item tl d) vs ps → (ps.map (·.2)).sum ≤ K → vs.length ≤ K
  | _, _, .nil, _ => Nat.zero_le _
  | v :: vs, p :: ps, .cons a r, h => by
    have h1 := item_size a
    simp only [List.map_cons, List.sum_cons] at h
    have := item_len (K := K - p.2) r (by omega)
    simp only [List.length_cons]
    omega

/-! the module of one lap, in plain words -/
theorem ent_item {tl : Led} {d : Nat} {v : Value} {p : List PySem.Str × Nat} (h : Item tl d v p) : Ent tl v [] := by
  cases d with
  | zero => exact h.elim
  | succ d =>
    obtain ⟨xs, own, cs, ps, t, sh, _⟩ := h
    cases sh <;> exact .inl ⟨_, _, _, t, Nat.le_of_ble_eq_true rfl, by decide, rfl⟩
def parL (q : Bool × PySem.Str) : List PySem.Str := if q.1 then [q.2] else []
theorem par_flat : ∀ ps : List (Bool × PySem.Str), (ps.map parL).flatten = front ps
  | [] => rfl
  | (b, x) :: ps => by
    have ih := par_flat ps
    unfold front at ih ⊢
    cases b
    · simpa [parL] using ih
    · simpa [parL] using ih
theorem ents_par {tl : Led} : ∀ {vs : List Value} {ps : List (Bool × PySem.Str)}, Pairs (Par tl) vs ps → Pairs (Ent tl) vs (ps.map parL)
  | _, _, .nil => .nil
  | _, _, .cons a r => .cons (.inr ⟨_, a, rfl⟩) (ents_par r)
theorem ents_item {tl : Led} {d : Nat} : ∀ {vs : List Value} {ps : List (List PySem.Str × Nat)}, Pairs (Item tl d) vs ps → Pairs (Ent tl) vs (ps.map fun _ => [])
  | _, _, .nil => .nil
  | _, _, .cons a r => .cons (ent_item a) (ents_item r)
theorem nils_flat : ∀ ps : List (List PySem.Str × Nat), (ps.map fun _ => ([] : List PySem.Str)).flatten = []
  | [] => rfl
  | _ :: ps => nils_flat ps
theorem itemP_par {tl : Led} : ∀ {vs : List Value} {ps : List (Bool × PySem.Str)}, Pairs (Par tl) vs ps → Pairs (ItemP tl) vs (ps.map fun _ => ([], 1))
  | _, _, .nil => .nil
  | _, _, .cons ⟨t, t', t'', u, a⟩ r => .cons (.inr ⟨t, t', t'', u, _, _, a, rfl⟩) (itemP_par r)
theorem itemP_item {tl : Led} {d : Nat} {vs : List Value} {ps : List (List PySem.Str × Nat)} (h : Pairs (Item tl d) vs ps) : Pairs (ItemP tl) vs ps := h.mono fun _ _ x => .inl ⟨d, x⟩
theorem ones_sum : ∀ ps : List (Bool × PySem.Str), ((ps.map fun _ => (([] : List PySem.Str), 1)).map (·.2)).sum = ps.length
  | [] => rfl
  | _ :: ps => by
    have := ones_sum ps
    simp only [List.map_cons, List.sum_cons, List.length_cons]
    omega
theorem ones_flat : ∀ ps : List (Bool × PySem.Str), (ps.map fun _ => (([] : List PySem.Str), 1)).flatMap (·.1) = []
  | [] => rfl
  | _ :: ps => by simpa using ones_flat ps
theorem Par.mono {tl tl' : Led} {v : Value} {q : Bool × PySem.Str} (h : Par tl v q) (k : ∀ p ∈ tl, p ∈ tl') : Par tl' v q := let ⟨t, t', t'', u, x⟩ := h; ⟨t, t', t'', u, x.mono k⟩
/-- what a lap knows of its module -/
structure LapMod (tl : Led) (D aH aQ r : Addr) (nm : PySem.Str) (vsH bvs : List Value) (psH psQ : List (Bool × PySem.Str)) (vsQ : List Value) (us : List PySem.Str) : Prop where
  ex : ∃ ls psB, ModL tl (.ref D) (.ref aH) (.ref r) nm vsH bvs ls ∧ ls.flatten = front psH ++ front psQ ∧ Pairs (ItemP tl) bvs psB ∧ (psB.map (·.2)).sum ≤ 1000 ∧ ∀ x, x ∈ us ↔ x ∈ psB.flatMap (·.1)
  pH : Pairs (Par tl) vsH psH
  pQ : Pairs (Par tl) vsQ psQ
  tr : Tup tl (.ref r) bvs
  lH : psH.length ≤ 2
  lQ : psQ.length ≤ 2
  kH : ∀ p ∈ psH, p.2 ∈ theParams
  kQ : ∀ p ∈ psQ, p.2 ∈ theParams
  mH : ∃ n, (aH, tupO vsH n) ∈ tl
  mQ : ∃ n, (aQ, tupO vsQ n) ∈ tl
theorem lap_mod {tl T1 T2 T3 ex : Led} {D aH aQ aI r x4 : Addr} {nm : PySem.Str} {n0 n1 n2 n3 n4 : Nat} {t t' t'' u : Tok} {vsH vsQ vsI : List Value} {psH psQ : List (Bool × PySem.Str)} {psI : List (List PySem.Str × Nat)} {us : List PySem.Str}
    (hD : (D, tupO [.str (PySem.Str.ofString "module") t, .int 3 t', .str nm t'', .ref aH, .ref x4, .ref r, .str (PySem.Str.ofString "wire") u] n0) ∈ tl) (hH : (aH, tupO vsH n1) ∈ T1) (hr : (r, tupO (vsI ++ vsQ) n2) ∈ (aI, tupO vsI n3) :: (aQ, tupO vsQ n4) :: ex)
    (hI : (aI, tupO vsI n3) ∈ T3) (hQ : (aQ, tupO vsQ n4) ∈ T2) (pH : Pairs (Par T1) vsH psH) (pQ : Pairs (Par T2) vsQ psQ) (pI : Pairs (Item T3 4) vsI psI) (hs : (psI.map (·.2)).sum ≤ 88) (lH : psH.length ≤ 2) (lQ : psQ.length ≤ 2)
    (kH : ∀ p ∈ psH, p.2 ∈ theParams) (kQ : ∀ p ∈ psQ, p.2 ∈ theParams) (hus : ∀ x, x ∈ us ↔ x ∈ psI.flatMap (·.1))
    (s1 : ∀ p ∈ T1, p ∈ tl) (s2 : ∀ p ∈ T2, p ∈ tl) (s3 : ∀ p ∈ T3, p ∈ tl) (s4 : ∀ p ∈ ex, p ∈ tl) : LapMod tl D aH aQ r nm vsH (vsI ++ vsQ) psH psQ vsQ us := by
  have hr' : (r, tupO (vsI ++ vsQ) n2) ∈ tl := by
    rcases List.mem_cons.mp hr with e | h
    · rw [e]; exact s3 _ hI
    · rcases List.mem_cons.mp h with e | h
      · rw [e]; exact s2 _ hQ
      · exact s4 _ h
  have pH' := pH.mono fun _ _ x => Par.mono x s1
  have pQ' := pQ.mono fun _ _ x => Par.mono x s2
  have pI' := pI.mono fun _ _ x => Item.mono s3 x
  have l1 := pairs_len pH
  have l2 := pairs_len pQ
  have l3 := item_len pI hs
  refine ⟨⟨psH.map parL ++ ((psI.map fun _ => []) ++ psQ.map parL), psI ++ psQ.map fun _ => ([], 1), ⟨⟨_, _, _, _, _, _, _, rfl, hD⟩, ⟨_, _, rfl, s1 _ hH⟩, ⟨_, _, rfl, hr'⟩, (ents_par pH').append ((ents_item pI').append (ents_par pQ')), ?_⟩, ?_, (itemP_item pI').append (itemP_par pQ'), ?_, fun x => ?_⟩, pH', pQ', ⟨_, _, rfl, hr'⟩, lH, lQ, kH, kQ, ⟨_, s1 _ hH⟩, ⟨_, s2 _ hQ⟩⟩
  · rw [List.length_append]; omega
  · rw [List.flatten_append, List.flatten_append, par_flat, par_flat, nils_flat, List.nil_append]
  · rw [List.map_append, List.sum_append, ones_sum]; omega
  · rw [hus, List.flatMap_append, ones_flat, List.append_nil]
theorem LapMod.mdl {tl : Led} {D aH aQ r : Addr} {nm : PySem.Str} {vsH bvs vsQ : List Value} {psH psQ : List (Bool × PySem.Str)} {us : List PySem.Str} (x : LapMod tl D aH aQ r nm vsH bvs psH psQ vsQ us) (hn : ∀ y ∈ us, y ∈ theNames) : Mdl tl (.ref D) nm us := by
  obtain ⟨ls, psB, ml, _, pb, hs, hu⟩ := x.ex
  exact ⟨_, _, bvs, psB, ml.mod, ml.tb, pb, hs, hu, hn⟩
theorem front_sub {ps : List (Bool × PySem.Str)} (k : ∀ p ∈ ps, p.2 ∈ theParams) : ∀ x ∈ front ps, x ∈ theParams := fun x hx => by
  unfold front at hx
  obtain ⟨q, hq, rfl⟩ := List.mem_map.mp hx
  exact k q (List.mem_filter.mp hq).1
theorem LapMod.zz {tl : Led} {D aH aQ r : Addr} {nm : PySem.Str} {vsH bvs vsQ : List Value} {psH psQ : List (Bool × PySem.Str)} {us : List PySem.Str} (x : LapMod tl D aH aQ r nm vsH bvs psH psQ vsQ us) : PySem.Str.ofString "zz" ∉ front psH ++ front psQ := fun h => by
  have : PySem.Str.ofString "zz" ∈ theParams := by
    rcases List.mem_append.mp h with h | h
    · exact front_sub x.kH _ h
    · exact front_sub x.kQ _ h
  exact absurd this (by decide +kernel)
section
variable {w : World} {H h₀ : Heap} {A : Around} {s : Shared} {L : Addr} {m : PySem.Str → Option Value} {news : Led} {Q E : Value → Shared → Prop} {tl : Led} {D aH aQ r : Addr} {nm : PySem.Str} {vsH bvs vsQ : List Value} {psH psQ : List (Bool × PySem.Str)} {us : List PySem.Str}
theorem inst_callL (IS : InstSpec w H) (x : LapMod tl D aH aQ r nm vsH bvs psH psQ vsQ us) (nd : us.Nodup) (hn : ∀ y ∈ us, y ∈ theNames) (sub : ∀ p ∈ tl, p ∈ news) (R : Room A 6 80) (F : Fr h₀ L s.heap m) (N : News h₀ L s.heap news) (st : H.StaysIn h₀)
    (k : ∀ h' tk' r kv ks n, Fr h₀ L h' m → News h₀ L h' ((r, listOf (List.toArray kv) n) :: news) → (∀ p ∈ news, p.1 ≠ r) → StrsAre kv ks → ks.Perm us → ks.length < 64 → Q (.ref r) { s with heap := h', toks := tk' }) :
    wpAny (model PySem.Challenge.pw_pq0447_01 w) A (call (.ref 78) [.ref r]) Q E s := by
  obtain ⟨ls, psB, ml, _, pb, hs, hu⟩ := x.ex
  refine inst_call IS R F N st (led_of N sub) x.tr pb hs fun h' tk' r kv ks n F' N' l i nd' hx => ?_
  have hk : ∀ x, x ∈ ks ↔ x ∈ us := fun x => (hx x).trans (hu x).symm
  have := nodup_len (m := theNames) nd' fun x h => hn x ((hk x).mp h)
  exact k h' tk' r kv ks n F' N' l i (perm_of_sets nd' nd hk) (Nat.lt_of_le_of_lt this (by decide))
theorem parnames_callL (PS : ParNamesSpec w H) (x : LapMod tl D aH aQ r nm vsH bvs psH psQ vsQ us) (sub : ∀ p ∈ tl, p ∈ news) (R : Room A 2 40) (F : Fr h₀ L s.heap m) (N : News h₀ L s.heap news) (st : H.StaysIn h₀)
    (k : ∀ h' tk' r vs n, Fr h₀ L h' m → News h₀ L h' ((r, listOf (List.toArray vs) n) :: news) → (∀ p ∈ news, p.1 ≠ r) → StrsAre vs (front psH ++ front psQ) → Q (.ref r) { s with heap := h', toks := tk' }) :
    wpAny (model PySem.Challenge.pw_pq0447_01 w) A (call (.ref 92) [.ref D]) Q E s := by
  obtain ⟨ls, psB, ml, e, pb, hs, hu⟩ := x.ex
  exact parnames_call PS R F N st (led_of N sub) ml.mod ml.th ml.tb ml.ents ml.len fun h' tk' r vs n F' N' l i => k h' tk' r vs n F' N' l (e ▸ i)
theorem ord_callL (OS : OrdSpec w H) (x : LapMod tl D aH aQ r nm vsH bvs psH psQ vsQ us) (sub : ∀ p ∈ tl, p ∈ news) (R : Room A 4 60) (F : Fr h₀ L s.heap m) (N : News h₀ L s.heap news) (st : H.StaysIn h₀)
    (k : ∀ h' tk' r vs n, Fr h₀ L h' m → News h₀ L h' ((r, listOf (List.toArray vs) n) :: news) → (∀ p ∈ news, p.1 ≠ r) → StrsAre vs (if front psH = [] then front psQ else front psH) → Q (.ref r) { s with heap := h', toks := tk' }) :
    wpAny (model PySem.Challenge.pw_pq0447_01 w) A (call (.ref 97) [.ref D]) Q E s := by
  obtain ⟨ls, psB, ml, e, pb, hs, hu⟩ := x.ex
  refine ord_call OS R F N st (led_of N sub) ml.mod ml.th ml.tb x.pH ml.ents ml.len fun h' tk' r vs n F' N' l i => k h' tk' r vs n F' N' l ?_
  by_cases z : front psH = []
  · rw [if_pos z] at i ⊢
    rw [e, z, List.nil_append] at i; exact i
  · rw [if_neg z] at i ⊢; exact i
theorem ok_callL (RO : RefusedOk w H) (x : LapMod tl D aH aQ r nm vsH bvs psH psQ vsQ us) (sub : ∀ p ∈ tl, p ∈ news) {d : Addr} {od : Obj} {kvs : List (PySem.Str × Value)} (R : Room A 6 80) (F : Fr h₀ L s.heap m) (N : News h₀ L s.heap news) (st : H.StaysIn h₀)
    (hd : (d, od) ∈ news) (hk : od.IsDictOf (PySem.strKind PySem.Challenge.pw_pq0447_01 w) kvs) (lo : (d == sysModules) = false) (hall : ∀ k ∈ kvs.map (·.1), k ∈ front psH ++ front psQ)
    (k : ∀ h' tk' r n k1 k2 k3 k4, Fr h₀ L h' m → News h₀ L h' ((r, tupO (okT k1 k2 k3 k4) n) :: news) → (∀ p ∈ news, p.1 ≠ r) → Q (.ref r) { s with heap := h', toks := tk' }) :
    wpAny (model PySem.Challenge.pw_pq0447_01 w) A (call (.ref 146) [.ref D, .ref d]) Q E s := by
  obtain ⟨ls, psB, ml, e, pb, hs, hu⟩ := x.ex
  exact refused_ok_call RO R F N st ml sub hd hk lo (fun k h => e ▸ hall k h) k
theorem bad_callL {env : Env} (RB : RefusedBad w H) (x : LapMod tl D aH aQ r nm vsH bvs psH psQ vsQ us) (sub : ∀ p ∈ tl, p ∈ news) {d : Addr} {od : Obj} {v : Value} (R : Room A 9 90) (hfr : A.frames = some [env]) (hkd : env.scope.kind ≠ .module) (hf : env.frame = some env.locals)
    (F : Fr h₀ env.locals s.heap m) (N : News h₀ env.locals s.heap news) (st : H.StaysIn h₀) (hd : (d, od) ∈ news) (hk : od.IsDictOf (PySem.strKind PySem.Challenge.pw_pq0447_01 w) [(PySem.Str.ofString "zz", v)]) (lo : (d == sysModules) = false)
    (k : ∀ h' tk' r n k1 k2 k3 k4, Fr h₀ env.locals h' m → News h₀ env.locals h' ((r, tupO (badT k1 k2 k3 k4) n) :: news) → (∀ p ∈ news, p.1 ≠ r) → Q (.ref r) { s with heap := h', toks := tk' }) :
    wpAny (model PySem.Challenge.pw_pq0447_01 w) A (call (.ref 146) [.ref D, .ref d]) Q E s := by
  obtain ⟨ls, psB, ml, e, pb, hs, hu⟩ := x.ex
  exact refused_bad_call RB R hfr hkd hf F N st ml sub hd hk lo rfl (by rw [e]; exact x.zz) k
/-- `sorted(a) != sorted(b)` -/
theorem ne_sortedL {a b : Addr} {vs us' : List Value} {ss ks ss2 : List PySem.Str} {n1 n2 : Nat} (N : News h₀ L s.heap news) (ha : (a, listOf (List.toArray vs) n1) ∈ news) (hb : (b, listOf (List.toArray us') n2) ∈ news) (i1 : StrsAre vs ss) (i2 : StrsAre us' ss2)
    (p1 : ss.Perm ks) (p2 : ss2.Perm us) (s1 : sortedS ss = true) (s2 : sortedS ss2 = true) (pk : ks.Perm us) (hn : ∀ y ∈ us, y ∈ theNames) (hu : A.units + 64 < cLine) (q : Q (.bool false) s) :
    wpAny (model PySem.Challenge.pw_pq0447_01 w) A (compareOp .NotEq (.ref a) (.ref b)) Q E s :=
  ne_same N ha hb i1 i2 (sorted_same (p1.trans (pk.trans p2.symm)) s1 s2) (ok_names fun k hk => hn k (pk.mem_iff.mp (p1.mem_iff.mp hk))) hu q
/-- `front + back` -/
theorem add_listR {a b : Addr} {vs ws : List Value} {ks ms : List PySem.Str} {n1 n2 : Nat} (F : Fr h₀ L s.heap m) (N : News h₀ L s.heap news) (ha : (a, listOf (List.toArray vs) n1) ∈ news) (hb : (b, listOf (List.toArray ws) n2) ∈ news) (i1 : StrsAre vs ks) (i2 : StrsAre ws ms) (hz : ks.length + ms.length ≤ 1000)
    (k : ∀ h' r n, Fr h₀ L h' m → News h₀ L h' ((r, listOf (List.toArray (vs ++ ws)) n) :: news) → (∀ p ∈ news, p.1 ≠ r) → StrsAre (vs ++ ws) (ks ++ ms) → Q (.ref r) { s with heap := h' }) :
    wpAny (model PySem.Challenge.pw_pq0447_01 w) A (binaryOp .Add (.ref a) (.ref b)) Q E s :=
  add_lists F N (News.isList N ha) (News.isList N hb) (fun h' F' N' => k h' _ 0 F' N' (fun p hp e => by
    have h1 := Heap.lt_size (N p hp).1
    rw [e] at h1; exact absurd h1 (Nat.lt_irrefl _)) (StrsAre.append' i1 i2)) (by rw [i1.length, i2.length, sizeLine_eq]; omega)
/-- `front == []` -/
theorem eq_nil {a b : Addr} {vs : List Value} {ks : List PySem.Str} {n1 n2 : Nat} (N : News h₀ L s.heap news) (ha : (a, listOf (List.toArray vs) n1) ∈ news) (hb : (b, listOf (List.toArray []) n2) ∈ news) (i1 : StrsAre vs ks) (ok : ∀ x ∈ ks, x ∈ theParams) (hu : A.units + 64 < cLine)
    (q1 : ks = [] → Q (.bool true) s) (q2 : ks ≠ [] → Q (.bool false) s) : wpAny (model PySem.Challenge.pw_pq0447_01 w) A (compareOp .Eq (.ref a) (.ref b)) Q E s := by
  refine eq_two N ha hb i1 .nil (ok_params ok) (fun _ h => nomatch h) hu ?_
  by_cases z : ks = []
  · rw [decide_eq_true z]; exact q1 z
  · rw [decide_eq_false z]; exact q2 z
theorem ne_sameP {a b : Addr} {vs us : List Value} {ks ms : List PySem.Str} {n1 n2 : Nat} (N : News h₀ L s.heap news) (ha : (a, listOf (List.toArray vs) n1) ∈ news) (hb : (b, listOf (List.toArray us) n2) ∈ news) (i1 : StrsAre vs ks) (i2 : StrsAre us ms)
    (e : ks = ms) (ok : ∀ x ∈ ms, x ∈ theParams) (hu : A.units + 64 < cLine) (q : Q (.bool false) s) : wpAny (model PySem.Challenge.pw_pq0447_01 w) A (compareOp .NotEq (.ref a) (.ref b)) Q E s :=
  ne_same N ha hb i1 i2 e (ok_params (e ▸ ok)) hu q
theorem dc_srcA {env : Env} {kx vx : Expr} {x y : PySem.Str} {ifs : List Expr} {scope : Scope} {cl : List (PySem.Str × Addr)} {QF : Flow → Shared → Prop} {p : Value → Bool} {FK : Value → PySem.Str → Prop} {FV : Value → Value → Prop} {a : Addr} {items : List Value} {s₁ : Shared}
    (Fr1 : Fr h₀ env.locals s₁.heap m) (N1 : News h₀ env.locals s₁.heap news) (ha : SeqAt s₁.heap a items) (hsz : items.length ≤ sizeLine) (big : h₀.NoLimit)
    (hq : DcQuiet PySem.Challenge.pw_pq0447_01 w A env kx vx x ifs scope cl p FK FV items s₁)
    (hk : ∀ D h' tk o kvs, Fr h₀ env.locals h' (fun z => if z = y then some (.ref D) else m z) → News h₀ env.locals h' ((D, o) :: news) → (∀ p ∈ news, p.1 ≠ D) → (D == sysModules) = false → o.IsDictOf (PySem.strKind PySem.Challenge.pw_pq0447_01 w) kvs → StoredAll FK FV (items.filter p) kvs → QF .next { s₁ with heap := h', toks := tk }) :
    DcSrcA PySem.Challenge.pw_pq0447_01 w A env kx vx x y ifs scope cl p FK FV QF (.ref a) s₁ := by
  refine ⟨a, items, m, rfl, ha, hsz, Fr1.ns, hq, fun D h' tk kvs hD hDs hdk hF hns keep => ?_⟩
  obtain ⟨o, ho, hdo⟩ := Heap.dictOf_iff.mp hdk
  have hbL : ∀ b o, h₀.get? b = some o → b ≠ env.locals := fun b o e q => fr_ne Fr1 e q
  have hD0 : h₀.get? D = none := by
    cases q : h₀.get? D with
    | none => rfl
    | some o => have := Fr1.keep _ _ q; rw [hD] at this; cases this
  refine hk D h' tk o kvs ⟨hns, fun b o e => keep b o (hbL b o e) (Fr1.keep b o e), Fr1.above⟩ (fun q hq => ?_) (fun p hp e => by have := (N1 p hp).1; rw [e, hD] at this; cases this) ?_ hdo hF
  · rcases List.mem_cons.mp hq with rfl | hq
    · refine ⟨ho, fun e => ?_, hD0⟩
      obtain ⟨oL, _, _, hL, _⟩ := Fr1.ns
      have e' : D = env.locals := e
      rw [e', hL] at hD; cases hD
    · exact ⟨keep _ _ (N1 q hq).2.1 (N1 q hq).1, (N1 q hq).2⟩
  · exact beq_eq_false_iff_ne.mpr (Nat.ne_of_gt (Nat.lt_of_lt_of_le (Nat.lt_of_lt_of_le (modules_low big) (Nat.le_trans Fr1.above (Nat.le_of_lt Fr1.ns.lt))) hDs))
end

theorem collapse {h₀ h : Heap} {L D D1 ul I ml ah ev du ar cc : Addr} {mo eo uo it mlo oh evo duo orr oc : Obj} {rest : Led} (N : News h₀ L h ((D, mo) :: (D1, eo) :: (ul, uo) :: (I, it) :: (ml, mlo) :: (ah, oh) :: (ev, evo) :: (du, duo) :: (ar, orr) :: (cc, oc) :: rest))
    (h1 : ∀ p ∈ (D, mo) :: (D1, eo) :: rest, p.1 ≠ ml) (h2 : ∀ p ∈ (D, mo) :: (D1, eo) :: rest, p.1 ≠ ah) (h3 : ∀ p ∈ (D, mo) :: (D1, eo) :: rest, p.1 ≠ ev) (h4 : ∀ p ∈ (D, mo) :: (D1, eo) :: rest, p.1 ≠ du)
    (h5 : ∀ p ∈ (D, mo) :: (D1, eo) :: rest, p.1 ≠ ar) (h6 : ∀ p ∈ (D, mo) :: (D1, eo) :: rest, p.1 ≠ cc) (h7 : ∀ p ∈ (D, mo) :: (D1, eo) :: rest, p.1 ≠ I) (h8 : ∀ p ∈ (D, mo) :: (D1, eo) :: rest, p.1 ≠ ul) :
    ∃ tl, tl = (D, mo) :: (D1, eo) :: rest ∧ News h₀ L h ((ml, mlo) :: (ah, oh) :: (ev, evo) :: (du, duo) :: (ar, orr) :: (cc, oc) :: (I, it) :: (ul, uo) :: (D, mo) :: tl) ∧ (∀ p ∈ tl, p.1 ≠ ml) ∧ (∀ p ∈ tl, p.1 ≠ ah) ∧ (∀ p ∈ tl, p.1 ≠ ev) ∧ (∀ p ∈ tl, p.1 ≠ du) ∧ (∀ p ∈ tl, p.1 ≠ ar) ∧ (∀ p ∈ tl, p.1 ≠ cc) ∧ (∀ p ∈ tl, p.1 ≠ I) ∧ ∀ p ∈ tl, p.1 ≠ ul :=
  ⟨_, rfl, fun p hp => N p (by
    simp only [List.mem_cons] at hp ⊢
    rcases hp with h | h | h | h | h | h | h | h | h | h | h | h <;> simp [h]), h1, h2, h3, h4, h5, h6, h7, h8⟩
/-- the ledger as the inner loop wants it -/
theorem collapse2 {h₀ h : Heap} {L ul I ml ah ev du ar cc D : Addr} {uo it mlo oh evo duo orr oc mo : Obj} {x1 x2 x3 : Addr × Obj} {tl : Led} (N : News h₀ L h (x1 :: x2 :: x3 :: (ml, mlo) :: (ah, oh) :: (ev, evo) :: (du, duo) :: (ar, orr) :: (cc, oc) :: (I, it) :: (ul, uo) :: (D, mo) :: tl))
    (h1 : ∀ p ∈ (ml, mlo) :: (ah, oh) :: (du, duo) :: (ar, orr) :: (cc, oc) :: (I, it) :: (D, mo) :: tl, p.1 ≠ ev) (h2 : ∀ p ∈ (ev, evo) :: (ml, mlo) :: (ah, oh) :: (du, duo) :: (ar, orr) :: (cc, oc) :: (I, it) :: (D, mo) :: tl, p.1 ≠ ul) :
    ∃ rest, rest = (ml, mlo) :: (ah, oh) :: (du, duo) :: (ar, orr) :: (cc, oc) :: (I, it) :: (D, mo) :: tl ∧ News h₀ L h ((ev, evo) :: rest) ∧ h.get? ul = some uo ∧ ul ≠ L ∧ (∀ p ∈ rest, p.1 ≠ ev) ∧ (∀ p ∈ (ev, evo) :: rest, p.1 ≠ ul) ∧ (cc, oc) ∈ rest :=
  ⟨_, rfl, fun p hp => N p (by
    simp only [List.mem_cons] at hp ⊢
    rcases hp with h | h | h | h | h | h | h | h | h <;> simp [h]), (N (ul, uo) (by simp)).1, (N (ul, uo) (by simp)).2.1, h1, h2, by simp⟩
theorem Fr.gen {h₀ h : Heap} {L : Addr} {m : PySem.Str → Option Value} (F : Fr h₀ L h m) : ∃ m', m' = m ∧ Fr h₀ L h m' := ⟨_, rfl, F⟩
theorem mark_of {h₀ h : Heap} {L : Addr} {news : Led} (_ : News h₀ L h news) : LcMark (parB h) (fun v y => y = parN h v) := ⟨⟩
theorem led_at {h₀ h : Heap} {L : Addr} {news tl : Led} (N : News h₀ L h news) (sub : ∀ p ∈ tl, p ∈ news) : LedAt h tl := fun p hp => (N p (sub p hp)).1
theorem seq_at {h₀ h : Heap} {L a : Addr} {vs : List Value} {news tl : Led} (x : ∃ n, (a, tupO vs n) ∈ tl) (N : News h₀ L h news) (sub : ∀ p ∈ tl, p ∈ news) : SeqAt h a vs := let ⟨n, m⟩ := x; .inr (isTup_of (N _ (sub _ m)).1)
theorem par_read2 {h h2 : Heap} {tl : Led} {v : Value} {q : Bool × PySem.Str} (l : LedAt h tl) (l2 : LedAt h2 tl) (p : Par tl v q) : ∃ a n t t' t'' u, v = .ref a ∧ h2.get? a = some (tupO [.str (PySem.Str.ofString "param") t, .int 1 t', .str (parKd q.1) t'', .bool false, .none, .str q.2 u, .none] n) ∧ parB h v = q.1 ∧ parN h v = .str q.2 u := by
  obtain ⟨t, t', t'', u, a, n, rfl, hm⟩ := p
  have e := l _ hm
  refine ⟨a, n, t, t', t'', u, rfl, l2 _ hm, ?_, ?_⟩
  · unfold parB
    rw [itemsOf_eq e]
    exact parKd_eq
  · unfold parN
    rw [itemsOf_eq e]; rfl
/-- what the inner loop keeps -/
def EvInv (w : World) (ev : Addr) (uv : List Value) (ks us : List PySem.Str) (m0 : PySem.Str → Option Value) (rest : Led) (i : Nat) (m : PySem.Str → Option Value) (news : Led) : Prop :=
  StrsAre uv us ∧ (∀ y, y ≠ PySem.Str.ofString "word" → m y = m0 y) ∧ ∃ evo, news = (ev, evo) :: rest ∧ UsedD w evo (ks ++ us.take i)
theorem take_zero_app {ks us : List PySem.Str} : ks ++ us.take 0 = ks := by rw [List.take_zero, List.append_nil]
theorem due_len {w : World} {o : Obj} {kvs : List (PySem.Str × Value)} (h : o.IsDictOf (PySem.strKind PySem.Challenge.pw_pq0447_01 w) kvs) (k : ∀ k ∈ kvs.map (·.1), k ∈ theNames) : kvs.length ≤ 6 := by
  obtain ⟨_, _, _, _, _, _, nd⟩ := id h
  have := nodup_len (m := theNames) nd k
  rw [List.length_map] at this
  exact this
theorem Mod.mono {tl tl' : Led} {v hv bv : Value} {nm : PySem.Str} (h : Mod tl v nm hv bv) (k : ∀ p ∈ tl, p ∈ tl') : Mod tl' v nm hv bv := let ⟨t, t', t'', x, y, a⟩ := h; ⟨t, t', t'', x, y, a.mono k⟩
theorem ItemP.mono {tl tl' : Led} {v : Value} {p : List PySem.Str × Nat} (h : ItemP tl v p) (k : ∀ p ∈ tl, p ∈ tl') : ItemP tl' v p := by
  rcases h with ⟨d, a⟩ | ⟨t, t', t'', u, kd, nm, a, e⟩
  · exact .inl ⟨d, a.mono k⟩
  · exact .inr ⟨t, t', t'', u, kd, nm, a.mono k, e⟩
theorem Elt.mono {tl tl' : Led} {v : Value} {r : Rec} (h : Elt tl v r) (k : ∀ p ∈ tl, p ∈ tl') : Elt tl' v r := by
  cases r with
  | none =>
    obtain ⟨a, t, dx, od, e, m1, m2⟩ := h
    exact ⟨a, t, dx, od, e, k _ m1, k _ m2⟩
  | some p =>
    obtain ⟨hv, bv, bvs, ps, a, b, c, r⟩ := h
    exact ⟨hv, bv, bvs, ps, a.mono k, b.mono k, c.mono fun _ _ x => x.mono k, r⟩
theorem allUsed_some {rs : List Rec} {p : PySem.Str × List PySem.Str} : allUsed (rs ++ [some p]) = allUsed rs ++ p.2 := by simp [allUsed]
theorem allUsed_none {rs : List Rec} : allUsed (rs ++ [none]) = allUsed rs := by simp [allUsed]
def wordKey (v : Value) (k : PySem.Str) : Prop := ∃ t, v = .str k t
theorem storedAll_keys {FV : Value → Value → Prop} {l : List Value} {kvs : List (PySem.Str × Value)} (h : StoredAll wordKey FV l kvs) : ∀ k ∈ kvs.map (·.1), ∃ t, Value.str k t ∈ l := by
  induction h with
  | nil => intro k hk; cases hk
  | @snoc l kvs v k y _ hk hy ih =>
    intro x hx
    rw [stored_keys] at hx
    rcases hx with hx | rfl
    · obtain ⟨t, ht⟩ := ih x hx
      exact ⟨t, List.mem_append_left _ ht⟩
    · obtain ⟨t, rfl⟩ := hk
      exact ⟨t, by simp⟩
theorem strs_mem {vs : List Value} {ks : List PySem.Str} (h : StrsAre vs ks) : ∀ {k : PySem.Str} {t : Tok}, Value.str k t ∈ vs → k ∈ ks := by
  induction h with
  | nil => intro k t m; cases m
  | cons x u r ih =>
    intro k t m
    rcases List.mem_cons.mp m with e | m
    · cases e; exact .head _
    · exact .tail _ (ih m)
theorem lc_front {w : World} {A : Around} {env : Env} {hB : Heap} {tl : Led} {ps : List (Bool × PySem.Str)} {elt : Expr} {x y : PySem.Str} {ifs : List Expr} {scope : Scope} {cl : List (PySem.Str × Addr)} {Q : Flow → Shared → Prop} {a : Addr} {items : List Value} {h₀ : Heap} {m : PySem.Str → Option Value} {news : Led} {s₁ : Shared}
    (led : LedAt hB tl) (led1 : LedAt s₁.heap tl) (hp : Pairs (Par tl) items ps) (hl : ps.length ≤ 2)
    (Fr1 : Fr h₀ env.locals s₁.heap m) (N1 : News h₀ env.locals s₁.heap news) (ha : SeqAt s₁.heap a items)
    (ht : ∀ C av t t' t'' u b nm s₃ m₃ E', IsTup s₁.heap av (List.toArray [.str (PySem.Str.ofString "param") t, .int 1 t', .str (parKd b) t'', .bool false, .none, .str nm u, .none]) → Fr s₁.heap C s₃.heap m₃ → News s₁.heap C s₃.heap [] → m₃ x = some (.ref av) →
        wpAny (model PySem.Challenge.pw_pq0447_01 w) A (forIn ifs true fun c r => if r = true then do let ok ← isTrue c (compEnvC scope cl C env) (eval c (compEnvC scope cl C env)); pure (ForInStep.yield ok) else pure (ForInStep.yield r))
          (fun ok s₄ => ok = b ∧ Keeps s₃ s₄) E' s₃)
    (he : ∀ C av t t' t'' u b nm s₃ m₃ E', IsTup s₁.heap av (List.toArray [.str (PySem.Str.ofString "param") t, .int 1 t', .str (parKd b) t'', .bool false, .none, .str nm u, .none]) → Fr s₁.heap C s₃.heap m₃ → News s₁.heap C s₃.heap [] → m₃ x = some (.ref av) →
        wpAny (model PySem.Challenge.pw_pq0447_01 w) A (eval elt (compEnvC scope cl C env)) (fun y s₄ => y = .str nm u ∧ Keeps s₃ s₄) E' s₃)
    (hk : ∀ D h' tk ys n, Fr h₀ env.locals h' (fun z => if z = y then some (.ref D) else m z) → News h₀ env.locals h' ((D, listOf (List.toArray ys) n) :: news) → (∀ p ∈ news, p.1 ≠ D) → StrsAre ys (front ps) → Q .next { s₁ with heap := h', toks := tk }) :
    LcSrcA PySem.Challenge.pw_pq0447_01 w A env elt x y ifs scope cl (parB hB) (fun v y => y = parN hB v) Q (.ref a) s₁ := by
  have hlen := pairs_len hp
  refine lc_srcA Fr1 N1 ha (by rw [sizeLine_eq]; omega) ?_ ?_ ?_
  · intro C v s₃ m₃ E' hv F3 N3 hm
    obtain ⟨q, hq, hpq⟩ := pairs_left hp v hv
    obtain ⟨av, nv, u0, u1, u2, u3, rfl, hav, eb, en⟩ := par_read2 led led1 hpq
    rw [eb]
    exact ht C av u0 u1 u2 u3 q.1 q.2 s₃ m₃ E' (isTup_of hav) F3 N3 hm
  · intro C v s₃ m₃ E' hv hpv F3 N3 hm
    obtain ⟨q, hq, hpq⟩ := pairs_left hp v hv
    obtain ⟨av, nv, u0, u1, u2, u3, rfl, hav, eb, en⟩ := par_read2 led led1 hpq
    rw [en]
    exact he C av u0 u1 u2 u3 q.1 q.2 s₃ m₃ E' (isTup_of hav) F3 N3 hm
  · intro D h' tk ys n F4 N4 l hF
    obtain rfl := paired_map hF
    exact hk D h' tk _ n F4 N4 l (front_strs led hp)
theorem new_tup {M : Model} {A : Around} {E : Value → Shared → Prop} {s : Shared} {h₀ : Heap} {L : Addr} {m : PySem.Str → Option Value} {news : Led} {vs : List Value} {Q : Value → Shared → Prop} (F : Fr h₀ L s.heap m) (N : News h₀ L s.heap news) (hz : vs.length ≤ 1000)
    (h : ∀ D h', Fr h₀ L h' m → News h₀ L h' ((D, tupO vs 0) :: news) → (∀ p ∈ news, p.1 ≠ D) → Q (.ref D) { s with heap := h' }) : wpAny M A (newTuple vs) Q E s :=
  kup_newTuple F N (fun D h' F' N' l => h D h' F' N' fun p hp => Nat.ne_of_lt (l p hp)) (by rw [sizeLine_eq]; omega)
/-- the modules that the last list takes, and what it makes of them -/
def wantB (h : Heap) (us : List PySem.Str) (v : Value) : Bool := isTupB h v && match (itemsOf h v)[2]? with
  | some (Value.str k _) => !decide (k ∈ us)
  | _ => false
def wantF (h : Heap) (v y : Value) : Prop := (itemsOf h v)[2]? = some y
theorem mark_wanted {h₀ h : Heap} {L : Addr} {news : Led} (_ : News h₀ L h news) (us : List PySem.Str) : LcMark (wantB h us) (wantF h) := ⟨⟩
theorem want_none {h : Heap} {tl : Led} {v : Value} {us : List PySem.Str} (l : LedAt h tl) (e : Err32 tl v) : wantB h us v = false := by
  unfold wantB
  rw [elt_none l e]; rfl
theorem want_some {h : Heap} {tl : Led} {v : Value} {us : List PySem.Str} {p : PySem.Str × List PySem.Str} (l : LedAt h tl) (e : Mdl tl v p.1 p.2) : wantB h us v = (!decide (p.1 ∈ us)) ∧ ∀ y, wantF h v y → ∃ t, y = .str p.1 t := by
  obtain ⟨hv, bv, bvs, ps, ⟨t0, t1, t2, x4, y6, hmt⟩, _⟩ := id e
  obtain ⟨a, na, rfl, ha⟩ := tup_at l hmt
  refine ⟨?_, fun y hy => ?_⟩
  · unfold wantB
    rw [(elt_some (p := p) l e).1, itemsOf_eq ha]
    rfl
  · unfold wantF at hy
    rw [itemsOf_eq ha] at hy
    exact ⟨t2, (Option.some.inj hy).symm⟩
theorem want_strs {h : Heap} {tl : Led} {us : List PySem.Str} (l : LedAt h tl) : ∀ {vs : List Value} {rs : List Rec} {ys : List Value}, Pairs (Elt tl) vs rs → Paired (wantF h) (vs.filter (wantB h us)) ys → StrsAre ys (topsOf us rs)
  | _, _, ys, .nil, hp => by
    cases hp
    exact .nil
  | v :: vs, none :: rs, ys, .cons e q, hp => by
    rw [List.filter_cons_of_neg (by rw [want_none l e]; exact Bool.false_ne_true)] at hp
    exact want_strs (rs := rs) l q hp
  | v :: vs, some p :: rs, ys, .cons e q, hp => by
    obtain ⟨w1, w2⟩ := want_some (us := us) (p := p) l e
    by_cases hm : p.1 ∈ us
    · rw [List.filter_cons_of_neg (by rw [w1, decide_eq_true hm]; exact Bool.false_ne_true)] at hp
      have ih := want_strs (rs := rs) l q hp
      have : topsOf us (some p :: rs) = topsOf us rs := by unfold topsOf; simp [hm]
      rw [this]; exact ih
    · rw [List.filter_cons_of_pos (by rw [w1, decide_eq_false hm]; rfl)] at hp
      have : topsOf us (some p :: rs) = p.1 :: topsOf us rs := by unfold topsOf; simp [hm]
      rw [this]
      cases hp with
      | cons a r =>
        obtain ⟨t, rfl⟩ := w2 _ a
        exact .cons _ _ (want_strs (rs := rs) l q r)

/-! the end of a lap -/
theorem News.sub' {h₀ h : Heap} {L : Addr} {big small : Led} (N : News h₀ L h big) (s : ∀ p ∈ small, p ∈ big) : News h₀ L h small := fun p hp => N p (s p hp)
theorem nm_of {tl : Led} {D aH aQ r : Addr} {k : Int} {vsH bvs vsQ : List Value} {psH psQ : List (Bool × PySem.Str)} {us : List PySem.Str} (_ : LapMod tl D aH aQ r (PySem.Str.ofString "m" ++ PySem.Str.ofString (toString k)) vsH bvs psH psQ vsQ us) (h0 : 0 ≤ k) (h5 : k < 5) :
    PySem.Str.ofString "m" ++ PySem.Str.ofString (toString k) ∈ theNames := mname_mem h0 (by omega)
theorem due_step {w : World} {o : Obj} {ms : List Value} {rs : List Rec} {nm : PySem.Str} {us : List PySem.Str} {v : Value} (h : ms.length = rs.length) (x : o.IsDictOf (PySem.strKind PySem.Challenge.pw_pq0447_01 w) (stored (dueOf ms rs) nm v)) :
    o.IsDictOf (PySem.strKind PySem.Challenge.pw_pq0447_01 w) (dueOf (ms ++ [v]) (rs ++ [some (nm, us)])) := by rw [dueOf_some h]; exact x
theorem due_stepN {w : World} {o : Obj} {ms : List Value} {rs : List Rec} {v : Value} (h : ms.length = rs.length) (x : o.IsDictOf (PySem.strKind PySem.Challenge.pw_pq0447_01 w) (dueOf ms rs)) :
    o.IsDictOf (PySem.strKind PySem.Challenge.pw_pq0447_01 w) (dueOf (ms ++ [v]) (rs ++ [none])) := by rw [dueOf_none h]; exact x
theorem due_keys {ms : List Value} {rs : List Rec} {nm : PySem.Str} {us : List PySem.Str} {v : Value} (h : ms.length = rs.length) (x : ∀ k ∈ (dueOf ms rs).map (·.1), k ∈ theNames) (hn : nm ∈ theNames) : ∀ k ∈ (dueOf (ms ++ [v]) (rs ++ [some (nm, us)])).map (·.1), k ∈ theNames := by
  rw [dueOf_some h]
  intro k hk
  rw [stored_keys] at hk
  rcases hk with hk | rfl
  · exact x k hk
  · exact hn
theorem due_keysN {ms : List Value} {rs : List Rec} {v : Value} (h : ms.length = rs.length) (x : ∀ k ∈ (dueOf ms rs).map (·.1), k ∈ theNames) : ∀ k ∈ (dueOf (ms ++ [v]) (rs ++ [none])).map (·.1), k ∈ theNames := by rw [dueOf_none h]; exact x
theorem used_step {w : World} {o : Obj} {rs : List Rec} {nm : PySem.Str} {us : List PySem.Str} (x : UsedD w o (allUsed rs ++ us)) : UsedD w o (allUsed (rs ++ [some (nm, us)])) := by rw [allUsed_some]; exact x
theorem used_stepN {w : World} {o : Obj} {rs : List Rec} (x : UsedD w o (allUsed rs)) : UsedD w o (allUsed (rs ++ [none])) := by rw [allUsed_none]; exact x
theorem elt_step {tl tl' : Led} {ms : List Value} {rs : List Rec} {v : Value} {nm : PySem.Str} {us : List PySem.Str} (h : Pairs (Elt tl) ms rs) (k : ∀ p ∈ tl, p ∈ tl') (e : Mdl tl' v nm us) : Pairs (Elt tl') (ms ++ [v]) (rs ++ [some (nm, us)]) :=
  (h.mono fun _ _ x => x.mono k).append (.cons e .nil)
theorem err_step {tl : Led} {ms : List Value} {rs : List Rec} {e dx : Addr} {t : Addr} {od : Obj} (h : Pairs (Elt tl) ms rs) : Pairs (Elt ((e, excD 32 t dx) :: (dx, od) :: tl)) (ms ++ [.ref e]) (rs ++ [none]) :=
  (h.mono fun _ _ x => x.mono fun p hp => .tail _ (.tail _ hp)).append (.cons ⟨e, t, dx, od, rfl, .head _, .tail _ (.head _)⟩ .nil)
theorem recs_step {rs : List Rec} {nm : PySem.Str} {us : List PySem.Str} (h : RecsOk rs) (hn : nm ∈ theNames) : RecsOk (rs ++ [some (nm, us)]) := fun p hp => by
  rcases List.mem_append.mp hp with hp | hp
  · exact h p hp
  · cases List.mem_singleton.mp hp; exact hn
theorem recs_stepN {rs : List Rec} (h : RecsOk rs) : RecsOk (rs ++ [none]) := fun p hp => by
  rcases List.mem_append.mp hp with hp | hp
  · exact h p hp
  · cases List.mem_singleton.mp hp
theorem offL6 {tl : Led} {a b c d e f : Addr} (h1 : ∀ p ∈ tl, p.1 ≠ a) (h2 : ∀ p ∈ tl, p.1 ≠ b) (h3 : ∀ p ∈ tl, p.1 ≠ c) (h4 : ∀ p ∈ tl, p.1 ≠ d) (h5 : ∀ p ∈ tl, p.1 ≠ e) (h6 : ∀ p ∈ tl, p.1 ≠ f) : OffL tl [a, b, c, d, e, f] := by
  intro x hx
  simp only [List.mem_cons, List.not_mem_nil, or_false] at hx
  rcases hx with rfl | rfl | rfl | rfl | rfl | rfl <;> assumption
theorem len_step {α β : Type} {ms : List α} {rs : List β} {v : α} {r : β} (h : ms.length = rs.length) : (ms ++ [v]).length = (rs ++ [r]).length := by simp [h]
theorem len_two {α : Type} {ms : List α} {v : α} {i : Nat} (h : ms.length ≤ 2 * i) : (ms ++ [v]).length ≤ 2 * (i + 1) := by
  rw [List.length_append, List.length_singleton]; omega
theorem len_two2 {α : Type} {ms : List α} {v u : α} {i : Nat} (h : ms.length ≤ 2 * i) : (ms ++ [v] ++ [u]).length ≤ 2 * (i + 1) := by
  rw [List.length_append, List.length_append, List.length_singleton, List.length_singleton]; omega
/-- `k not in d`, d in the base -/
theorem notin_at {prog : Program} {w : World} {A : Around} {E : Value → Shared → Prop} {s : Shared} {d : Addr} {od : Obj} {kvs : List (PySem.Str × Value)} {k : PySem.Str} {t : Tok} {Q : Value → Shared → Prop} (he : s.heap.get? d = some od) (hd : od.IsDictOf (PySem.strKind prog w) kvs) (lo : (d == sysModules) = false)
    (h : Q (.bool (!decide (k ∈ kvs.map (·.1)))) { s with toks := s.toks + 1 }) : wpAny (model prog w) A (compareOp .NotIn (.str k t) (.ref d)) Q E s := by
  have N : News { s.heap with objs := #[] } (d + 1) s.heap [(d, od)] := fun p hp => by
    rw [List.mem_singleton.mp hp]
    exact ⟨he, Nat.ne_of_lt (Nat.lt_succ_self _), Heap.get?_none_of_le (Nat.zero_le _)⟩
  exact notin_dict N (.head _) hd lo h
/-- a name of the frame around a comprehension -/
theorem comp_free {M : Model} {A : Around} {E : Value → Shared → Prop} {s : Shared} {scope : Scope} {cl : List (PySem.Str × Addr)} {C : Addr} {env : Env} {x : PySem.Str} {pos : Pos} {c : Addr} {o : Obj} {v : Value} {Q : Value → Shared → Prop}
    (hl : (compEnvC scope cl C env).kindOf x = some .free) (hc : (compEnvC scope cl C env).cells.lookup x = some c) (ho : s.heap.get? c = some o) (hd : o.data = .cell (some v)) (hk : (compEnvC scope cl C env).scope.kind = .function) (hdb : (x == ("__debug__" : PySem.Str)) = false) (hn : (x == ("__classdict__" : PySem.Str)) = false) (h : Q v s) :
    wpAny M A (eval (.Name x pos) (compEnvC scope cl C env)) Q E s := wpAny_Name (wpAny_loadName_free hk hl hc ⟨o, ho, hd⟩ h hn) hdb
theorem wanted_cell {h₀ h : Heap} {L : Addr} {a b c d e f : Addr × Obj} {tl : Led} (N : News h₀ L h (a :: b :: c :: d :: e :: f :: tl)) : h.get? f.1 = some f.2 := (N f (by simp)).1
theorem wanted_every {h₀ h : Heap} {L : Addr} {a b c d e f : Addr × Obj} {tl : Led} (N : News h₀ L h (a :: b :: c :: d :: e :: f :: tl)) : h.get? c.1 = some c.2 := (N c (by simp)).1
theorem eq_same {w : World} {h₀ : Heap} {A : Around} {s : Shared} {L : Addr} {news : Led} {Q E : Value → Shared → Prop} {a b : Addr} {vs us : List Value} {ks : List PySem.Str} {n1 n2 : Nat} (N : News h₀ L s.heap news) (ha : (a, listOf (List.toArray vs) n1) ∈ news) (hb : (b, listOf (List.toArray us) n2) ∈ news) (i1 : StrsAre vs ks) (i2 : StrsAre us ks)
    (ok : ∀ x ∈ ks, x ∈ theNames) (hu : A.units + 64 < cLine) (q : Q (.bool true) s) : wpAny (model PySem.Challenge.pw_pq0447_01 w) A (compareOp .Eq (.ref a) (.ref b)) Q E s := by
  refine eq_two N ha hb i1 i2 (ok_names ok) (ok_names ok) hu ?_
  rw [decide_eq_true rfl]; exact q
theorem tops_names {us : List PySem.Str} {rs : List Rec} (h : RecsOk rs) : ∀ x ∈ topsOf us rs, x ∈ theNames := fun x hx => by
  unfold topsOf at hx
  obtain ⟨p, hp, rfl⟩ := List.mem_map.mp (List.mem_filter.mp hx).1
  obtain ⟨r, hr, e⟩ := List.mem_filterMap.mp hp
  exact h p (by rw [← show r = some p from e]; exact hr)
end Mine

/-! part LAW -/
namespace Mine
open _root_.PySem _root_.PySem.W _root_.PySem.Calls _root_.PyProof.Rows _root_.PySem.SeqAt
example : True := by w_top off; trivial
theorem make_callO {w : World} {H h₀ : Heap} {A : Around} {s : Shared} {L : Addr} {m : PySem.Str → Option Value} {news : Led} {C : Addr} {args : List Value} {a b c : Value} {Q E : Value → Shared → Prop} (MS : MakeSpec w H)
    (hbt : ∀ s x, (Mine.hd.heap_39 w.params).In s.heap → InitBinds w s x args a b c) (hl : args.length ≤ 10) (hC : ErrCls C) (R : Room A 3 50) (F : Fr h₀ L s.heap m) (N : News h₀ L s.heap news) (st : H.StaysIn h₀)
    (k : ∀ h' tk' e t dx od, Fr h₀ L h' m → News h₀ L h' ((e, excD C t dx) :: (dx, od) :: news) → (∀ p ∈ news, p.1 ≠ e) → (∀ p ∈ news, p.1 ≠ dx) → @Ne Nat dx e → Q (.ref e) { s with heap := h', toks := tk' }) :
    wpAny (model PySem.Challenge.pw_pq0447_01 w) A (call (.ref C) args) Q E s :=
  make_call MS hbt hl hC R F N st fun h' tk' e t dx _ _ _ F' N' x y z => k h' tk' e t dx _ F' N' x y z
/-- a name of the frame around a comprehension, a cell there -/
theorem comp_cell {M : Model} {A : Around} {E : Value → Shared → Prop} {s : Shared} {scope : Scope} {cl : List (PySem.Str × Addr)} {C : Addr} {env : Env} {x : PySem.Str} {pos : Pos} {c : Addr} {o : Obj} {v : Value} {Q : Value → Shared → Prop}
    (hl : (compEnvC scope cl C env).kindOf x = some .cell) (hc : cl.lookup x = some c) (ho : s.heap.get? c = some o) (hd : o.data = .cell (some v)) (hk : (compEnvC scope cl C env).scope.kind = .function) (hdb : (x == ("__debug__" : PySem.Str)) = false) (h : Q v s) :
    wpAny M A (eval (.Name x pos) (compEnvC scope cl C env)) Q E s := wpAny_Name (wpAny_loadName_cell hk hl hc ⟨o, ho, hd⟩ h) hdb
theorem off_hd {a d : Addr} {o : Obj} {r : Led} (l : ∀ p ∈ (a, o) :: r, p.1 ≠ d) : Off a d := l _ (.head _)
theorem off_tl {a d : Addr} {o : Obj} {r : Led} (l : ∀ p ∈ (a, o) :: r, p.1 ≠ d) : ∀ p ∈ r, p.1 ≠ d := fun p hp => l p (.tail _ hp)
theorem off_hd2 {a : Addr} {o : Obj} {r tl : Led} (l : ∀ q ∈ (a, o) :: r, ∀ p ∈ tl, q.1 ≠ p.1) : ∀ p ∈ tl, p.1 ≠ a := fun p hp e => l _ (.head _) p hp e.symm
theorem off_tl2 {a : Addr} {o : Obj} {r tl : Led} (l : ∀ q ∈ (a, o) :: r, ∀ p ∈ tl, q.1 ≠ p.1) : ∀ q ∈ r, ∀ p ∈ tl, q.1 ≠ p.1 := fun q hq => l q (.tail _ hq)
theorem st_any {M : Model} {A : Around} {α : Type} {t : Sem α} {Q : α → Shared → Prop} {E : Value → Shared → Prop} {h' h : Heap} {k' k : Nat} {g : Array GenState} {d : Drawn} {o : OsState}
    (H : ∀ n, wpAny M A t Q E ⟨h', g, d, n, o⟩) : wpAny M A t Q E ⟨h', Shared.gens ⟨h, g, d, k, o⟩, Shared.drawn ⟨h, g, d, k, o⟩, k', Shared.os ⟨h, g, d, k, o⟩⟩ := H _
theorem const_tok {M : Model} {A : Around} {env : Env} {x : PySem.Str} {kd : _} {pos : Pos} {Q E : Value → Shared → Prop} {h : Heap} {k : Nat} {g : Array GenState} {d : Drawn} {o : OsState}
    (H : ∀ n, Q (.str x n) ⟨h, g, d, n + 1, o⟩) : wpAny M A (eval (.Constant (.str x) kd pos) env) Q E ⟨h, g, d, k, o⟩ := wpAny_Constant_str (H k)
theorem want_in {l us : List PySem.Str} {k : PySem.Str} (h : ∀ x, x ∈ l ↔ x ∈ us) (m : k ∈ l) : false = !decide (k ∈ us) := by rw [decide_eq_true ((h k).mp m)]; rfl
theorem want_out {l us : List PySem.Str} {k : PySem.Str} (h : ∀ x, x ∈ l ↔ x ∈ us) (m : ¬ k ∈ l) : true = !decide (k ∈ us) := by rw [decide_eq_false fun z => m ((h k).mpr z)]; rfl
local macro_rules | `(tactic| k_qdec) => `(tactic| decide +kernel)
local macro_rules | `(tactic| k_ne) => `(tactic| (refine neN ?_; (try dsimp only); first | exact Off.ne (by with_reducible assumption) | exact Off.ne' (by with_reducible assumption) | fail "k_ne"))
local macro_rules | `(tactic| k_all) => `(tactic| first | exact List.forall_mem_nil _ | (refine' List.forall_mem_cons.mpr ⟨?a, ?b⟩; (case a => k_ne); (case b => k_all)) | (refine List.forall_mem_append.mpr ⟨?a, ?b⟩; (case a => k_all); (case b => k_all)) | with_reducible assumption | fail "k_all")
local macro_rules | `(tactic| walk_at "OffSplit") => `(tactic| first
  | (with_reducible rename (∀ p ∈ ((_, _) :: _ : Led), p.1 ≠ _) => l9; have q9 := off_hd l9; replace l9 := off_tl l9; walk_at "OffSplit")
  | (with_reducible rename (∀ q ∈ ((_, _) :: _ : Led), ∀ p ∈ (_ : Led), q.1 ≠ p.1) => l9; have q9 := off_hd2 l9; replace l9 := off_tl2 l9; walk_at "OffSplit")
  | skip)
local macro_rules | `(tactic| walk_at "MySub") => `(tactic| first | with_reducible assumption | exact List.mem_cons_self | (refine List.mem_cons_of_mem _ ?_; walk_at "MySub") | (refine List.mem_append_left _ ?_; walk_at "MySub") | (refine List.mem_append_right _ ?_; walk_at "MySub") | fail "MySub")
local macro_rules | `(tactic| walk_at "MySubs") => `(tactic| first | (refine List.forall_mem_cons.mpr ⟨?a, ?b⟩; (case a => walk_at "MySub"); (case b => walk_at "MySubs")) | exact fun p hp => by walk_at "MySub")
local macro_rules | `(tactic| walk_at "MyMem") => `(tactic| first | exact List.Mem.head _ | (refine List.Mem.tail _ ?_; walk_at "MyMem"))
set_option maxHeartbeats 200000000 in
theorem fin : PySem.Challenge.rw_pq0447_01.Holds := by
  refine hd ?_
  k_go0
  all_goals try k_fold
  rename Top _ _ _ _ _ _ => T0
  rename Frag.In _ _ => X0
  have G : Root _ _ _ _ _ _ := ⟨X0, T0⟩
  have RS := row_spec G
  have TS := take_spec G
  have PS := pars_spec G TS
  have IS : ItemsSpec _ _ 3 := items_of_item G TS (item_succ G TS (item_succ G TS (item_succ G TS (item_zero G TS))))
  have IN := inst_spec G (inner_spec G)
  have PN := parnames_spec G
  have OS := ord_spec G PN
  have MK := make_spec G (init_spec G)
  have CO := check_ok G PN
  have CB := check_bad G PN MK
  have DS := describe_spec G (place_spec G)
  have RO := refused_ok G CO
  have RB := refused_bad G CB DS
  have hr : Room callerA 20 200 := ⟨rfl, by decide, by decide⟩
  (repeat' (first | ((with_reducible show wpAny _ _ (exec (Stmt.For (Expr.Name ..) (Expr.Call ..) ..) _) _ _ _); (refine halt ?_)) | ((with_reducible show wpAny _ _ (eval (Expr.Dict [] [] ..) _) _ _ _); (k_dflt (refine' new_dict ?zqF ?zqN ?zqT ?_; (case zqF => k_asm); (case zqN => k_asm); (case zqT => exact Top.nolimit (by k_asm)); k_whole); intro zd zh zo zF zN zl1 zlo zhd; walk_at "OffSplit"; ((try k_sweep); (try (with_reducible refine st_any ?_; intro zk9))))) | ((with_reducible show wpAny _ _ (newList _) _ _ _); (k_dflt (refine' new_list ?zqF ?zqN ?_; (case zqF => k_asm); (case zqN => k_asm); k_whole); intro zl zh zn zF zN zl1; walk_at "OffSplit"; ((try k_sweep); (try (with_reducible refine st_any ?_; intro zk9))))) | (((with_reducible show wpAny _ _ (call (Value.ref 111) _) _ _ _); k_dflt (refine' row_call ?zqRS ?zqR ?zqF ?zqN ?zqst ?zqhl ?zqhi ?zqhlen ?_; (case zqRS => assumption); (case zqR => (refine Room.deeper (Room.weaken (by assumption) ?_ ?_) <;> omega)); (case zqF => k_asm); (case zqN => k_asm); (case zqst => exact fun _ _ e => e); (case zqhl => exact isList_keeps (by assumption) (Fr.keep (by k_asm))); (case zqhi => assumption); (case zqhlen => omega); k_whole); intro zh ztk zah zar zoh zorr zF zN zhO zhR zhne zl1 zl2; (replace zhne := Off.intro zhne); walk_at "OffSplit"; ((try k_sweep); (try (with_reducible refine st_any ?_; intro zk9))))) | ((with_reducible show wpAny _ _ (storeName _ _ _) _ _ _); (k_dflt (refine' cell_store ?zqF ?zqN ?zqc ?zqU ?zqd ?_ ?zqa ?zqb; (case zqa => exact rfl); (case zqb => exact rfl); (case zqF => k_asm); (case zqN => k_asm); (case zqc => exact rfl); (case zqU => k_updF); (case zqd => assumption); k_whole); intro zh zo zF zN zd; (try dsimp only at zN); ((try k_sweep); (try (with_reducible refine st_any ?_; intro zk9))))) | (k_unfold; (try dsimp only)) | (k_end; kc_close) | walk1 | (dsimp only; walk1) | (leave1; walk_say "STEP leave1"; (try dsimp only)) | fail "no step"))
  unfold Halt
  rename Fr _ _ _ _ => F1
  refine for_here F1 (by with_unfolding_all rfl) (by with_unfolding_all rfl) (by first | passes_own | with_unfolding_all passes_own) (fun _ => by with_unfolding_all rfl) ?_
  (repeat' (first | (((with_reducible show wpAny _ _ (call (Value.type "range") [Value.int _ _]) _ _ _); k_dflt (refine' range_p ?zqa ?zqb ?zqF ?zqN ?_; (case zqa => assumption); (case zqb => assumption); (case zqF => k_asm); (case zqN => k_asm); k_whole); intro zn zh ztk zad zu1 zu2 zu3 zhn zF zN zhr; ((try k_sweep); (try (with_reducible refine st_any ?_; intro zk9))))) | (((with_reducible show wpAny _ _ (call (Value.ref 118) _) _ _ _); k_dflt (refine' take_call ?zqTS ?zqR ?zqF ?zqN ?zqst ?zqh0 ?zqU ?zqhO ?zqhrow ?zqhK ?zqhw ?zqhw2 ?_; (case zqTS => assumption); (case zqR => (refine Room.deeper (Room.weaken (by assumption) ?_ ?_) <;> omega)); (case zqF => k_asm); (case zqN => k_asm); (case zqst => exact fun _ _ e => e); (case zqh0 => exact (News.fresh (by k_asm) (by k_mem))); (case zqU => k_updF); (case zqhO => assumption); (case zqhrow => exact rowAt_of (by k_asm) (by k_mem) (by assumption)); (case zqhK => omega); (case zqhw => decide); (case zqhw2 => decide); k_whole); intro zr zt zh ztk zoh zhr1 zhr2 zF zN zhO; (try dsimp only at zN); ((try k_sweep); (try (with_reducible refine st_any ?_; intro zk9))))) | (k_unfold; (try dsimp only)) | (k_end; kc_close) | walk1 | (dsimp only; walk1) | (leave1; walk_say "STEP leave1"; (try dsimp only)) | fail "no step"))
  rename Fr _ _ _ _ => F1
  rename News _ _ _ _ => N1
  rename IsRange _ _ _ _ _ _ _ _ => R1
  rename HandO _ _ _ => hO1
  refine for_rangeJ rfl R1 (by omega) F1 (reord N1) (LapInv _ _ _ _ _ _ _ _ _) ⟨rfl, rfl, rfl, _, [], _, _, _, [], [], rfl, hO1, usedD_nil (by assumption), (by assumption), (fun _ h => nomatch h), .nil, Nat.zero_le _, (fun _ h => nomatch h), (fun _ _ _ h => nomatch h)⟩ ?_ ?_
  · intro i t m₁ news₁ h tk I it P' hi hJ hI F₁ N₁ nxt rt
    obtain ⟨hha, hmo, hdu, oh, ms, n, evo, duo, tl, rs, rfl, hO, hud, hdd, hdk, hps, hml, hro, hoff⟩ := hJ
    walk_at "OffSplit"
    have o1 := hoff _ (.head _)
    have o2 := hoff _ (.tail _ (.head _))
    have o3 := hoff _ (.tail _ (.tail _ (.head _)))
    have o4 := hoff _ (.tail _ (.tail _ (.tail _ (.head _))))
    have o5 := hoff _ (.tail _ (.tail _ (.tail _ (.tail _ (.head _)))))
    have o6 := hoff _ (.tail _ (.tail _ (.tail _ (.tail _ (.tail _ (.head _))))))
    clear F1 N1 hO1 R1
    (repeat' (first | ((with_reducible show wpAny _ _ (eval (Expr.Name ..) _) _ _ _); (k_dflt (refine' name_any ?zqF ?zqv ?_ ?zqa ?zqb ?zqc; (case zqF => k_asm); (case zqa => exact rfl); (case zqb => exact rfl); (case zqv => first | assumption | fail "no"); (case zqc => decide); k_whole))) | ((with_reducible show wpAny _ _ (callWith _ (Value.builtin "list.append") ..) _ _ _); (with_unfolding_all refine PyProof.Rows.callWith_method1 ?_)) | ((with_reducible show wpAny _ _ (call (Value.builtin "list.append") _) _ _ _); (refine halt ?_)) | ((with_reducible show wpAny _ _ (binaryOp Operator.Add (Value.ref _) (Value.ref _)) _ _ _); (k_dflt (refine' add_ledR ?zqF ?zqN ?zqha ?zqhb ?zqhsz ?_; (case zqF => k_asm); (case zqN => k_asm); (case zqha => walk_at "MySub"); (case zqhb => walk_at "MySub"); (case zqhsz => ((have y1 := item_len (by assumption) (by assumption)); (have y2 := pairs_len (P := Par _) (by assumption)); omega)); k_whole); intro zh zr zn zex zF zN zne zhm; (try dsimp only at zN); (try simp only [List.nil_append, List.cons_append, List.append_nil, List.append_assoc] at zN zhm); walk_at "OffSplit"; ((try k_sweep); (try (with_reducible refine st_any ?_; intro zk9))))) | (((with_reducible show wpAny _ _ (call (Value.ref 125) _) _ _ _); k_dflt (refine' items_callR ?zqIS ?zqR ?zqF ?zqN ?zqst ?zqh0 ?zqh0u ?zqU ?zqU2 ?zqhO ?zqhU ?zqhrow ?zqhru ?zqhK ?_; (case zqIS => assumption); (case zqR => (refine Room.deeper (Room.weaken (by assumption) ?_ ?_) <;> omega)); (case zqF => k_asm); (case zqN => k_asm); (case zqst => exact fun _ _ e => e); (case zqh0 => exact (News.fresh (by k_asm) (by k_mem))); (case zqh0u => exact (News.fresh (by k_asm) (by k_mem))); (case zqU => k_updF); (case zqU2 => intro o; (try dsimp only); k_updF); (case zqhO => assumption); (case zqhU => exact usedO_mt); (case zqhrow => exact rowAt_of (by k_asm) (by k_mem) (by assumption)); (case zqhru => k_ne); (case zqhK => omega); k_whole); intro za zn zh ztk zoh zou zus ztl zvs zps zF zN zne zhO zhU zhn zhk zhm zhi zhs; (try dsimp only at zN); (try simp only [List.nil_append, List.cons_append, List.append_nil, List.append_assoc] at zN); walk_at "OffSplit"; ((try k_sweep); (try (with_reducible refine st_any ?_; intro zk9))))) | (((with_reducible show wpAny _ _ (call (Value.ref 139) _) _ _ _); k_dflt (refine' pars_callR ?zqPS ?zqR ?zqF ?zqN ?zqst ?zqh0 ?zqU ?zqhO ?zqhrow ?zqhK ?zqhsv ?_; (case zqPS => assumption); (case zqR => (refine Room.deeper (Room.weaken (by assumption) ?_ ?_) <;> omega)); (case zqF => k_asm); (case zqN => k_asm); (case zqst => exact fun _ _ e => e); (case zqh0 => exact (News.fresh (by k_asm) (by k_mem))); (case zqU => k_updF); (case zqhO => assumption); (case zqhrow => exact rowAt_of (by k_asm) (by k_mem) (by assumption)); (case zqhK => omega); (case zqhsv => first | exact .inl rfl | exact .inr rfl); k_whole); intro za zn zh ztk zoh ztl zvs zps zF zN zne zhO zhm zhp zhk zhl; (try dsimp only at zN); (try simp only [List.nil_append, List.cons_append, List.append_nil, List.append_assoc] at zN); walk_at "OffSplit"; ((try k_sweep); (try (with_reducible refine st_any ?_; intro zk9))))) | ((with_reducible show wpAny _ _ (newTuple _) _ _ _); (k_dflt (refine' new_tup ?zqF ?zqN ?zqz ?_; (case zqF => k_asm); (case zqN => k_asm); (case zqz => exact Nat.le_of_ble_eq_true rfl); k_whole); intro zD zh zF zN zl1; walk_at "OffSplit"; ((try k_sweep); (try (with_reducible refine st_any ?_; intro zk9))))) | ((with_reducible show wpAny _ _ (newList _) _ _ _); (k_dflt (refine' new_list ?zqF ?zqN ?_; (case zqF => k_asm); (case zqN => k_asm); k_whole); intro zl zh zn zF zN zl1; walk_at "OffSplit"; ((try k_sweep); (try (with_reducible refine st_any ?_; intro zk9))))) | (((with_reducible show wpAny _ _ (call (Value.ref 118) _) _ _ _); k_dflt (refine' take_call ?zqTS ?zqR ?zqF ?zqN ?zqst ?zqh0 ?zqU ?zqhO ?zqhrow ?zqhK ?zqhw ?zqhw2 ?_; (case zqTS => assumption); (case zqR => (refine Room.deeper (Room.weaken (by assumption) ?_ ?_) <;> omega)); (case zqF => k_asm); (case zqN => k_asm); (case zqst => exact fun _ _ e => e); (case zqh0 => exact (News.fresh (by k_asm) (by k_mem))); (case zqU => k_updF); (case zqhO => assumption); (case zqhrow => exact rowAt_of (by k_asm) (by k_mem) (by assumption)); (case zqhK => omega); (case zqhw => decide); (case zqhw2 => decide); k_whole); intro zr zt zh ztk zoh zhr1 zhr2 zF zN zhO; (try dsimp only at zN); ((try k_sweep); (try (with_reducible refine st_any ?_; intro zk9))))) | (k_unfold; (try dsimp only)) | (k_end; kc_close) | walk1 | (dsimp only; walk1) | (leave1; walk_say "STEP leave1"; (try dsimp only)) | fail "no step"))
    unfold Halt
    rename Fr _ _ _ _ => F2
    rename News _ _ _ _ => N2
    rename UsedO _ _ => hU2
    rename HandO _ _ _ => hO2
    rename (∀ x ∈ _, x ∈ theNames) => hn2
    obtain ⟨uv, un, hou, hus2, und⟩ := hU2
    subst hou
    obtain ⟨tl', htl, N3, t1, t2, t3, t4, t5, t6, t7, t8⟩ := collapse N2 (by k_all) (by k_all) (by k_all) (by k_all) (by k_all) (by k_all) (by k_all) (by k_all)
    have LM := lap_mod (tl := tl') (by rw [htl]; exact .head _) (by assumption) (by assumption) (by assumption) (by assumption) (by assumption) (by assumption) (by assumption) (by assumption) (by assumption) (by assumption) (by assumption) (by assumption) (by assumption)
      (fun p hp => by rw [htl]; walk_at "MySub") (fun p hp => by rw [htl]; walk_at "MySub") (fun p hp => by rw [htl]; walk_at "MySub") (fun p hp => by rw [htl]; walk_at "MySub")
    have hsub : ∀ p ∈ tl, p ∈ tl' := fun p hp => by rw [htl]; walk_at "MySub"
    have hMdl := LM.mdl hn2
    have ledB := led_at N3 (tl := tl') (fun p hp => by walk_at "MySub")
    have mkk := mark_of N3
    have hnm := nm_of LM (by assumption) (by assumption)
    have hml2 := pairs_len hps
    have hdl := due_len hdd hdk
    have hul := Nat.lt_of_le_of_lt (nodup_len (m := theNames) und hn2) (show theNames.length < 64 by decide)
    obtain ⟨m2, hm2, F3⟩ := Fr.gen F2
    have e1 : m2 (PySem.Str.ofString "hand") = some (.ref _) := (congrFun hm2 _).trans hha
    have e2 : m2 (PySem.Str.ofString "modules") = some (.ref _) := (congrFun hm2 _).trans hmo
    have e3 : m2 (PySem.Str.ofString "due") = some (.ref _) := (congrFun hm2 _).trans hdu
    have e4 : m2 (PySem.Str.ofString "used") = some (.ref _) := (congrFun hm2 _).trans rfl
    have e5 : m2 (PySem.Str.ofString "header") = some (.ref _) := (congrFun hm2 _).trans rfl
    have e6 : m2 (PySem.Str.ofString "inner") = some (.ref _) := (congrFun hm2 _).trans rfl
    have e7 : m2 (PySem.Str.ofString "module") = some (.ref _) := (congrFun hm2 _).trans rfl
    have e8 : m2 (PySem.Str.ofString "name") = some (.str _ _) := (congrFun hm2 _).trans rfl
    clear F2 N2 hm2
    refine append_any F3 N3 (by k_updF) (by omega) fun h4 n4 F4 N4 => ?_
    (try dsimp only at N4)
    clear F3 N3
    (repeat' (first | ((with_reducible show wpAny _ _ (compareOp CmpOp.NotEq (Value.ref _) (Value.ref _)) _ _ _); (k_dflt (refine' ne_sortedL ?zqN ?zqha ?zqhb ?zqi1 ?zqi2 ?zqp1 ?zqp2 ?zqs1 ?zqs2 ?zqpk ?zqhn ?zqhu ?_; (case zqN => k_asm); (case zqha => k_mem); (case zqhb => k_mem); (case zqi1 => assumption); (case zqi2 => assumption); (case zqp1 => assumption); (case zqp2 => assumption); (case zqs1 => assumption); (case zqs2 => assumption); (case zqpk => assumption); (case zqhn => assumption); (case zqhu => (exact Nat.le_of_ble_eq_true rfl)); k_whole))) | ((with_reducible show wpAny _ _ (call (Value.builtin "sorted") _) _ _ _); (k_dflt (refine' sorted_call ?zqF ?zqN ?zqhm ?zqhS ?zqz ?_; (case zqF => k_asm); (case zqN => k_asm); (case zqhm => k_mem); (case zqhS => assumption); (case zqz => assumption); k_whole); intro zh zr zvs zss ze zF zN zl zi zp zs; (try dsimp only at zN); walk_at "OffSplit"; ((try k_sweep); (try (with_reducible refine st_any ?_; intro zk9))))) | ((with_reducible show wpAny _ _ (setItem (Value.ref _) (Value.str _ _) _) _ _ _); (k_dflt (refine' set_str ?zqF ?zqN ?zqU ?zqd ?zqz ?_; (case zqF => k_asm); (case zqN => k_asm); (case zqU => k_updF); (case zqd => assumption); (case zqz => (rw [PySem.sizeLine_eq]; omega)); k_whole); intro zh zo zF zN zhd; (try dsimp only at zN); ((try k_sweep); (try (with_reducible refine st_any ?_; intro zk9))))) | (((with_reducible show wpAny _ _ (call (Value.ref 78) _) _ _ _); k_dflt (refine' inst_callL ?zqS ?zqx ?zqnd ?zqhn ?zqsub ?zqR ?zqF ?zqN ?zqst ?_; (case zqS => assumption); (case zqR => (refine Room.deeper (Room.weaken (by assumption) ?_ ?_) <;> omega)); (case zqF => k_asm); (case zqN => k_asm); (case zqst => exact fun _ _ e => e); (case zqx => assumption); (case zqnd => assumption); (case zqhn => assumption); (case zqsub => exact fun p hp => by walk_at "MySub"); k_whole); intro zh ztk zr zkv zks zn zF zN zl zi zp zz; (try dsimp only at zN); walk_at "OffSplit"; ((try k_sweep); (try (with_reducible refine st_any ?_; intro zk9))))) | ((with_reducible show wpAny _ _ (eval (Expr.Name ..) _) _ _ _); (k_dflt (refine' name_any ?zqF ?zqv ?_ ?zqa ?zqb ?zqc; (case zqF => k_asm); (case zqa => exact rfl); (case zqb => exact rfl); (case zqv => first | assumption | fail "no"); (case zqc => decide); k_whole))) | ((with_reducible show wpAny _ _ (exec (Stmt.For (Expr.Name ..) (Expr.Name ..) ..) _) _ _ _); (refine halt ?_)) | (k_unfold; (try dsimp only)) | (k_end; kc_close) | walk1 | (dsimp only; walk1) | (leave1; walk_say "STEP leave1"; (try dsimp only)) | fail "no step"))
    unfold Halt
    rename Fr _ _ _ _ => F5
    rename News _ _ _ _ => N5
    rename PySem.Obj.IsDictOf _ _ (stored _ _ _) => hdd5
    refine for_here F5 (by with_unfolding_all rfl) (by with_unfolding_all rfl) (by first | passes_own | with_unfolding_all passes_own) (fun _ => by with_unfolding_all rfl) ?_
    (repeat' (first | ((with_reducible show wpAny _ _ (eval (Expr.Name ..) _) _ _ _); (k_dflt (refine' name_any ?zqF ?zqv ?_ ?zqa ?zqb ?zqc; (case zqF => k_asm); (case zqa => exact rfl); (case zqb => exact rfl); (case zqv => first | assumption | fail "no"); (case zqc => decide); k_whole))) | (k_unfold; (try dsimp only)) | (k_end; kc_close) | walk1 | (dsimp only; walk1) | (leave1; walk_say "STEP leave1"; (try dsimp only)) | fail "no step"))
    obtain ⟨rest, hrest, N6, gu, gL, r1, r2, hcc⟩ := collapse2 N5 (by k_all) (by k_all)
    refine for_seq rfl (.inl ⟨_, gu, rfl, _, rfl⟩) gL r2 F5 N6 (EvInv _ _ uv (allUsed rs) _ _ rest) ⟨hus2, fun _ _ => rfl, _, rfl, by rw [take_zero_app]; exact hud⟩ ?_ ?_
    · intro i2 v2 m3 news3 m4 h4 tk4 own4 P4 hi4 hv4 hJ4 hne4 hx4 hm4 F7 N7 nxt4 rt4
      obtain ⟨hs4, hm5, evo4, rfl, hud4⟩ := hJ4
      obtain ⟨k9, t9, hk9, rfl⟩ := strs_at hs4 hv4
      obtain ⟨kvs, hkd, hkk, hkl⟩ := hud4.len
      have hin := List.mem_of_getElem? hk9
      rw [List.cons_append] at N7
      have q1 := (off_all2 hne4).1
      clear F5 N5 N6 hne4
      (repeat' (first | (((with_reducible show wpAny _ _ (eval (Expr.Name _ _) (envOfC _ _ _ _ _)) _ _ _); k_dflt (refine' cell_eval ?zqhl ?zqN ?zqhc ?zqhm ?zqhd ?zqhk ?zqhdb ?_; (case zqhl => exact rfl); (case zqN => k_asm); (case zqhc => exact rfl); (case zqhm => first | k_mem | walk_at "MySub"); (case zqhd => assumption); (case zqhk => exact rfl); (case zqhdb => decide); k_whole))) | ((with_reducible show wpAny _ _ (setItem (Value.ref _) (Value.str _ _) _) _ _ _); (k_dflt (refine' set_str ?zqF ?zqN ?zqU ?zqd ?zqz ?_; (case zqF => k_asm); (case zqN => k_asm); (case zqU => k_updF); (case zqd => assumption); (case zqz => (rw [PySem.sizeLine_eq]; omega)); k_whole); intro zh zo zF zN zhd; (try dsimp only at zN); ((try k_sweep); (try (with_reducible refine st_any ?_; intro zk9))))) | ((with_reducible show wpAny _ _ (eval (Expr.Name ..) _) _ _ _); (k_dflt (refine' name_any ?zqF ?zqv ?_ ?zqa ?zqb ?zqc; (case zqF => k_asm); (case zqa => exact rfl); (case zqb => exact rfl); (case zqv => first | assumption | fail "no"); (case zqc => decide); k_whole))) | (k_unfold; (try dsimp only)) | (k_end; kc_close) | walk1 | (dsimp only; walk1) | (leave1; walk_say "STEP leave1"; (try dsimp only)) | fail "no step"))
      rename Fr _ _ _ _ => F9
      rename News _ _ _ _ => N9
      rename PySem.Obj.IsDictOf _ _ (stored kvs _ _) => hd9
      refine nxt4 (news' := (_, _) :: rest) F9 N9 (fun q hq => .inl ?_) ⟨hs4, fun y hy => (hm4 y hy).trans (hm5 y hy), _, rfl, usedD_put hd9 hkk (fun x => ?_) (fun x hx => ?_)⟩
      · rcases List.mem_cons.mp hq with rfl | hq
        · exact .head _
        · exact .tail _ (List.mem_map_of_mem hq)
      · rw [take_snoc hk9]; simp [or_assoc]
      · rw [take_snoc hk9] at hx
        simp only [List.mem_append, List.mem_singleton] at hx
        obtain ⟨_, _, _, h3⟩ := hud4
        rcases hx with hx | hx | rfl
        · exact h3 x (List.mem_append_left _ hx)
        · exact h3 x (List.mem_append_right _ hx)
        · exact hn2 _ hin
    · intro h8 tk8 m8 news8 F8 N8 hJ8
      obtain ⟨_, hm8, evo8, rfl, hud8⟩ := hJ8
      rw [List.take_of_length_le (by rw [hus2.length]; exact Nat.le_refl _)] at hud8
      replace e1 := (hm8 _ (by decide)).trans e1
      replace e2 := (hm8 _ (by decide)).trans e2
      replace e3 := (hm8 _ (by decide)).trans e3
      replace e5 := (hm8 _ (by decide)).trans e5
      replace e6 := (hm8 _ (by decide)).trans e6
      replace e7 := (hm8 _ (by decide)).trans e7
      clear F5 N5 N6 gu gL r2 hcc e4 e8 hm8
      subst hrest
      (repeat' (first | ((with_reducible show wpAny _ _ (exec (Stmt.Assign _ (Expr.ListComp ..) ..) _) _ _ _); (k_dflt (refine' lc_assignM ?zqmk ?zqhh ?zqhsw ?zqhclos ?zqhcell ?zqhkind ?zqhnames ?zqhx ?zqhy ?zqhp ?zqhs ?_; (case zqmk => assumption); (case zqhh => exact rfl); (case zqhsw => with_unfolding_all rfl); (case zqhclos => exact closureFor_none (by decide)); (case zqhcell => decide); (case zqhkind => exact rfl); (case zqhnames => decide); (case zqhx => exact rfl); (case zqhy => exact rfl); (case zqhp => exact rfl); (case zqhs => exact fun _ => rfl); k_whole))) | ((with_reducible show wpAny _ _ (eval (Expr.Name ..) _) _ _ _); (k_dflt (refine' name_any ?zqF ?zqv ?_ ?zqa ?zqb ?zqc; (case zqF => k_asm); (case zqa => exact rfl); (case zqb => exact rfl); (case zqv => first | assumption | fail "no"); (case zqc => decide); k_whole))) | (k_unfold; (try dsimp only)) | (k_end; kc_close) | walk1 | (dsimp only; walk1) | (leave1; walk_say "STEP leave1"; (try dsimp only)) | fail "no step"))
      rename Fr _ _ _ _ => F10
      rename News _ _ _ _ => N10
      refine lc_front ledB (led_at N10 (fun p hp => by walk_at "MySub")) LM.pH LM.lH F10 N10 (seq_at LM.mH N10 (fun p hp => by walk_at "MySub")) ?_ ?_ ?_
      · intro C av u0 u1 u2 u3 b nm s₃ m₃ E' hav F3 N3 hm
        have X3 := X0.keeps F10.keep
        have T3 := T0.keeps F10.keep
        refine wpAny_tests_one ?_
        clear F10 N10
        cases b with
        | true =>
          have hk : parKd true = PySem.Str.ofString "parameter" := rfl
          rw [hk] at hav
          (repeat' (first | (((with_reducible show wpAny _ _ (subscriptTail _ _ (Value.ref _) (Value.int 2 _)) _ _ _); k_dflt (refine' item_at (k := 2) ?zqt ?zqhk ?zqhx ?_; (case zqt => exact IsTup.keeps (by with_reducible assumption) (Fr.keep (by k_asm))); (case zqhk => decide); (case zqhx => exact rfl); k_whole))) | ((with_reducible show wpAny _ _ (eval (Expr.Name ..) _) _ _ _); (k_dflt (refine' name_any ?zqF ?zqv ?_ ?zqa ?zqb ?zqc; (case zqF => k_asm); (case zqa => exact rfl); (case zqb => exact rfl); (case zqv => first | assumption | fail "no"); (case zqc => decide); k_whole))) | (k_unfold; (try dsimp only)) | (k_end; kc_close) | walk1 | (dsimp only; walk1) | (leave1; walk_say "STEP leave1"; (try dsimp only)) | fail "no step"))
          exact keeps_refl
        | false =>
          have hk : parKd false = PySem.Str.ofString "localparam" := rfl
          rw [hk] at hav
          (repeat' (first | (((with_reducible show wpAny _ _ (subscriptTail _ _ (Value.ref _) (Value.int 2 _)) _ _ _); k_dflt (refine' item_at (k := 2) ?zqt ?zqhk ?zqhx ?_; (case zqt => exact IsTup.keeps (by with_reducible assumption) (Fr.keep (by k_asm))); (case zqhk => decide); (case zqhx => exact rfl); k_whole))) | ((with_reducible show wpAny _ _ (eval (Expr.Name ..) _) _ _ _); (k_dflt (refine' name_any ?zqF ?zqv ?_ ?zqa ?zqb ?zqc; (case zqF => k_asm); (case zqa => exact rfl); (case zqb => exact rfl); (case zqv => first | assumption | fail "no"); (case zqc => decide); k_whole))) | (k_unfold; (try dsimp only)) | (k_end; kc_close) | walk1 | (dsimp only; walk1) | (leave1; walk_say "STEP leave1"; (try dsimp only)) | fail "no step"))
          exact keeps_refl
      · intro C av u0 u1 u2 u3 b nm s₃ m₃ E' hav F3 N3 hm
        clear F10 N10
        (repeat' (first | (((with_reducible show wpAny _ _ (subscriptTail _ _ (Value.ref _) (Value.int 5 _)) _ _ _); k_dflt (refine' item_at (k := 5) ?zqt ?zqhk ?zqhx ?_; (case zqt => exact IsTup.keeps (by with_reducible assumption) (Fr.keep (by k_asm))); (case zqhk => decide); (case zqhx => exact rfl); k_whole))) | ((with_reducible show wpAny _ _ (eval (Expr.Name ..) _) _ _ _); (k_dflt (refine' name_any ?zqF ?zqv ?_ ?zqa ?zqb ?zqc; (case zqF => k_asm); (case zqa => exact rfl); (case zqb => exact rfl); (case zqv => first | assumption | fail "no"); (case zqc => decide); k_whole))) | (k_unfold; (try dsimp only)) | (k_end; kc_close) | walk1 | (dsimp only; walk1) | (leave1; walk_say "STEP leave1"; (try dsimp only)) | fail "no step"))
        exact keeps_refl
      · intro D11 h11 tk11 ysF nF F11 N11 l11 hfs
        clear F10 N10
        walk_at "OffSplit"
        (repeat' (first | ((with_reducible show wpAny _ _ (exec (Stmt.Assign _ (Expr.ListComp ..) ..) _) _ _ _); (k_dflt (refine' lc_assignM ?zqmk ?zqhh ?zqhsw ?zqhclos ?zqhcell ?zqhkind ?zqhnames ?zqhx ?zqhy ?zqhp ?zqhs ?_; (case zqmk => assumption); (case zqhh => exact rfl); (case zqhsw => with_unfolding_all rfl); (case zqhclos => exact closureFor_none (by decide)); (case zqhcell => decide); (case zqhkind => exact rfl); (case zqhnames => decide); (case zqhx => exact rfl); (case zqhy => exact rfl); (case zqhp => exact rfl); (case zqhs => exact fun _ => rfl); k_whole))) | ((with_reducible show wpAny _ _ (eval (Expr.Name ..) _) _ _ _); (k_dflt (refine' name_any ?zqF ?zqv ?_ ?zqa ?zqb ?zqc; (case zqF => k_asm); (case zqa => exact rfl); (case zqb => exact rfl); (case zqv => first | assumption | fail "no"); (case zqc => decide); k_whole))) | (k_unfold; (try dsimp only)) | (k_end; kc_close) | walk1 | (dsimp only; walk1) | (leave1; walk_say "STEP leave1"; (try dsimp only)) | fail "no step"))
        rename Fr _ _ _ _ => F12
        rename News _ _ _ _ => N12
        refine lc_front ledB (led_at N12 (fun p hp => by walk_at "MySub")) LM.pQ LM.lQ F12 N12 (seq_at LM.mQ N12 (fun p hp => by walk_at "MySub")) ?_ ?_ ?_
        · intro C av u0 u1 u2 u3 b nm s₃ m₃ E' hav F3 N3 hm
          have X3 := X0.keeps F12.keep
          have T3 := T0.keeps F12.keep
          refine wpAny_tests_one ?_
          clear F12 N12
          cases b with
          | true =>
            have hk : parKd true = PySem.Str.ofString "parameter" := rfl
            rw [hk] at hav
            (repeat' (first | (((with_reducible show wpAny _ _ (subscriptTail _ _ (Value.ref _) (Value.int 2 _)) _ _ _); k_dflt (refine' item_at (k := 2) ?zqt ?zqhk ?zqhx ?_; (case zqt => exact IsTup.keeps (by with_reducible assumption) (Fr.keep (by k_asm))); (case zqhk => decide); (case zqhx => exact rfl); k_whole))) | ((with_reducible show wpAny _ _ (eval (Expr.Name ..) _) _ _ _); (k_dflt (refine' name_any ?zqF ?zqv ?_ ?zqa ?zqb ?zqc; (case zqF => k_asm); (case zqa => exact rfl); (case zqb => exact rfl); (case zqv => first | assumption | fail "no"); (case zqc => decide); k_whole))) | (k_unfold; (try dsimp only)) | (k_end; kc_close) | walk1 | (dsimp only; walk1) | (leave1; walk_say "STEP leave1"; (try dsimp only)) | fail "no step"))
            exact keeps_refl
          | false =>
            have hk : parKd false = PySem.Str.ofString "localparam" := rfl
            rw [hk] at hav
            (repeat' (first | (((with_reducible show wpAny _ _ (subscriptTail _ _ (Value.ref _) (Value.int 2 _)) _ _ _); k_dflt (refine' item_at (k := 2) ?zqt ?zqhk ?zqhx ?_; (case zqt => exact IsTup.keeps (by with_reducible assumption) (Fr.keep (by k_asm))); (case zqhk => decide); (case zqhx => exact rfl); k_whole))) | ((with_reducible show wpAny _ _ (eval (Expr.Name ..) _) _ _ _); (k_dflt (refine' name_any ?zqF ?zqv ?_ ?zqa ?zqb ?zqc; (case zqF => k_asm); (case zqa => exact rfl); (case zqb => exact rfl); (case zqv => first | assumption | fail "no"); (case zqc => decide); k_whole))) | (k_unfold; (try dsimp only)) | (k_end; kc_close) | walk1 | (dsimp only; walk1) | (leave1; walk_say "STEP leave1"; (try dsimp only)) | fail "no step"))
            exact keeps_refl
        · intro C av u0 u1 u2 u3 b nm s₃ m₃ E' hav F3 N3 hm
          clear F12 N12
          (repeat' (first | (((with_reducible show wpAny _ _ (subscriptTail _ _ (Value.ref _) (Value.int 5 _)) _ _ _); k_dflt (refine' item_at (k := 5) ?zqt ?zqhk ?zqhx ?_; (case zqt => exact IsTup.keeps (by with_reducible assumption) (Fr.keep (by k_asm))); (case zqhk => decide); (case zqhx => exact rfl); k_whole))) | ((with_reducible show wpAny _ _ (eval (Expr.Name ..) _) _ _ _); (k_dflt (refine' name_any ?zqF ?zqv ?_ ?zqa ?zqb ?zqc; (case zqF => k_asm); (case zqa => exact rfl); (case zqb => exact rfl); (case zqv => first | assumption | fail "no"); (case zqc => decide); k_whole))) | (k_unfold; (try dsimp only)) | (k_end; kc_close) | walk1 | (dsimp only; walk1) | (leave1; walk_say "STEP leave1"; (try dsimp only)) | fail "no step"))
          exact keeps_refl
        · intro D13 h13 tk13 ysQ nQ F13 N13 l13 hqs
          clear F12 N12
          walk_at "OffSplit"
          have kf1 := front_sub LM.kH
          have kf2 := front_sub LM.kQ
          have kf3 : ∀ x ∈ front _ ++ front _, x ∈ theParams := fun x hx => (List.mem_append.mp hx).elim (kf1 x) (kf2 x)
          have kl1 := Nat.le_trans front_nil LM.lH
          have kl2 := Nat.le_trans front_nil LM.lQ
          have mk2 : DcMark (fun _ => true) wordKey (fun _ _ => True) := ⟨⟩
          (repeat' (first | ((with_reducible show wpAny _ _ (exec (Stmt.Assign _ (Expr.DictComp ..) ..) _) _ _ _); (k_dflt (refine' dc_assign ?zqmk ?zqhh ?zqhsw ?zqhclos ?zqhcell ?zqhkind ?zqhnames ?zqhx ?zqhy ?zqhp ?zqhs ?_; (case zqmk => assumption); (case zqhh => exact rfl); (case zqhsw => with_unfolding_all rfl); (case zqhclos => exact closureFor_none (by decide)); (case zqhcell => decide); (case zqhkind => exact rfl); (case zqhnames => decide); (case zqhx => exact rfl); (case zqhy => exact rfl); (case zqhp => exact rfl); (case zqhs => exact fun _ => rfl); k_whole))) | ((with_reducible show wpAny _ _ (compareOp CmpOp.Eq (Value.ref _) (Value.ref _)) _ _ _); (k_dflt (refine' eq_nil ?zqN ?zqha ?zqhb ?zqi1 ?zqok ?zqhu ?_ ?_; (case zqN => k_asm); (case zqha => k_mem); (case zqhb => k_mem); (case zqi1 => assumption); (case zqok => assumption); (case zqhu => (exact Nat.le_of_ble_eq_true rfl)); k_whole); intro zhz9)) | ((with_reducible show wpAny _ _ (compareOp CmpOp.NotEq (Value.ref _) (Value.ref _)) _ _ _); (k_dflt (refine' ne_sameP ?zqN ?zqha ?zqhb ?zqi1 ?zqi2 ?zqe ?zqok ?zqhu ?_; (case zqN => k_asm); (case zqha => k_mem); (case zqhb => k_mem); (case zqi1 => assumption); (case zqi2 => assumption); (case zqe => (first | with_reducible exact rfl | exact if_pos (by assumption) | exact if_neg (by assumption))); (case zqok => assumption); (case zqhu => (exact Nat.le_of_ble_eq_true rfl)); k_whole))) | ((with_reducible show wpAny _ _ (binaryOp Operator.Add (Value.ref _) (Value.ref _)) _ _ _); (k_dflt (refine' add_listR ?zqF ?zqN ?zqha ?zqhb ?zqi1 ?zqi2 ?zqhz ?_; (case zqF => k_asm); (case zqN => k_asm); (case zqha => k_mem); (case zqhb => k_mem); (case zqi1 => assumption); (case zqi2 => assumption); (case zqhz => omega); k_whole); intro zh zr zn zF zN zl zi; (try dsimp only at zN); walk_at "OffSplit"; ((try k_sweep); (try (with_reducible refine st_any ?_; intro zk9))))) | (((with_reducible show wpAny _ _ (call (Value.ref 97) _) _ _ _); k_dflt (refine' ord_callL ?zqS ?zqx ?zqsub ?zqR ?zqF ?zqN ?zqst ?_; (case zqS => assumption); (case zqR => (refine Room.deeper (Room.weaken (by assumption) ?_ ?_) <;> omega)); (case zqF => k_asm); (case zqN => k_asm); (case zqst => exact fun _ _ e => e); (case zqx => assumption); (case zqsub => exact fun p hp => by walk_at "MySub"); k_whole); intro zh ztk zr zvs zn zF zN zl zi; (try dsimp only at zN); walk_at "OffSplit"; ((try k_sweep); (try (with_reducible refine st_any ?_; intro zk9))))) | (((with_reducible show wpAny _ _ (call (Value.ref 92) _) _ _ _); k_dflt (refine' parnames_callL ?zqS ?zqx ?zqsub ?zqR ?zqF ?zqN ?zqst ?_; (case zqS => assumption); (case zqR => (refine Room.deeper (Room.weaken (by assumption) ?_ ?_) <;> omega)); (case zqF => k_asm); (case zqN => k_asm); (case zqst => exact fun _ _ e => e); (case zqx => assumption); (case zqsub => exact fun p hp => by walk_at "MySub"); k_whole); intro zh ztk zr zvs zn zF zN zl zi; (try dsimp only at zN); walk_at "OffSplit"; ((try k_sweep); (try (with_reducible refine st_any ?_; intro zk9))))) | ((with_reducible show wpAny _ _ (eval (Expr.Name ..) _) _ _ _); (k_dflt (refine' name_any ?zqF ?zqv ?_ ?zqa ?zqb ?zqc; (case zqF => k_asm); (case zqa => exact rfl); (case zqb => exact rfl); (case zqv => first | assumption | fail "no"); (case zqc => decide); k_whole))) | ((with_reducible show wpAny _ _ (newList _) _ _ _); (k_dflt (refine' new_list ?zqF ?zqN ?_; (case zqF => k_asm); (case zqN => k_asm); k_whole); intro zl zh zn zF zN zl1; walk_at "OffSplit"; ((try k_sweep); (try (with_reducible refine st_any ?_; intro zk9))))) | (k_unfold; (try dsimp only)) | (k_end; kc_close) | walk1 | (dsimp only; walk1) | (leave1; walk_say "STEP leave1"; (try dsimp only)) | fail "no step"))
          all_goals try exact (fun _ _ => True : Value → Shared → Prop)
          all_goals (
            rename Fr _ _ _ _ => F14
            rename News _ _ _ _ => N14
            rename StrsAre _ (front _ ++ front _) => i14
            refine dc_srcA F14 N14 (.inl (News.isList N14 (.head _))) (by rw [i14.length, sizeLine_eq, List.length_append]; omega) (Top.nolimit T0) ⟨?_, ?_, ?_⟩ ?_
            · intro C v s₃ m₃ E' hv F3 N3 hm
              clear F14 N14
              k_steps
              all_goals first | exact keeps_refl | exact ⟨rfl, keeps_refl⟩
            · intro C v s₃ m₃ E' hv _ F3 N3 hm
              obtain ⟨j, hj⟩ := List.getElem?_of_mem hv
              obtain ⟨k9, t9, hk9, rfl⟩ := strs_at i14 hj
              clear F14 N14
              (repeat' (first | ((with_reducible show wpAny _ _ (eval (Expr.Name ..) _) _ _ _); (k_dflt (refine' name_any ?zqF ?zqv ?_ ?zqa ?zqb ?zqc; (case zqF => k_asm); (case zqa => exact rfl); (case zqb => exact rfl); (case zqv => first | assumption | fail "no"); (case zqc => decide); k_whole))) | (k_unfold; (try dsimp only)) | (k_end; kc_close) | walk1 | (dsimp only; walk1) | (leave1; walk_say "STEP leave1"; (try dsimp only)) | fail "no step"))
              all_goals first | exact keeps_refl | exact ⟨k9, strKind_is _ _ _ _, t9, rfl⟩ | exact ⟨⟨k9, strKind_is _ _ _ _, t9, rfl⟩, keeps_refl⟩
            · intro C v s₃ m₃ E' hv _ F3 N3 hm
              clear F14 N14
              k_steps
              all_goals first | exact keeps_refl | exact trivial | exact ⟨trivial, keeps_refl⟩
            · intro D15 h15 tk15 o15 kvs15 F15 N15 l15 lo15 hd15 hst15
              clear F14 N14
              walk_at "OffSplit"
              have hall : ∀ k ∈ kvs15.map (·.1), k ∈ front _ ++ front _ := fun k hk => let ⟨t, ht⟩ := storedAll_keys hst15 k hk; strs_mem i14 (List.mem_filter.mp ht).1
              (repeat' (first | (((with_reducible show wpAny _ _ (call (Value.ref 146) _) _ _ _); refine halt ?_)) | ((with_reducible show wpAny _ _ (eval (Expr.Name ..) _) _ _ _); (k_dflt (refine' name_any ?zqF ?zqv ?_ ?zqa ?zqb ?zqc; (case zqF => k_asm); (case zqa => exact rfl); (case zqb => exact rfl); (case zqv => first | assumption | fail "no"); (case zqc => decide); k_whole))) | (k_unfold; (try dsimp only)) | (k_end; kc_close) | walk1 | (dsimp only; walk1) | (leave1; walk_say "STEP leave1"; (try dsimp only)) | fail "no step"))
              unfold Halt
              rename Fr _ _ _ _ => F16
              rename News _ _ _ _ => N16
              refine' ok_callL ?zS ?zx ?zsub ?zR F16 N16 ?zst ?zhd ?zhk ?zlo ?zhall ?_
              case zS => assumption
              case zR => (refine Room.deeper (Room.weaken (by assumption) ?_ ?_) <;> omega)
              case zst => exact fun _ _ e => e
              case zx => assumption
              case zsub => exact fun p hp => by walk_at "MySub"
              case zhd => k_mem
              case zhk => assumption
              case zlo => assumption
              case zhall => assumption
              intro h17 tk17 r17 n17 k1 k2 k3 k4 F17 N17 l17
              walk_at "OffSplit"
              clear F16 N16
              (repeat' (first | (((with_reducible show wpAny _ _ (call (Value.ref 146) _) _ _ _); refine halt ?_)) | ((with_reducible show wpAny _ _ (eval (Expr.Name ..) _) _ _ _); (k_dflt (refine' name_any ?zqF ?zqv ?_ ?zqa ?zqb ?zqc; (case zqF => k_asm); (case zqa => exact rfl); (case zqb => exact rfl); (case zqv => first | assumption | fail "no"); (case zqc => decide); k_whole))) | ((with_reducible show wpAny _ _ (newTuple _) _ _ _); (k_dflt (refine' new_tup ?zqF ?zqN ?zqz ?_; (case zqF => k_asm); (case zqN => k_asm); (case zqz => exact Nat.le_of_ble_eq_true rfl); k_whole); intro zD zh zF zN zl1; walk_at "OffSplit"; ((try k_sweep); (try (with_reducible refine st_any ?_; intro zk9))))) | (k_unfold; (try dsimp only)) | (k_end; kc_close) | walk1 | (dsimp only; walk1) | (leave1; walk_say "STEP leave1"; (try dsimp only)) | fail "no step"))
              unfold Halt
              rename Fr _ _ _ _ => F18
              rename News _ _ _ _ => N18
              refine' bad_callL ?yS ?yx ?ysub ?yR ?yf1 ?yf2 ?yf3 ?yF ?yN ?yst ?yhd ?yhk ?ylo ?_
              case yf1 => exact rfl
              case yf2 => exact (show ScopeKind.function ≠ ScopeKind.module by decide)
              case yf3 => exact rfl
              case yF => exact F18
              case yN => exact N18
              case yS => assumption
              case yR => (refine Room.deeper (Room.weaken (by assumption) ?_ ?_) <;> omega)
              case yst => exact fun _ _ e => e
              case yx => assumption
              case ysub => exact fun p hp => by walk_at "MySub"
              case yhd => k_mem
              case yhk => assumption
              case ylo => assumption
              intro h19 tk19 r19 n19 q1 q2 q3 q4 F19 N19 l19
              walk_at "OffSplit"
              clear F18 N18
              (repeat' (first | (((with_reducible show wpAny _ _ (call (Value.ref 32) _) _ _ _); refine halt ?_)) | ((with_reducible show wpAny _ _ (eval (Expr.Name ..) _) _ _ _); (k_dflt (refine' name_any ?zqF ?zqv ?_ ?zqa ?zqb ?zqc; (case zqF => k_asm); (case zqa => exact rfl); (case zqb => exact rfl); (case zqv => first | assumption | fail "no"); (case zqc => decide); k_whole))) | ((with_reducible show wpAny _ _ (callWith _ (Value.builtin "list.append") ..) _ _ _); (with_unfolding_all refine PyProof.Rows.callWith_method1 ?_)) | ((with_reducible show wpAny _ _ (newTuple _) _ _ _); (k_dflt (refine' new_tup ?zqF ?zqN ?zqz ?_; (case zqF => k_asm); (case zqN => k_asm); (case zqz => exact Nat.le_of_ble_eq_true rfl); k_whole); intro zD zh zF zN zl1; walk_at "OffSplit"; ((try k_sweep); (try (with_reducible refine st_any ?_; intro zk9))))) | (((with_reducible show wpAny _ _ (call (Value.ref 118) _) _ _ _); k_dflt (refine' take_call ?zqTS ?zqR ?zqF ?zqN ?zqst ?zqh0 ?zqU ?zqhO ?zqhrow ?zqhK ?zqhw ?zqhw2 ?_; (case zqTS => assumption); (case zqR => (refine Room.deeper (Room.weaken (by assumption) ?_ ?_) <;> omega)); (case zqF => k_asm); (case zqN => k_asm); (case zqst => exact fun _ _ e => e); (case zqh0 => exact (News.fresh (by k_asm) (by k_mem))); (case zqU => k_updF); (case zqhO => assumption); (case zqhrow => exact rowAt_of (by k_asm) (by k_mem) (by assumption)); (case zqhK => omega); (case zqhw => decide); (case zqhw2 => decide); k_whole); intro zr zt zh ztk zoh zhr1 zhr2 zF zN zhO; (try dsimp only at zN); ((try k_sweep); (try (with_reducible refine st_any ?_; intro zk9))))) | (k_unfold; (try dsimp only)) | (k_end; kc_close) | walk1 | (dsimp only; walk1) | (leave1; walk_say "STEP leave1"; (try dsimp only)) | fail "no step"))
              · unfold Halt
                rename Fr _ _ _ _ => F20
                rename News _ _ _ _ => N20
                refine' make_callO ?xS ?xb ?xl ?xC ?xR F20 N20 ?xst ?_
                case xS => assumption
                case xb => exact fun _ _ X => init_binds1 X
                case xl => exact Nat.le_of_ble_eq_true rfl
                case xC => exact .inl rfl
                case xR => (refine Room.deeper (Room.weaken (by assumption) ?_ ?_) <;> omega)
                case xst => exact fun _ _ e => e
                intro h21 tk21 e21 t21 dx21 od21 F21 N21 l21 l22 ne21
                replace ne21 := Off.intro ne21
                walk_at "OffSplit"
                clear F20 N20
                (repeat' (first | ((with_reducible show wpAny _ _ (call (Value.builtin "list.append") _) _ _ _); (refine halt ?_)) | (k_unfold; (try dsimp only)) | (k_end; kc_close) | walk1 | (dsimp only; walk1) | (leave1; walk_say "STEP leave1"; (try dsimp only)) | fail "no step"))
                unfold Halt
                rename Fr _ _ _ _ => F22
                rename News _ _ _ _ => N22
                refine append_any F22 N22 (by k_updF) (by simp only [List.length_append, List.length_singleton]; omega) fun h23 n23 F23 N23 => ?_
                (try dsimp only at N23)
                clear F22 N22
                k_steps
                rename HandO _ _ _ => hO23
                rename Fr _ _ _ _ => F24
                rename News _ _ _ _ => N24
                refine nxt (news' := (_, _) :: (_, _) :: (_, _) :: (_, _) :: (_, _) :: (_, _) :: (e21, excD 32 t21 dx21) :: (dx21, od21) :: tl') F24 ?_ ?_
                  ⟨e1, e2, e3, _, ms ++ [_] ++ [.ref e21], n23, _, _, (e21, excD 32 t21 dx21) :: (dx21, od21) :: tl', rs ++ [some (_, _)] ++ [none], rfl, hO23.mono (by omega), used_stepN (used_step hud8), due_stepN (len_step hml2) (due_step hml2 hdd5), due_keysN (len_step hml2) (due_keys hml2 hdk hnm), err_step (elt_step hps hsub hMdl), len_two2 hml, recs_stepN (recs_step hro hnm), offL6 (by k_all) (by k_all) (by k_all) (by k_all) (by k_all) (by k_all)⟩
                · refine News.sub' N24 ?_
                  iterate 9 (refine List.forall_mem_cons.mpr ⟨by k_mem, ?_⟩)
                  exact fun p hp => by repeat (first | exact hp | refine List.Mem.tail _ ?_)
                · k_all
              · rename HandO _ _ _ => hO19
                rename Fr _ _ _ _ => F20
                rename News _ _ _ _ => N20
                refine nxt (news' := (_, _) :: (_, _) :: (_, _) :: (_, _) :: (_, _) :: (_, _) :: tl') F20 ?_ ?_
                  ⟨e1, e2, e3, _, ms ++ [_], n4, _, _, tl', rs ++ [some (_, _)], rfl, hO19.mono (by omega), used_step hud8, due_step hml2 hdd5, due_keys hml2 hdk hnm, elt_step hps hsub hMdl, len_two hml, recs_step hro hnm, offL6 t1 t2 t3 t4 t5 t6⟩
                · refine News.sub' N20 ?_
                  iterate 7 (refine List.forall_mem_cons.mpr ⟨by k_mem, ?_⟩)
                  exact fun p hp => by repeat (first | exact hp | refine List.Mem.tail _ ?_)
                · k_all)
  · intro h9 tk9 m9 news9 F9 N9 hJ9
    obtain ⟨hha, hmo, hdu, oh, ms, n, evo, duo, tl, rs, rfl, hO, hud, hdd, hdk, hps, hml, hro, hoff⟩ := hJ9
    have TO := tops_spec G IN
    have MO := mods_spec G
    clear F1 N1 R1
    have lch : LcHalt := ⟨⟩
    (repeat' (first | ((with_reducible show wpAny _ _ (exec (Stmt.Assign _ (Expr.ListComp ..) ..) _) _ _ _); ((have zhh9 : LcHalt := by with_reducible assumption); clear zhh9; refine halt ?_)) | (k_unfold; (try dsimp only)) | (k_end; kc_close) | walk1 | (dsimp only; walk1) | (leave1; walk_say "STEP leave1"; (try dsimp only)) | fail "no step"))
    unfold Halt
    rename Fr _ _ _ _ => F10
    rename News _ _ _ _ => N10
    have mw := mark_wanted N10 (allUsed rs)
    refine lc_assignM mw rfl (by with_unfolding_all rfl) (by with_unfolding_all rfl) (by decide) rfl (by decide) rfl rfl rfl (fun _ => rfl) ?_
    (repeat' (first | ((with_reducible show wpAny _ _ (eval (Expr.Name ..) _) _ _ _); (k_dflt (refine' name_any ?zqF ?zqv ?_ ?zqa ?zqb ?zqc; (case zqF => k_asm); (case zqa => exact rfl); (case zqb => exact rfl); (case zqv => first | assumption | fail "no"); (case zqc => decide); k_whole))) | (k_unfold; (try dsimp only)) | (k_end; kc_close) | walk1 | (dsimp only; walk1) | (leave1; walk_say "STEP leave1"; (try dsimp only)) | fail "no step"))
    rename Fr _ _ _ _ => F11
    rename News _ _ _ _ => N11
    have led1 := led_at N11 (tl := tl) (fun p hp => by walk_at "MySub")
    have led0 := led1
    obtain ⟨kvs, hkd, hkk, hkl⟩ := hud.len
    have hlen := pairs_len hps
    refine lc_srcA F11 N11 (items := ms) (.inl (News.isList N11 (by k_mem))) (by rw [sizeLine_eq]; omega) ?_ ?_ ?_
    · intro C v s₃ m₃ E' hv F3 N3 hm
      obtain ⟨j, hj⟩ := List.getElem?_of_mem hv
      obtain ⟨r, _, hel⟩ := pairs_get hps hj
      have X3 := X0.keeps F11.keep
      have T3 := T0.keeps F11.keep
      refine wpAny_tests_one ?_
      have hcc := wanted_cell N11
      have hev := wanted_every N11
      cases r with
      | none =>
        rw [want_none led0 hel]
        obtain ⟨a, t, dx, odx, rfl, m1, m2⟩ := hel
        have ha := led1 _ m1
        have hdx := led1 _ m2
        dsimp only at ha hdx
        clear F11 N11
        dsimp only at hcc hev
        (repeat' (first | ((with_reducible show wpAny _ _ (call (Value.builtin "isinstance") _) _ _ _); (k_dflt (first | (refine' isi_tuple ?zqh ?_; (case zqh => exact Fr.keep (by k_asm) _ _ (by with_reducible assumption)); k_whole) | (refine' err_isi (ps := _) ?zqX ?zqha ?zqhd ?_; (case zqX => exact Frag.In.keeps (by k_asm) (Fr.keep (by k_asm))); (case zqha => exact Fr.keep (by k_asm) _ _ (by with_reducible assumption)); (case zqhd => exact Fr.keep (by k_asm) _ _ (by with_reducible assumption)); k_whole) | fail "isinstance"))) | ((with_reducible show wpAny _ _ (eval (Expr.Name ..) _) _ _ _); (k_dflt (refine' name_any ?zqF ?zqv ?_ ?zqa ?zqb ?zqc; (case zqF => k_asm); (case zqa => exact rfl); (case zqb => exact rfl); (case zqv => first | assumption | fail "no"); (case zqc => decide); k_whole))) | walk1))
        all_goals (first | exact keeps_refl | exact trivial | exact want_in hkk (by with_reducible assumption) | exact want_out hkk (by with_reducible assumption))
      | some p =>
        rw [(want_some (p := p) led0 hel).1]
        obtain ⟨hv, bv, bvs, ps, ⟨t0, t1, t2, x4, y6, hmt⟩, _⟩ := hel
        obtain ⟨a, na, rfl, ha⟩ := tup_at led1 hmt
        clear F11 N11
        dsimp only at hcc hev
        (repeat' (first | ((with_reducible show wpAny _ _ (compareOp CmpOp.NotIn (Value.str _ _) (Value.ref _)) _ _ _); (k_dflt (refine' notin_at ?zqh ?zqd ?zqlo ?_; (case zqh => exact Fr.keep (by k_asm) _ _ (by with_reducible assumption)); (case zqd => assumption); (case zqlo => assumption); k_whole))) | (((with_reducible show wpAny _ _ (eval (Expr.Name _ _) (compEnvC _ _ _ _)) _ _ _); k_dflt (refine' comp_cell ?zqhl ?zqhc ?zqho ?zqhd ?zqhk ?zqhdb ?_; (case zqhl => with_unfolding_all rfl); (case zqhc => with_unfolding_all rfl); (case zqho => exact Fr.keep (by k_asm) _ _ (by with_reducible assumption)); (case zqhd => with_reducible assumption); (case zqhk => exact rfl); (case zqhdb => decide); k_whole))) | (((with_reducible show wpAny _ _ (subscriptTail _ _ (Value.ref _) (Value.int 2 _)) _ _ _); k_dflt (refine' item_at (k := 2) ?zqt ?zqhk ?zqhx ?_; (case zqt => exact isTup_of (Fr.keep (by k_asm) _ _ (by with_reducible assumption))); (case zqhk => decide); (case zqhx => exact rfl); k_whole))) | ((with_reducible show wpAny _ _ (call (Value.builtin "isinstance") _) _ _ _); (k_dflt (first | (refine' isi_tuple ?zqh ?_; (case zqh => exact Fr.keep (by k_asm) _ _ (by with_reducible assumption)); k_whole) | (refine' err_isi (ps := _) ?zqX ?zqha ?zqhd ?_; (case zqX => exact Frag.In.keeps (by k_asm) (Fr.keep (by k_asm))); (case zqha => exact Fr.keep (by k_asm) _ _ (by with_reducible assumption)); (case zqhd => exact Fr.keep (by k_asm) _ _ (by with_reducible assumption)); k_whole) | fail "isinstance"))) | ((with_reducible show wpAny _ _ (eval (Expr.Name ..) _) _ _ _); (k_dflt (refine' name_any ?zqF ?zqv ?_ ?zqa ?zqb ?zqc; (case zqF => k_asm); (case zqa => exact rfl); (case zqb => exact rfl); (case zqv => first | assumption | fail "no"); (case zqc => decide); k_whole))) | walk1))
        all_goals (first | exact keeps_refl | exact trivial | exact want_in hkk (by with_reducible assumption) | exact want_out hkk (by with_reducible assumption))
    · intro C v s₃ m₃ E' hv hpv F3 N3 hm
      obtain ⟨j, hj⟩ := List.getElem?_of_mem hv
      obtain ⟨r, _, hel⟩ := pairs_get hps hj
      cases r with
      | none => rw [want_none led0 hel] at hpv; cases hpv
      | some p =>
        obtain ⟨hv, bv, bvs, ps, ⟨t0, t1, t2, x4, y6, hmt⟩, _⟩ := hel
        obtain ⟨a, na, rfl, ha⟩ := tup_at led1 hmt
        clear F11 N11
        (repeat' (first | (((with_reducible show wpAny _ _ (subscriptTail _ _ (Value.ref _) (Value.int 2 _)) _ _ _); k_dflt (refine' item_at (k := 2) ?zqt ?zqhk ?zqhx ?_; (case zqt => exact isTup_of (Fr.keep (by k_asm) _ _ (by with_reducible assumption))); (case zqhk => decide); (case zqhx => exact rfl); k_whole))) | ((with_reducible show wpAny _ _ (eval (Expr.Name ..) _) _ _ _); (k_dflt (refine' name_any ?zqF ?zqv ?_ ?zqa ?zqb ?zqc; (case zqF => k_asm); (case zqa => exact rfl); (case zqb => exact rfl); (case zqv => first | assumption | fail "no"); (case zqc => decide); k_whole))) | walk1))
        all_goals (first | exact keeps_refl | (unfold wantF; rw [itemsOf_eq ha]; rfl))
    · intro D12 h12 tk12 ys n12 F12 N12 l12 hF
      have hys := want_strs led0 hps hF
      have htn := tops_names (us := allUsed rs) hro
      clear F11 N11
      walk_at "OffSplit"
      (repeat' (first | (((with_reducible show wpAny _ _ (call (Value.ref 85) _) _ _ _); refine halt ?_)) | ((with_reducible show wpAny _ _ (eval (Expr.Name ..) _) _ _ _); (k_dflt (refine' name_any ?zqF ?zqv ?_ ?zqa ?zqb ?zqc; (case zqF => k_asm); (case zqa => exact rfl); (case zqb => exact rfl); (case zqv => first | assumption | fail "no"); (case zqc => decide); k_whole))) | (k_unfold; (try dsimp only)) | (k_end; kc_close) | walk1 | (dsimp only; walk1) | (leave1; walk_say "STEP leave1"; (try dsimp only)) | fail "no step"))
      unfold Halt
      rename Fr _ _ _ _ => F13
      rename News _ _ _ _ => N13
      refine tops_call TO ?zR F13 N13 (fun _ _ e => e) (led_at N13 (fun p hp => by walk_at "MySub")) (.inl (News.isList N13 (by k_mem))) hps (by omega) fun h14 tk14 r14 vs14 n14 F14 N14 l14 i14 => ?_
      case zR => (refine Room.deeper (Room.weaken (by assumption) ?_ ?_) <;> omega)
      walk_at "OffSplit"
      clear F13 N13
      (repeat' (first | ((with_reducible show wpAny _ _ (compareOp CmpOp.Eq (Value.ref _) (Value.ref _)) _ _ _); (k_dflt (refine' eq_same ?zqN ?zqha ?zqhb ?zqi1 ?zqi2 ?zqok ?zqhu ?_; (case zqN => k_asm); (case zqha => k_mem); (case zqhb => k_mem); (case zqi1 => assumption); (case zqi2 => assumption); (case zqok => assumption); (case zqhu => (exact Nat.le_of_ble_eq_true rfl)); k_whole))) | (((with_reducible show wpAny _ _ (call (Value.ref 66) _) _ _ _); refine halt ?_)) | ((with_reducible show wpAny _ _ (eval (Expr.Name ..) _) _ _ _); (k_dflt (refine' name_any ?zqF ?zqv ?_ ?zqa ?zqb ?zqc; (case zqF => k_asm); (case zqa => exact rfl); (case zqb => exact rfl); (case zqv => first | assumption | fail "no"); (case zqc => decide); k_whole))) | (k_unfold; (try dsimp only)) | (k_end; kc_close) | walk1 | (dsimp only; walk1) | (leave1; walk_say "STEP leave1"; (try dsimp only)) | fail "no step"))
      unfold Halt
      rename Fr _ _ _ _ => F15
      rename News _ _ _ _ => N15
      refine mods_call (Top.nolimit T0) MO ?yR F15 N15 (fun _ _ e => e) (led_at N15 (fun p hp => by walk_at "MySub")) (.inl (News.isList N15 (by k_mem))) hps (by omega) fun h16 tk16 D16 o16 F16 N16 l16 lo16 d16 => ?_
      case yR => (refine Room.deeper (Room.weaken (by assumption) ?_ ?_) <;> omega)
      walk_at "OffSplit"
      clear F15 N15
      (repeat' (first | ((with_reducible show wpAny _ _ (compareOp CmpOp.Eq (Value.ref _) (Value.ref _)) _ _ _); (k_dflt (refine' eq_dicts ?zqN ?zqpa ?zqpb ?zqda ?zqdb ?zqla ?zqlb ?zqhu ?_; (case zqN => k_asm); (case zqpa => k_mem); (case zqpb => k_mem); (case zqda => assumption); (case zqdb => assumption); (case zqla => assumption); (case zqlb => assumption); (case zqhu => exact Nat.le_of_ble_eq_true rfl); k_whole))) | ((with_reducible show wpAny _ _ (eval (Expr.Name ..) _) _ _ _); (k_dflt (refine' name_any ?zqF ?zqv ?_ ?zqa ?zqb ?zqc; (case zqF => k_asm); (case zqa => exact rfl); (case zqb => exact rfl); (case zqv => first | assumption | fail "no"); (case zqc => decide); k_whole))) | (k_unfold; (try dsimp only)) | (k_end; kc_close) | walk1 | (dsimp only; walk1) | (leave1; walk_say "STEP leave1"; (try dsimp only)) | fail "no step"))
end Mine

theorem PySem.Challenge.cw_pq0447_01_holds : PySem.Challenge.rw_pq0447_01.Holds :=
  Mine.fin
