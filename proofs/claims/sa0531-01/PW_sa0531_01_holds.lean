import PyProof.Rows.All
import Wide.All
import OpenK.AllK
import Wide.FinOn
import PySem.Challenge.RW_sa0531_01
set_option Elab.async false
set_option maxRecDepth 100000
set_option maxHeartbeats 8000000
set_option rowWalk.seconds 0
/- Hd -/
namespace Mine
open PySem PySem.W PyProof.Rows
def SideOk (p q : Program) (loose : List Str) (Xt : Shared → Bool) {α : Type} (Yf : Shared → α) (Ya : World → α) (N : Nat) (H₀ : Params → Heap) (gs₀ : Array GenState) (d₀ : Drawn) (k₀ : Nat) (row : String) (b : Bool) : Prop :=
  ∀ (w : World) (os : OsState), (topFrom treeTable p (w.withFollow row b) N ⟨H₀ (w.withFollow row b).params, gs₀, d₀, k₀, os⟩).map (fun s => (openSeen q loose (importedModules p.main.body) Xt true s, Yf s)) = some (openGood q loose, Ya (w.withFollow row b))
theorem left_rows {p q : Program} {loose : List Str} {Xt : Shared → Bool} {α : Type} {Yf : Shared → α} {Ya : World → α} {N : Nat} {H₀ : Params → Heap} {gs₀ : Array GenState} {d₀ : Drawn} {k₀ : Nat} (row : String)
    (open_ : ∀ w : World, (fencedOpening treeTable p w N).map (fun s => (s.heap, s.gens, s.drawn, s.toks)) = some (H₀ w.params, gs₀, d₀, k₀))
    (hF : SideOk p q loose Xt Yf Ya N H₀ gs₀ d₀ k₀ row false) (hT : SideOk p q loose Xt Yf Ya N H₀ gs₀ d₀ k₀ row true) : LeftO p q loose Xt Yf Ya N := by
  have key : ∀ w : World, ∀ os : OsState, (topFrom treeTable p w N ⟨H₀ w.params, gs₀, d₀, k₀, os⟩).map (fun s => (openSeen q loose (importedModules p.main.body) Xt true s, Yf s)) = some (openGood q loose, Ya w) := by
    intro w
    exact byRow2 row (P := fun w => ∀ os : OsState, (topFrom treeTable p w N ⟨H₀ w.params, gs₀, d₀, k₀, os⟩).map (fun s => (openSeen q loose (importedModules p.main.body) Xt true s, Yf s)) = some (openGood q loose, Ya w)) hF hT w
  intro w
  obtain ⟨⟨h', gs, d, k, os⟩, e, e'⟩ := Option.map_eq_some_iff.mp (open_ w)
  obtain ⟨rfl, rfl, rfl, rfl⟩ : h' = H₀ w.params ∧ gs = gs₀ ∧ d = d₀ ∧ k = k₀ := by simpa using e'
  unfold openEnds
  rw [e]
  exact key w os
/-- the text's statements that the walk leans on -/
noncomputable def vw : Program := view PySem.Challenge.rw_sa0531_01.row.prog [1, 2, 3, 5, 6, 7, 8, 9, 10, 11, 12, 14, 15, 16, 17, 18, 19, 20, 21, 22, 23, 24, 25, 26, 27, 28, 30, 32, 33, 34, 35, 36, 37, 38, 39, 40, 41]
noncomputable abbrev xt : Shared → Bool := fun s => xlAt vw [] s && recOk (RowW.records (OpenRow.toRowW PySem.Challenge.rw_sa0531_01.row)) s
theorem law_said : PySem.Challenge.rw_sa0531_01.wellSaid = true := by kernel_rfl
local macro_rules | `(tactic| o_law) => `(tactic| refine holds_law law_said fun said => ?_)
local macro_rules | `(tactic| o_head $H:term) => `(tactic| (
  refine (fun two : _ ∧ _ => PySem.W.holds_open (q := vw) (loose := [Str.ofString "SHORT_ESCAPES"]) (Xt := xt) (XP := XL vw []) (Yf := Hook.obs $H) (Ya := Hook.val $H) (YP := Hook.says $H) (N := 4152) two.1 (Hook.of $H) (Hook.keeps $H) (fun s e => xl_of s (Bool.and_eq_true_iff.mp e).1) XL.keeps (by rfl) (by rfl) (by rfl) (fun s e => recFacts_of (Bool.and_eq_true_iff.mp e).2) (by rfl) (by first | assumption | decide +kernel) (by decide +kernel) ⟨rfl, rfl, rfl, rfl, rfl, by decide +kernel⟩ ?hw two.2) ?hc))
open_top hd for PySem.Challenge.rw_sa0531_01
noncomputable abbrev KH : Hook := kHook hd.heap_1 [2, 3, 15, 22, 24, 25, 27, 28, 29, 30, 31, 32, 35, 42, 44, 45, 47, 48, 49, 50, 51, 54, 61, 63, 64, 66, 67, 68, 69, 70, 73, 74, 76, 77, 79, 80, 81, 83, 84, 86, 87, 88, 90, 91, 93, 94, 95, 97, 98, 100, 101, 102, 104, 105, 107, 108, 116, 118, 119, 121, 122, 123, 124, 125, 126, 127, 130, 132, 133, 135, 136, 137, 139, 140, 142, 143, 144, 146, 147, 149, 150, 151, 153, 154, 156, 157, 158, 160, 161, 163, 164, 165, 167, 168, 170, 171, 172, 174, 175, 177, 178, 179, 181, 182, 184, 185, 186, 188, 189, 191, 192, 193, 195, 196, 198, 199, 200, 202, 203, 205, 206, 207, 209, 210, 212, 213, 214, 216, 217, 219, 220, 221, 222, 223, 225, 226, 228, 229, 230, 233, 234, 235, 237, 238, 240, 241, 242, 244, 245, 247, 248, 249, 252, 253, 254, 256, 257, 259, 260, 261, 264, 265] (fun _ => by kernel_rfl)
abbrev sg : List Str := [Str.ofString "SHORT_ESCAPES"]
theorem side_f : SideOk PySem.Challenge.rw_sa0531_01.row.prog vw sg xt (Hook.obs KH) (Hook.val KH) 4152 boot_heap (Array.mk []) boot_drawn boot_toks "special-get-raises" false := by
  intro w os
  unfold topFrom
  rewrite [Fast.te14082659384304107361, Fast.te14364793385576792824, Fast.te4187177175401517315]
  kernel_rfl
theorem side_t : SideOk PySem.Challenge.rw_sa0531_01.row.prog vw sg xt (Hook.obs KH) (Hook.val KH) 4152 boot_heap (Array.mk []) boot_drawn boot_toks "special-get-raises" true := by
  intro w os
  unfold topFrom
  rewrite [Fast.te14082659384304107361, Fast.te14364793385576792824, Fast.te4187177175401517315]
  kernel_rfl
theorem open_said : opening PySem.Challenge.rw_sa0531_01.row.prog = plainProg PySem.Challenge.rw_sa0531_01.row.prog.main.scope.names := by kernel_rfl
theorem fence_said : ∀ s, fenceModules? PySem.Challenge.rw_sa0531_01.row.prog s = some s := by
  intro s
  kernel_rfl
theorem left : LeftO PySem.Challenge.rw_sa0531_01.row.prog vw sg xt (Hook.obs KH) (Hook.val KH) 4152 :=
  left_rows "special-get-raises" (boot_open open_said (by decide) fence_said) side_f side_t
end Mine
/- CBase -/
namespace Mine
open PySem PySem.W PyProof.Rows
noncomputable abbrev PG : Program := PySem.Challenge.rw_sa0531_01.row.prog
noncomputable abbrev LS : List Str := looseW vw [Str.ofString "SHORT_ESCAPES"]
abbrev Led := List (Addr × Obj)
def Con (w : World) (f : Addr) (dd uu : Nat) (vs : List Value) (news : Led) (Post : Value → Led → Prop) : Prop :=
  ∀ (mean : ExcName → Option Value) (mg mb : Str → Option Value) (dp un : Nat) (gd : Option (List Code)) (cn : Str) (cs : Scope) (a : Addr) (ccd : Value) (cl : List (Str × Addr)) (outer : List Env) (A₀ : Around) (base h₀ : Heap) (L : Addr) (m : Str → Option Value) (s : Shared) (Q E : Value → Shared → Prop),
    Below A₀ base outer h₀ → Fr h₀ L s.heap m → (hd.heap_1 w.params).In h₀ → News h₀ L s.heap news → Top vw LS mean mg mb h₀ → cs.kind = .function → dp + dd < recursionLimit → un + uu < cLine →
    (∀ v tl h' tk', Post v tl → Fr h₀ L h' m → News h₀ L h' tl → Q v { s with heap := h', toks := tk' }) →
    wpAny (model PG w) (ktrTop dp un gd cn cs L a ccd cl outer) (call (.ref f) vs) Q E s
theorem led_drop {h₀ h : Heap} {L : Addr} {a b : Led} (N : News h₀ L h a) (hs : ∀ p ∈ b, p ∈ a) : News h₀ L h b := fun p hp => N p (hs p hp)
theorem led_tl1 {p : Addr × Obj} {a b : Led} (h : ∀ q ∈ b, q ∈ a) : ∀ q ∈ b, q ∈ p :: a := fun q hq => List.mem_cons_of_mem _ (h q hq)
theorem led_kp {p : Addr × Obj} {a b : Led} (h : ∀ q ∈ b, q ∈ a) : ∀ q ∈ p :: b, q ∈ p :: a := fun q hq =>
  (List.mem_cons.mp hq).elim (fun e => e ▸ List.mem_cons_self ..) fun w => List.mem_cons_of_mem _ (h q w)
theorem Con.use {w : World} {f : Addr} {dd uu : Nat} {vs : List Value} {news : Led} {Post : Value → Led → Prop} (C : Con w f dd uu vs news Post)
    {mean : ExcName → Option Value} {mg mb : Str → Option Value} {dp un : Nat} {gd : Option (List Code)} {cn : Str} {cs : Scope} {a : Addr} {ccd : Value} {cl : List (Str × Addr)} {outer : List Env} {A₀ : Around} {base h₀ : Heap} {L : Addr} {m : Str → Option Value} {s : Shared} {Q E : Value → Shared → Prop}
    (B : Below A₀ base outer h₀) (F : Fr h₀ L s.heap m) (X : (hd.heap_1 w.params).In h₀) (N : News h₀ L s.heap news) (T : Top vw LS mean mg mb h₀) (hk : cs.kind = .function) (hd : dp + dd < recursionLimit) (hu : un + uu < cLine)
    (ret : ∀ v tl h' tk', Post v tl → Fr h₀ L h' m → News h₀ L h' tl → Q v { s with heap := h', toks := tk' }) :
    wpAny (model PG w) (ktrTop dp un gd cn cs L a ccd cl outer) (call (.ref f) vs) Q E s :=
  C _ _ _ _ _ _ _ _ _ _ _ _ _ _ _ _ _ _ _ _ B F X N T hk hd hu ret
/-- the walk stands still here -/
def Hold (P : Prop) : Prop := P
theorem Hold.out {P : Prop} (h : Hold P) : P := h
theorem Hold.mk {P : Prop} (h : P) : Hold P := h
abbrev tup2 (a b : Value) : Obj := { cls := .type "tuple", data := .seq #[a, b] }
/-- a contract that keeps the whole ledger, asks for some entries and adds some -/
def RCon (w : World) (f : Addr) (dd uu : Nat) (vs : List Value) (need : Led) (Post : Value → Led → Prop) : Prop :=
  ∀ led : Led, (∀ p ∈ need, p ∈ led) → Con w f dd uu vs led (fun v tl => ∃ new, Post v new ∧ tl = new ++ led)
theorem led_more {h₀ h : Heap} {L : Addr} {a b : Led} (N : News h₀ L h b) (hs : ∀ p ∈ a, p ∈ b) : News h₀ L h (a ++ b) := fun p hp =>
  (List.mem_append.mp hp).elim (fun q => N p (hs p q)) fun q => N p q
theorem rcon_of {w : World} {f : Addr} {dd uu : Nat} {vs : List Value} {need : Led} {Post : Value → Led → Prop}
    (C : ∀ rest, Con w f dd uu vs (need ++ rest) (fun v tl => ∃ new, Post v new ∧ tl = new ++ (need ++ rest))) : RCon w f dd uu vs need Post := by
  intro led hs
  intro mean mg mb dp un gd cn cs a ccd cl outer A₀ base h₀ L m s Q E B F X N T hcs hd hu hret
  refine C led mean mg mb dp un gd cn cs a ccd cl outer A₀ base h₀ L m s Q E B F X (led_more N hs) T hcs hd hu ?_
  rintro v tl h' tk' ⟨new, hp, rfl⟩ F' N'
  refine hret v _ h' tk' ⟨new, hp, rfl⟩ F' (led_drop N' fun p hp => ?_)
  rcases List.mem_append.mp hp with h | h
  · exact List.mem_append.mpr (.inl h)
  · exact List.mem_append.mpr (.inr (List.mem_append.mpr (.inr h)))
theorem RCon.use {w : World} {f : Addr} {dd uu : Nat} {vs : List Value} {need led : Led} {Post : Value → Led → Prop} (C : RCon w f dd uu vs need Post)
    {mean : ExcName → Option Value} {mg mb : Str → Option Value} {dp un : Nat} {gd : Option (List Code)} {cn : Str} {cs : Scope} {a : Addr} {ccd : Value} {cl : List (Str × Addr)} {outer : List Env} {A₀ : Around} {base h₀ : Heap} {L : Addr} {m : Str → Option Value} {s : Shared} {Q E : Value → Shared → Prop}
    (B : Below A₀ base outer h₀) (F : Fr h₀ L s.heap m) (X : (hd.heap_1 w.params).In h₀) (N : News h₀ L s.heap led) (T : Top vw LS mean mg mb h₀) (hm : ∀ p ∈ need, p ∈ led) (hk : cs.kind = .function) (hd : dp + dd < recursionLimit) (hu : un + uu < cLine)
    (ret : ∀ v new h' tk', Post v new → Fr h₀ L h' m → News h₀ L h' (new ++ led) → Q v { s with heap := h', toks := tk' }) :
    wpAny (model PG w) (ktrTop dp un gd cn cs L a ccd cl outer) (call (.ref f) vs) Q E s :=
  C led hm _ _ _ _ _ _ _ _ _ _ _ _ _ _ _ _ _ _ _ _ B F X N T hk hd hu (by
    rintro v tl h' tk' ⟨new, hp, rfl⟩ F' N'
    exact ret v new h' tk' hp F' N')
/-- as RCon; what is new lies above the whole ledger -/
def FCon (w : World) (f : Addr) (dd uu : Nat) (vs : List Value) (need : Led) (Post : Value → Led → Prop) : Prop :=
  ∀ led : Led, (∀ p ∈ need, p ∈ led) → Con w f dd uu vs led (fun v tl => ∃ new, Post v new ∧ tl = new ++ led ∧ ∀ p ∈ new, ∀ q ∈ led, q.1 < p.1)
theorem fcon_of {w : World} {f : Addr} {dd uu : Nat} {vs : List Value} {need : Led} {Post : Value → Led → Prop}
    (C : ∀ rest, Con w f dd uu vs (need ++ rest) (fun v tl => ∃ new, Post v new ∧ tl = new ++ (need ++ rest) ∧ ∀ p ∈ new, ∀ q ∈ need ++ rest, q.1 < p.1)) : FCon w f dd uu vs need Post := by
  intro led hs
  intro mean mg mb dp un gd cn cs a ccd cl outer A₀ base h₀ L m s Q E B F X N T hcs hd hu hret
  refine C led mean mg mb dp un gd cn cs a ccd cl outer A₀ base h₀ L m s Q E B F X (led_more N hs) T hcs hd hu ?_
  rintro v tl h' tk' ⟨new, hp, rfl, hlt⟩ F' N'
  refine hret v _ h' tk' ⟨new, hp, rfl, fun p hp q hq => hlt p hp q (List.mem_append.mpr (.inr hq))⟩ F' (led_drop N' fun p hp => ?_)
  rcases List.mem_append.mp hp with h | h
  · exact List.mem_append.mpr (.inl h)
  · exact List.mem_append.mpr (.inr (List.mem_append.mpr (.inr h)))
theorem FCon.use {w : World} {f : Addr} {dd uu : Nat} {vs : List Value} {need led : Led} {Post : Value → Led → Prop} (C : FCon w f dd uu vs need Post)
    {mean : ExcName → Option Value} {mg mb : Str → Option Value} {dp un : Nat} {gd : Option (List Code)} {cn : Str} {cs : Scope} {a : Addr} {ccd : Value} {cl : List (Str × Addr)} {outer : List Env} {A₀ : Around} {base h₀ : Heap} {L : Addr} {m : Str → Option Value} {s : Shared} {Q E : Value → Shared → Prop}
    (B : Below A₀ base outer h₀) (F : Fr h₀ L s.heap m) (X : (hd.heap_1 w.params).In h₀) (N : News h₀ L s.heap led) (T : Top vw LS mean mg mb h₀) (hm : ∀ p ∈ need, p ∈ led) (hk : cs.kind = .function) (hd : dp + dd < recursionLimit) (hu : un + uu < cLine)
    (ret : ∀ v new h' tk', (Post v new ∧ ∀ p ∈ new, ∀ q ∈ led, q.1 < p.1) → Fr h₀ L h' m → News h₀ L h' (new ++ led) → Q v { s with heap := h', toks := tk' }) :
    wpAny (model PG w) (ktrTop dp un gd cn cs L a ccd cl outer) (call (.ref f) vs) Q E s :=
  C led hm _ _ _ _ _ _ _ _ _ _ _ _ _ _ _ _ _ _ _ _ B F X N T hk hd hu (by
    rintro v tl h' tk' ⟨new, hp, rfl, hlt⟩ F' N'
    exact ret v new h' tk' ⟨hp, hlt⟩ F' N')
theorem allLt_all {d : Addr} : ∀ {l : Led}, AllLt d l → ∀ p ∈ l, p.1 < d
  | [], _, _, hp => nomatch hp
  | q :: l, h, p, hp => (List.mem_cons.mp hp).elim (fun e => e ▸ h.1) fun w => allLt_all h.2 p w
theorem fresh1 {a : Addr × Obj} {l : Led} (h : AllLt a.1 l) : ∀ p ∈ [a], ∀ q ∈ l, q.1 < p.1 := fun p hp q hq => by
  rw [List.mem_singleton.mp hp]; exact allLt_all h q hq
end Mine
/- CBead -/
namespace Mine
open PySem PySem.W PyProof.Rows
theorem prime : PySem.Challenge.rw_sa0531_01 = PySem.Challenge.rw_sa0531_01 ∧ hd.heap_1 = hd.heap_1 := by
  k_fill
  exact ⟨rfl, rfl⟩
theorem fmod_lo {a b : Int} (h : 0 < b) : 0 ≤ a.fmod b := by
  rw [Int.fmod_eq_emod_of_nonneg _ (by omega)]; exact Int.emod_nonneg _ (by omega)
theorem fmod_hi {a b : Int} (h : 0 < b) : a.fmod b < b := by
  rw [Int.fmod_eq_emod_of_nonneg _ (by omega)]; exact Int.emod_lt_of_pos _ h
theorem bead_con (w : World) (lc ls : Addr) (us : List Value) (ns : List Int) (k many : Int) (tk tm : Tok) (c1 c2 : Nat) (rest : Led)
   (hi : IntsAre us ns) (hn : ns.length ≤ 40) (hk : 0 ≤ k) (hk2 : k < 1000) (hm : 0 < many) (hm2 : many < 1000) (ho : OwnOff rest [lc, ls]) (hne : @Ne Nat lc ls) :
   Con w 229 1 8 [.ref lc, .int many tm] ((lc, listOf #[.ref ls, .int k tk] c1) :: (ls, listOf us.toArray c2) :: rest)
     (fun v tl => ∃ b t t', v = .int b t ∧ 0 ≤ b ∧ b < many ∧ tl = (lc, listOf #[.ref ls, .int (k+1) t'] c1) :: (ls, listOf us.toArray c2) :: rest) := by
  unfold Con
  intro mean mg mb dp un gd cn cs a ccd cl outer A₀ base h₀ L m s Q E B F X N T hcs hd hu hret
  w_top off
  k_with_none
  refine wpAny_call ?_
  k_dflt cell_enter
  k_steps
  · exact hret _ _ _ _ ⟨_, _, _, rfl, fmod_lo hm, fmod_hi hm, rfl⟩ (by assumption) (by assumption)
  · exact hret _ _ _ _ ⟨_, _, _, rfl, fmod_lo hm, fmod_hi hm, rfl⟩ (by assumption) (by assumption)
end Mine
/- CRank -/
namespace Mine
open PySem PySem.W PyProof.Rows
local macro_rules | `(tactic| walk_at "no such key") => `(tactic| fail "no such key")
local macro_rules | `(tactic| tb_rel) => `(tactic| first | assumption | exact fun _ h => h | exact fun _ h => List.mem_append_left _ h | exact fun _ h => List.mem_append_right _ h | (refine led_drop (by assumption) ?_; tb_rel) | (refine led_kp ?_; tb_rel) | (refine led_tl1 ?_; tb_rel))
/-- what the search by halves knows -/
def Cut (bs : List Int) (code lo hi : Int) : Prop :=
  0 ≤ lo ∧ lo ≤ hi ∧ hi ≤ (bs.length : Int) ∧ (∀ i : Int, 0 ≤ i → i < lo → bs.getD i.toNat 0 < code) ∧ (∀ i : Int, hi ≤ i → i < bs.length → code ≤ bs.getD i.toNat 0)
def Mono (bs : List Int) : Prop := ∀ i j : Int, 0 ≤ i → i ≤ j → j < bs.length → bs.getD i.toNat 0 ≤ bs.getD j.toNat 0
theorem cut_start (bs : List Int) (code : Int) : Cut bs code 0 (bs.length : Int) :=
  ⟨by omega, by omega, by omega, fun i h1 h2 => by omega, fun i h1 h2 => by omega⟩
theorem cut_mid {lo hi : Int} (h : lo < hi) : lo ≤ (lo + hi).fdiv 2 ∧ (lo + hi).fdiv 2 < hi := by
  rw [Int.fdiv_eq_ediv_of_nonneg _ (by omega)]; omega
theorem cut_low {bs : List Int} {code lo hi : Int} (hb : Mono bs) (h : Cut bs code lo hi) (hl : lo < hi) (hc : bs.getD ((lo + hi).fdiv 2).toNat 0 < code) :
    Cut bs code ((lo + hi).fdiv 2 + 1) hi := by
  obtain ⟨h1, h2, h3, h4, h5⟩ := h
  obtain ⟨m1, m2⟩ := cut_mid hl
  refine ⟨by omega, by omega, h3, fun i q1 q2 => ?_, h5⟩
  exact Int.lt_of_le_of_lt (hb i _ q1 (by omega) (by omega)) hc
theorem cut_high {bs : List Int} {code lo hi : Int} (hb : Mono bs) (h : Cut bs code lo hi) (hl : lo < hi) (hc : ¬ bs.getD ((lo + hi).fdiv 2).toNat 0 < code) :
    Cut bs code lo ((lo + hi).fdiv 2) := by
  obtain ⟨h1, h2, h3, h4, h5⟩ := h
  obtain ⟨m1, m2⟩ := cut_mid hl
  refine ⟨h1, by omega, by omega, h4, fun i q1 q2 => ?_⟩
  exact Int.le_trans (Int.not_lt.mp hc) (hb _ i (by omega) q1 q2)
theorem cut_bounds {bs : List Int} {code lo hi : Int} (h : Cut bs code lo hi) : 0 ≤ lo ∧ lo ≤ hi ∧ hi ≤ (bs.length : Int) := ⟨h.1, h.2.1, h.2.2.1⟩
theorem meas_low {lo hi : Int} (h : lo < hi) : (hi - ((lo + hi).fdiv 2 + 1)).toNat < (hi - lo).toNat := by
  have := cut_mid h; omega
theorem meas_high {lo hi : Int} (h : lo < hi) : ((lo + hi).fdiv 2 - lo).toNat < (hi - lo).toNat := by
  have := cut_mid h; omega
theorem cut_eq {bs : List Int} {code lo hi : Int} (h : Cut bs code lo hi) (hl : ¬ lo < hi) : Cut bs code lo lo := by
  have e : lo = hi := by have := h.2.1; omega
  rw [← e] at h; exact h
/-- the rank that the search gives -/
def Ranked (bs : List Int) (code r : Int) : Prop :=
  ∃ k, Cut bs code k k ∧ r = if k < (bs.length : Int) ∧ bs.getD k.toNat 0 = code then -1 else code - k
theorem rank_con (w : World) (lb : Addr) (us : List Value) (bs : List Int) (code : Int) (tc : Tok) (n : Nat)
   (hi : IntsAre us bs) (hn : bs.length ≤ 1000) (hb : Mono bs) :
   RCon w 178 1 8 [.ref lb, .int code tc] [(lb, listOf us.toArray n)]
     (fun v new => ∃ r t, v = .int r t ∧ Ranked bs code r ∧ new = []) := by
  refine rcon_of fun rest => ?_
  unfold Con
  simp only [List.cons_append, List.nil_append]
  intro mean mg mb dp un gd cn cs a ccd cl outer A₀ base h₀ L m s Q E B F X N T hcs hd hu hret
  w_top off
  k_with_none
  refine wpAny_call ?_
  k_dflt cell_enter
  k_with "state" => first | exact ⟨by omega, by omega, by omega, cut_start _ _⟩ | exact ⟨by omega, by omega, by omega, by omega⟩ | (have hh := cut_low hb (by assumption) (by assumption) (by assumption); exact ⟨(cut_bounds hh).1, (cut_bounds hh).2.1, (cut_bounds hh).2.2, hh⟩) | (have hh := cut_high hb (by assumption) (by assumption) (by assumption); exact ⟨(cut_bounds hh).1, (cut_bounds hh).2.1, (cut_bounds hh).2.2, hh⟩)
  k_with "measure" => first | exact meas_low (by assumption) | exact meas_high (by assumption)
  k_with "exec While Compare cons nil" => k_while (fun _ lo hi => 0 ≤ lo ∧ lo ≤ hi ∧ hi ≤ (bs.length : Int) ∧ Cut bs code lo hi) (fun _ lo hi => (hi - lo).toNat) "below" "beyond"
  k_steps
  · exact hret _ _ _ _ ⟨[], ⟨_, _, rfl, ⟨_, cut_eq (by assumption) (by assumption), by rw [if_pos ⟨by assumption, by assumption⟩]⟩, rfl⟩, rfl⟩ (by k_asm) (by tb_rel)
  · exact hret _ _ _ _ ⟨[], ⟨_, _, rfl, ⟨_, cut_eq (by assumption) (by assumption), by rw [if_neg (fun q => absurd q.2 (by assumption))]⟩, rfl⟩, rfl⟩ (by k_asm) (by tb_rel)
  · exact hret _ _ _ _ ⟨[], ⟨_, _, rfl, ⟨_, cut_eq (by assumption) (by assumption), by rw [if_neg (fun q => absurd q.1 (by assumption))]⟩, rfl⟩, rfl⟩ (by k_asm) (by tb_rel)
/-- a mark: the list is not empty -/
def Nz (l : List Int) : Prop := 0 < l.length
theorem nz_of {l : List Int} (h : decide (l = []) = false) : Nz l := List.length_pos_iff.mpr (of_decide_eq_false h)
end Mine
/- CTurn -/
namespace Mine
open PySem PySem.W PyProof.Rows
local macro_rules | `(tactic| tb_rel) => `(tactic| first | assumption | exact fun _ h => h | exact fun _ h => List.mem_append_left _ h | exact fun _ h => List.mem_append_right _ h | (refine led_drop (by assumption) ?_; tb_rel) | (refine led_kp ?_; tb_rel) | (refine led_tl1 ?_; tb_rel))
/-- the entries of a table's dict -/
abbrev tabEs (w : World) (t1 t2 t3 t4 t5 t6 : Tok) (lc lb lm : Addr) (trn del sq : Bool) : List DictEntry :=
  [{ hash := PyData.keyHash w.params (Str.ofString "codes"), key := .str (Str.ofString "codes") t1, val := .ref lc },
   { hash := PyData.keyHash w.params (Str.ofString "is_turned"), key := .str (Str.ofString "is_turned") t2, val := .bool trn },
   { hash := PyData.keyHash w.params (Str.ofString "barred"), key := .str (Str.ofString "barred") t3, val := .ref lb },
   { hash := PyData.keyHash w.params (Str.ofString "becomes"), key := .str (Str.ofString "becomes") t4, val := .ref lm },
   { hash := PyData.keyHash w.params (Str.ofString "is_deleting"), key := .str (Str.ofString "is_deleting") t5, val := .bool del },
   { hash := PyData.keyHash w.params (Str.ofString "is_squeezing"), key := .str (Str.ofString "is_squeezing") t6, val := .bool sq }]
def turnOut (r : Int) (ms : List Int) (del : Bool) (code : Int) : Int :=
  if r < 0 then -1 else if r < ms.length then ms.getD r.toNat 0 else if del = true then -2 else if ms = [] then code else ms.getD (ms.length - 1) 0
theorem int_eq {a b : Int} {t : Tok} (h : a = b) : Value.int a t = Value.int b t := h ▸ rfl
section
variable {r code : Int} {ms : List Int} {del : Bool}
theorem to1 (h : r < 0) : -1 = turnOut r ms del code := by unfold turnOut; rw [if_pos h]
theorem to2 (h : ¬ r < 0) (h2 : r < ms.length) : ms.getD r.toNat 0 = turnOut r ms del code := by unfold turnOut; rw [if_neg h, if_pos h2]
theorem to3 (h : ¬ r < 0) (h2 : ¬ r < ms.length) (h3 : del = true) : -2 = turnOut r ms del code := by unfold turnOut; rw [if_neg h, if_neg h2, if_pos h3]
theorem to4 (h : ¬ r < 0) (h2 : ¬ r < ms.length) (h3 : del = false) (h4 : decide (ms = []) = true) : code = turnOut r ms del code := by
  unfold turnOut; rw [if_neg h, if_neg h2, if_neg (by simp [h3]), if_pos (of_decide_eq_true h4)]
theorem to5 (h : ¬ r < 0) (h2 : ¬ r < ms.length) (h3 : del = false) (h4 : decide (ms = []) = false) : ms.getD ((ms.length : Int) - 1).toNat 0 = turnOut r ms del code := by
  have e : ((ms.length : Int) - 1).toNat = ms.length - 1 := by omega
  unfold turnOut; rw [if_neg h, if_neg h2, if_neg (by simp [h3]), if_neg (of_decide_eq_false h4), e]
end
local macro_rules | `(tactic| walk_at "call ref") => `(tactic| (
  k_here
  first
  | (refine' (rank_con _ _ _ _ _ _ _ ?hi ?hl ?hb).use ?B ?F ?X ?N ?T ?m ?k ?d ?u ?_; (case B => k_asm); (case F => k_asm); (case X => k_asm); (case N => k_asm); (case m => k_allIn); (case T => k_asm); (case k => first | exact rfl | assumption); (case d => ktr_room); (case u => ktr_units); (case hi => assumption); (case hl => assumption); (case hb => assumption); intro v9 tl9 h9 tk9 H9 F9 N9; (try dsimp only at H9); (obtain ⟨r9, t9, e9, hr9, e8⟩ := H9); (subst e9); (subst e8); (try simp only [List.cons_append, List.nil_append] at N9); (try k_fold))
  ))
local macro_rules | `(tactic| units_room) => `(tactic| ktr_units)
local macro_rules | `(tactic| walk_at "subscriptTail Name BinOp ref int") => `(tactic| (k_here; (fail_if_success (with_reducible rename Nz _ => z9)); refine Hold.out ?_))
theorem turned_con (w : World) (x dx lc lb lm : Addr) (us vs : List Value) (bs ms : List Int) (nb nm : Nat) (trn del sq : Bool) (t1 t2 t3 t4 t5 t6 tc : Tok) (code : Int)
   (hi : IntsAre us bs) (hl : bs.length ≤ 1000) (hb : Mono bs) (hi2 : IntsAre vs ms) (hl2 : ms.length ≤ 1000) :
   RCon w 185 4 200 [.ref x, .int code tc] [(x, instObj 125 dx), (dx, dictOf (tabEs w t1 t2 t3 t4 t5 t6 lc lb lm trn del sq) 6), (lb, listOf us.toArray nb), (lm, listOf vs.toArray nm)]
     (fun v new => ∃ r t, v = .int (turnOut r ms del code) t ∧ new = [] ∧ Ranked bs code r) := by
  refine rcon_of fun rest => ?_
  unfold Con
  simp only [List.cons_append, List.nil_append]
  intro mean mg mb dp un gd cn cs a ccd cl outer A₀ base h₀ L m s Q E B F X N T hcs hd hu hret
  w_top off
  k_with_none
  refine wpAny_call ?_
  k_dflt cell_enter
  k_steps
  · exact hret _ _ _ _ ⟨[], ⟨_, _, int_eq (to1 (by assumption)), rfl, by assumption⟩, rfl⟩ (by k_asm) (by tb_rel)
  · exact hret _ _ _ _ ⟨[], ⟨_, _, int_eq (to2 (by assumption) (by assumption)), rfl, by assumption⟩, rfl⟩ (by k_asm) (by tb_rel)
  · exact hret _ _ _ _ ⟨[], ⟨_, _, int_eq (to3 (by assumption) (by assumption) (by assumption)), rfl, by assumption⟩, rfl⟩ (by k_asm) (by tb_rel)
  · exact hret _ _ _ _ ⟨[], ⟨_, _, int_eq (to4 (by assumption) (by assumption) (by assumption) (by assumption)), rfl, by assumption⟩, rfl⟩ (by k_asm) (by tb_rel)
  · refine Hold.mk ?_
    have hz9 : Nz ms := nz_of (by assumption)
    have hz : 0 < ms.length := hz9
    k_steps
    exact hret _ _ _ _ ⟨[], ⟨_, _, int_eq (to5 (by assumption) (by assumption) (by assumption) (by assumption)), rfl, by assumption⟩, rfl⟩ (by k_asm) (by tb_rel)
end Mine
/- PRank -/
namespace Mine
open PySem PySem.W PyProof.Rows
def rankOf (bs : List Int) (code : Int) : Int := if code ∈ bs then -1 else code - (bs.countP (fun b => decide (b < code)) : Nat)
theorem countP_cut (code : Int) : ∀ (bs : List Int) (k : Nat), k ≤ bs.length → (∀ i, i < k → bs.getD i 0 < code) → (∀ i, k ≤ i → i < bs.length → code ≤ bs.getD i 0) → bs.countP (fun b => decide (b < code)) = k
  | [], k, hk, _, _ => by simp at hk; subst hk; rfl
  | b :: bs, 0, _, _, h2 => by
    have h := h2 0 (Nat.le_refl _) (by simp)
    have ih := countP_cut code bs 0 (Nat.zero_le _) (fun i hi => absurd hi (Nat.not_lt_zero _)) (fun i _ hi => by
      have := h2 (i + 1) (Nat.zero_le _) (by simpa using hi)
      simpa using this)
    have h' : ¬ b < code := by have : code ≤ b := by simpa using h
                               omega
    rw [List.countP_cons, ih]; simp [h']
  | b :: bs, k + 1, hk, h1, h2 => by
    have h := h1 0 (Nat.succ_pos _)
    have ih := countP_cut code bs k (by simpa using hk) (fun i hi => by
      have := h1 (i + 1) (by omega)
      simpa using this) (fun i hi hl => by
      have := h2 (i + 1) (by omega) (by simpa using hl)
      simpa using this)
    have h' : b < code := by simpa using h
    rw [List.countP_cons, ih]; simp [h']
theorem ranked_eq {bs : List Int} {code r : Int} (hb : Mono bs) (h : Ranked bs code r) : r = rankOf bs code := by
  obtain ⟨k, ⟨h1, _, h3, h4, h5⟩, hr⟩ := h
  have hc := countP_cut code bs k.toNat (by omega) (fun i hi => by
    have := h4 (i : Int) (by omega) (by omega)
    simpa using this) (fun i hi hl => by
    have := h5 (i : Int) (by omega) (by omega)
    simpa using this)
  have hm : code ∈ bs ↔ (k < (bs.length : Int) ∧ bs.getD k.toNat 0 = code) := by
    constructor
    · intro hm
      obtain ⟨i, hi, rfl⟩ := List.getElem_of_mem hm
      have hki : k ≤ (i : Int) := by
        by_cases q : k ≤ (i : Int)
        · exact q
        · have := h4 (i : Int) (by omega) (by omega)
          simp [hi] at this
      have e1 := h5 k (Int.le_refl _) (by omega)
      have e2 := hb k (i : Int) h1 hki (by omega)
      have e3 : bs.getD (i : Int).toNat 0 = bs[i] := by simp [hi]
      rw [e3] at e2
      exact ⟨by omega, by omega⟩
    · rintro ⟨hk, e⟩
      rw [← e]
      have hk' : k.toNat < bs.length := by omega
      rw [List.getD_eq_getElem?_getD, List.getElem?_eq_getElem hk']
      exact List.getElem_mem hk'
  rw [hr]
  unfold rankOf
  rw [hc]
  by_cases q : code ∈ bs
  · rw [if_pos q, if_pos (hm.mp q)]
  · rw [if_neg q, if_neg fun w => q (hm.mpr w)]
    omega
end Mine
/- CCode -/
namespace Mine
open PySem PySem.W PyProof.Rows
local macro_rules | `(tactic| tb_rel) => `(tactic| first | assumption | exact fun _ h => h | exact fun _ h => List.mem_append_left _ h | exact fun _ h => List.mem_append_right _ h | (refine led_drop (by assumption) ?_; tb_rel) | (refine led_kp ?_; tb_rel) | (refine led_tl1 ?_; tb_rel))
/-- what a table makes of a code -/
def tcode (trn : Bool) (c : List (Int × Int)) (bs ms : List Int) (del : Bool) (code : Int) : Int :=
  if trn = true then turnOut (rankOf bs code) ms del code else kdfLook c code (-1)
theorem tc1 {trn : Bool} {c : List (Int × Int)} {bs ms : List Int} {del : Bool} {code r : Int} (h : trn = true) (hb : Mono bs) (hr : Ranked bs code r) : turnOut r ms del code = tcode trn c bs ms del code := by
  unfold tcode; rw [if_pos h, ranked_eq hb hr]
theorem tc2 {trn : Bool} {c : List (Int × Int)} {bs ms : List Int} {del : Bool} {code : Int} (h : trn = false) : kdfLook c code (-1) = tcode trn c bs ms del code := by
  unfold tcode; rw [if_neg (by simp [h])]
local macro_rules | `(tactic| walk_at "call ref") => `(tactic| (
  k_here
  first
  | (refine' (turned_con _ _ _ _ _ _ _ _ _ _ _ _ _ _ _ _ _ _ _ _ _ _ _ ?hi ?hl ?hb ?hi2 ?hl2).use ?B ?F ?X ?N ?T ?m ?k ?d ?u ?_; (case B => k_asm); (case F => k_asm); (case X => k_asm); (case N => k_asm); (case m => k_allIn); (case T => k_asm); (case k => first | exact rfl | assumption); (case d => ktr_room); (case u => ktr_units); (case hi => assumption); (case hl => assumption); (case hb => assumption); (case hi2 => assumption); (case hl2 => assumption); intro v9 tl9 h9 tk9 H9 F9 N9; (try dsimp only at H9); (obtain ⟨r9, t9, e9, e8, hr9⟩ := H9); (subst e9); (subst e8); (try simp only [List.cons_append, List.nil_append] at N9); (try k_fold))
  ))
theorem code_con (w : World) (x dx lc lb lm : Addr) (od : Obj) (kvs : List (Int × Value)) (c : List (Int × Int)) (us vs : List Value) (bs ms : List Int) (nb nm : Nat) (trn del sq : Bool) (t1 t2 t3 t4 t5 t6 tc : Tok) (code : Int)
   (hi : IntsAre us bs) (hl : bs.length ≤ 1000) (hb : Mono bs) (hi2 : IntsAre vs ms) (hl2 : ms.length ≤ 1000) (hlo : (lc == sysModules) = false) (hd1 : od.IsDictOf (PySem.intKind PG w) kvs) (hf1 : PyProof.V.FlatPairs PyData.int kvs (kdfD c)) :
   RCon w 192 6 300 [.ref x, .int code tc] [(x, instObj 125 dx), (dx, dictOf (tabEs w t1 t2 t3 t4 t5 t6 lc lb lm trn del sq) 6), (lc, od), (lb, listOf us.toArray nb), (lm, listOf vs.toArray nm)]
     (fun v new => ∃ t, v = .int (tcode trn c bs ms del code) t ∧ new = []) := by
  refine rcon_of fun rest => ?_
  unfold Con
  simp only [List.cons_append, List.nil_append]
  intro mean mg mb dp un gd cn cs a ccd cl outer A₀ base h₀ L m s Q E B F X N T hcs hd hu hret
  w_top off
  k_with_none
  refine wpAny_call ?_
  k_dflt cell_enter
  k_steps
  · exact hret _ _ _ _ ⟨[], ⟨_, int_eq (tc1 (by assumption) (by assumption) (by assumption)), rfl⟩, rfl⟩ (by k_asm) (by tb_rel)
  · exact hret _ _ _ _ ⟨[], ⟨_, int_eq (tc2 (by assumption)), rfl⟩, rfl⟩ (by k_asm) (by tb_rel)
end Mine
/- CRun -/
namespace Mine
open PySem PySem.W PyProof.Rows
local macro_rules | `(tactic| tb_rel) => `(tactic| first | assumption | exact fun _ h => h | exact fun _ h => List.mem_append_left _ h | exact fun _ h => List.mem_append_right _ h | (refine led_drop (by assumption) ?_; tb_rel) | (refine led_kp ?_; tb_rel) | (refine led_tl1 ?_; tb_rel))
def rstep (f : Int → Int) (sq : Bool) (st : List Str × Int × Int) (c : Int) : List Str × Int × Int :=
  if f c = -1 then (st.1 ++ [⟨#[c.toNat]⟩], st.2.1, -1)
  else if f c = -2 ∨ (sq = true ∧ f c = st.2.2) then (st.1, st.2.1 + 1, st.2.2)
  else (st.1 ++ [⟨#[(f c).toNat]⟩], st.2.1 + 1, f c)
def runs (f : Int → Int) (sq : Bool) (cs : List Int) : List Str × Int × Int := cs.foldl (rstep f sq) ([], 0, -1)
def ChrOK (f : Int → Int) (x : Str) : Prop := ∀ c ∈ KStt.codes x, f c = -1 ∨ f c = -2 ∨ (0 ≤ f c ∧ f c < 1114112)
theorem chr_fact {f : Int → Int} {x : Str} {pre post : List Int} {n : Int} (h : ChrOK f x) (e : KStt.codes x = pre ++ n :: post) : f n = -1 ∨ f n = -2 ∨ (0 ≤ f n ∧ f n < 1114112) :=
  h n (by rw [e]; simp)
def RunAt (f : Int → Int) (sq : Bool) (pre : List Int) (ws : List Str) (cnt lst : Int) : Prop := (ws, cnt, lst) = runs f sq pre
theorem runs_snoc (f : Int → Int) (sq : Bool) (pre : List Int) (n : Int) : runs f sq (pre ++ [n]) = rstep f sq (runs f sq pre) n := by
  unfold runs; rw [List.foldl_append]; rfl
section
variable {f : Int → Int} {sq : Bool} {pre : List Int} {ws : List Str} {cnt lst : Int} {n : Nat}
theorem rs0 (f : Int → Int) (sq : Bool) : RunAt f sq [] [] 0 (-1) ∧ ([] : List Str).length ≤ ([] : List Int).length := ⟨rfl, Nat.le_refl _⟩
theorem rs1 (h : RunAt f sq pre ws cnt lst) (hl : ws.length ≤ pre.length) (h1 : f n = -1) : RunAt f sq (pre ++ [(n : Int)]) (ws ++ [⟨#[n]⟩]) cnt (-1) ∧ (ws ++ [(⟨#[n]⟩ : Str)]).length ≤ (pre ++ [(n : Int)]).length := by
  refine ⟨?_, by simp [hl]⟩
  unfold RunAt; rw [runs_snoc, ← h]; unfold rstep; rw [if_pos h1]; rfl
theorem rs2 (h : RunAt f sq pre ws cnt lst) (hl : ws.length ≤ pre.length) (h1 : f n ≠ -1) (h2 : f n = -2) : RunAt f sq (pre ++ [(n : Int)]) ws (cnt + 1) lst ∧ ws.length ≤ (pre ++ [(n : Int)]).length := by
  refine ⟨?_, by simp; omega⟩
  unfold RunAt; rw [runs_snoc, ← h]; unfold rstep; rw [if_neg h1, if_pos (.inl h2)]
theorem rs3 (h : RunAt f sq pre ws cnt lst) (hl : ws.length ≤ pre.length) (h1 : f n ≠ -1) (_ : f n ≠ -2) (h3 : sq = true) (h4 : f n = lst) : RunAt f sq (pre ++ [(n : Int)]) ws (cnt + 1) lst ∧ ws.length ≤ (pre ++ [(n : Int)]).length := by
  refine ⟨?_, by simp; omega⟩
  unfold RunAt; rw [runs_snoc, ← h]; unfold rstep; rw [if_neg h1, if_pos (.inr ⟨h3, h4⟩)]
theorem rs4 (h : RunAt f sq pre ws cnt lst) (hl : ws.length ≤ pre.length) (h1 : f n ≠ -1) (h2 : f n ≠ -2) (_ : sq = true) (h4 : f n ≠ lst) : RunAt f sq (pre ++ [(n : Int)]) (ws ++ [⟨#[(f n).toNat]⟩]) (cnt + 1) (f n) ∧ (ws ++ [(⟨#[(f n).toNat]⟩ : Str)]).length ≤ (pre ++ [(n : Int)]).length := by
  refine ⟨?_, by simp [hl]⟩
  unfold RunAt; rw [runs_snoc, ← h]; unfold rstep; rw [if_neg h1, if_neg (by rintro (q | q); exact h2 q; exact h4 q.2)]
theorem rs5 (h : RunAt f sq pre ws cnt lst) (hl : ws.length ≤ pre.length) (h1 : f n ≠ -1) (h2 : f n ≠ -2) (h3 : sq = false) : RunAt f sq (pre ++ [(n : Int)]) (ws ++ [⟨#[(f n).toNat]⟩]) (cnt + 1) (f n) ∧ (ws ++ [(⟨#[(f n).toNat]⟩ : Str)]).length ≤ (pre ++ [(n : Int)]).length := by
  refine ⟨?_, by simp [hl]⟩
  unfold RunAt; rw [runs_snoc, ← h]; unfold rstep; rw [if_neg h1, if_neg (by rintro (q | q); exact h2 q; simp [h3] at q)]
end
theorem rstep_ones {f : Int → Int} {sq : Bool} {st : List Str × Int × Int} {c : Int} (h : ∀ a ∈ st.1, a.length = 1) : ∀ a ∈ (rstep f sq st c).1, a.length = 1 := by
  have add : ∀ (y : Str), y.length = 1 → ∀ a ∈ st.1 ++ [y], a.length = 1 := by
    intro y hy a ha
    rcases List.mem_append.mp ha with q | q
    · exact h a q
    · rw [List.mem_singleton.mp q]; exact hy
  unfold rstep
  split
  · exact add _ rfl
  · split
    · exact h
    · exact add _ rfl
theorem runs_ones (f : Int → Int) (sq : Bool) : ∀ (cs : List Int) (st : List Str × Int × Int), (∀ a ∈ st.1, a.length = 1) → ∀ a ∈ (cs.foldl (rstep f sq) st).1, a.length = 1
  | [], _, h => h
  | _ :: cs, _, h => runs_ones f sq cs _ (rstep_ones h)
theorem sum_ones : ∀ (ws : List Str), (∀ a ∈ ws, a.length = 1) → (ws.map (·.length)).sum = ws.length
  | [], _ => rfl
  | a :: ws, h => by
    rw [List.map_cons, List.sum_cons, sum_ones ws fun b hb => h b (List.mem_cons_of_mem _ hb), h a (List.mem_cons_self ..), List.length_cons]; omega
theorem runat_fits {f : Int → Int} {sq : Bool} {pre : List Int} {ws : List Str} {cnt lst : Int} {n : Nat} (h : RunAt f sq pre ws cnt lst) (hl : ws.length ≤ n) (hn : n ≤ 1000) : (ws.map (·.length)).sum + ws.length * 64 ≤ 16777216 := by
  have e : ws = (runs f sq pre).1 := congrArg Prod.fst h
  have ho : ∀ a ∈ ws, a.length = 1 := by rw [e]; exact runs_ones f sq pre _ (fun _ hq => nomatch hq)
  rw [sum_ones ws ho]
  omega
noncomputable def outS (f : Int → Int) (sq : Bool) (x : Str) : Str := Txt.join (Str.ofString "") (runs f sq (KStt.codes x)).1
def cntS (f : Int → Int) (sq : Bool) (x : Str) : Int := (runs f sq (KStt.codes x)).2.1
theorem out_eq {f : Int → Int} {sq : Bool} {x : Str} {ws : List Str} {cnt lst : Int} (h : RunAt f sq (KStt.codes x) ws cnt lst) : Txt.join (Str.ofString "") ws = outS f sq x ∧ cnt = cntS f sq x := by
  unfold RunAt at h
  exact ⟨by unfold outS; rw [← h], by unfold cntS; rw [← h]⟩
local macro_rules | `(tactic| walk_at "call builtin:str.join") => `(tactic| (k_here; (with_reducible show wpAny _ _ (call (Value.builtin "str.join") [Value.str _ _, Value.ref _]) _ _ _); k_dflt (refine join_listC (by is_list) (by assumption) (by decide) (runat_fits (by assumption) (by assumption) (by assumption)) ?_); intro tj kj))
local macro_rules | `(tactic| walk_at "call ref") => `(tactic| (
  k_here
  first
  | ((refine' (code_con _ _ _ _ _ _ _ _ _ _ _ _ _ _ _ _ _ _ _ _ _ _ _ _ _ _ ?hi ?hl ?hb ?hi2 ?hl2 ?hlo ?hd1 ?hf1).use ?B ?F ?X ?N ?T ?m ?k ?d ?u ?_; (case B => k_asm); (case F => k_asm); (case X => k_asm); (case N => k_asm); (case m => k_allIn); (case T => k_asm); (case k => first | exact rfl | assumption); (case d => ktr_room); (case u => ktr_units); (case hi => assumption); (case hl => assumption); (case hb => assumption); (case hi2 => assumption); (case hl2 => assumption); (case hlo => assumption); (case hd1 => assumption); (case hf1 => assumption); intro v9 tl9 h9 tk9 H9 F9 N9; (try dsimp only at H9); (obtain ⟨t9, e9, e8⟩ := H9); (subst e9); (subst e8); (try simp only [List.cons_append, List.nil_append] at N9); (try k_fold))
     ; (have hq9 := chr_fact (by assumption) (by assumption)))
  ))
theorem run_con (w : World) (x dx lc lb lm : Addr) (od : Obj) (kvs : List (Int × Value)) (c : List (Int × Int)) (us vs : List Value) (bs ms : List Int) (nb nm : Nat) (trn del sq : Bool) (t1 t2 t3 t4 t5 t6 tx : Tok) (text : Str)
   (hi : IntsAre us bs) (hl : bs.length ≤ 1000) (hb : Mono bs) (hi2 : IntsAre vs ms) (hl2 : ms.length ≤ 1000) (hlo : (lc == sysModules) = false) (hd1 : od.IsDictOf (PySem.intKind PG w) kvs) (hf1 : PyProof.V.FlatPairs PyData.int kvs (kdfD c))
   (hx : text.length ≤ 1000) (hch : ChrOK (tcode trn c bs ms del) text) :
   FCon w 199 8 500 [.ref x, .str text tx] [(x, instObj 125 dx), (dx, dictOf (tabEs w t1 t2 t3 t4 t5 t6 lc lb lm trn del sq) 6), (lc, od), (lb, listOf us.toArray nb), (lm, listOf vs.toArray nm)]
     (fun v new => ∃ l ta tb, v = .ref l ∧ new = [(l, tup2 (.str (outS (tcode trn c bs ms del) sq text) ta) (.int (cntS (tcode trn c bs ms del) sq text) tb))]) := by
  refine fcon_of fun rest => ?_
  unfold Con
  simp only [List.cons_append, List.nil_append]
  intro mean mg mb dp un gd cn cs a ccd cl outer A₀ base h₀ L m s Q E B F X N T hcs hd hu hret
  w_top off
  k_with_none
  refine wpAny_call ?_
  k_dflt cell_enter
  k_with "state" => first | exact rs0 _ _ | exact rs1 (by assumption) (by assumption) (by assumption) | exact rs2 (by assumption) (by assumption) (by assumption) (by assumption) | exact rs3 (by assumption) (by assumption) (by assumption) (by assumption) (by assumption) (by assumption) | exact rs4 (by assumption) (by assumption) (by assumption) (by assumption) (by assumption) (by assumption) | exact rs5 (by assumption) (by assumption) (by assumption) (by assumption) (by assumption)
  k_with "pyIter str" => k_state (fun pre ws cnt lst => RunAt (tcode trn c bs ms del) sq pre ws cnt lst ∧ ws.length ≤ pre.length) "out$" "count" "last"
  k_steps


  obtain ⟨ho1, ho2⟩ := out_eq (by assumption)
  (rename News _ _ _ _ => kN9)
  rw [ho1, ho2] at kN9
  (rename _ ∧ _ ∧ _ ∧ _ ∧ _ ∧ _ ∧ AllLt _ _ => hl1)
  exact hret _ _ _ _ ⟨[(_, tup2 (.str _ _) (.int _ _))], ⟨_, _, _, rfl, rfl⟩, rfl, fresh1 hl1.2⟩ (by k_asm) (by tb_rel)
end Mine
/- CEsc -/
namespace Mine
open PySem PySem.W PyProof.Rows
local macro_rules | `(tactic| tb_rel) => `(tactic| first | assumption | exact fun _ h => h | exact fun _ h => List.mem_append_left _ h | exact fun _ h => List.mem_append_right _ h | (refine led_drop (by assumption) ?_; tb_rel) | (refine led_kp ?_; tb_rel) | (refine led_tl1 ?_; tb_rel))
theorem esc_con (w : World) (text : Str) (at_ : Int) (t t2 : Tok) (hx : text.length ≤ 1000) (hs : Txt.slice text (some (at_ + 1)) (some (at_ + 2)) = Str.ofString "-") :
   RCon w 101 2 60 [.str text t, .int at_ t2] []
     (fun v new => ∃ l t t', v = .ref l ∧ new = [(l, tup2 (.str (Str.ofString "-") t) (.int (at_ + 2) t'))]) := by
  refine rcon_of fun rest => ?_
  unfold Con
  simp only [List.nil_append]
  intro mean mg mb dp un gd cn cs a ccd cl outer A₀ base h₀ L m s Q E B F X N T hcs hd hu hret
  w_top off
  k_with_none
  refine wpAny_call ?_
  k_dflt cell_enter
  iterate 20 (try (first | walk1 | (dsimp only; walk1)))
  (rename Fr _ _ _ _ => kF9)
  rw [hs] at kF9
  k_steps
  · exact hret _ _ _ _ ⟨[(_, tup2 (.str _ _) (.int _ _))], ⟨_, _, _, rfl, rfl⟩, rfl⟩ (by k_asm) (by tb_rel)
  · exact absurd (show (Builtin.Str.occurrences (Str.ofString "01234567") (Str.ofString "-") 0 (Str.length (Str.ofString "01234567")) 1).isEmpty = false by assumption) (by decide +kernel)
local macro_rules | `(tactic| walk_at "call ref") => `(tactic| k_extra "my call")
theorem guard_con (w : World) (text : Str) (at_ : Int) (t t2 : Tok) (hx : text.length ≤ 1000) (hs : Txt.slice text (some (at_ + 1)) (some (at_ + 2)) = Str.ofString "-") :
   RCon w 136 4 100 [.str text t, .int at_ t2] []
     (fun v new => ∃ l t t', v = .ref l ∧ new = [(l, tup2 (.str (Str.ofString "-") t) (.int (at_ + 2) t'))]) := by
  refine rcon_of fun rest => ?_
  unfold Con
  simp only [List.nil_append]
  intro mean mg mb dp un gd cn cs a ccd cl outer A₀ base h₀ L m s Q E B F X N T hcs hd hu hret
  w_top off
  k_with_none
  k_with "my call" => (
    k_here
    first
    | (refine (esc_con _ _ _ _ _ (by first | with_reducible assumption | assumption) (by first | with_reducible assumption | assumption)).use (by k_asm) (by k_asm) (by k_asm) (by k_asm) (by k_asm) (by k_allIn) (by first | exact rfl | assumption) (by ktr_room) (by ktr_units) ?_; intro v9 tl9 h9 tk9 H9 F9 N9; (try dsimp only at H9); (obtain ⟨l9, t9, t8, e9, e8⟩ := H9); (subst e9); (subst e8); (try simp only [List.cons_append, List.nil_append] at N9); (try k_fold))
    )
  refine wpAny_call ?_
  k_dflt cell_enter
  k_steps
  exact hret _ _ _ _ ⟨[(_, tup2 (.str _ _) (.int _ _))], ⟨_, _, _, rfl, rfl⟩, rfl⟩ (by k_asm) (by tb_rel)
end Mine
/- PStr -/
namespace Mine
open PySem PySem.W PyProof.Rows
theorem slice_eq {x : Str} {i j : Int} (h0 : 0 ≤ i) (h1 : i ≤ j) (h2 : j ≤ x.length) : Txt.slice x (some i) (some j) = ⟨((x.cps.toList.drop i.toNat).take (j - i).toNat).toArray⟩ :=
  eq_of_beq (slice_closesL h0 h1 h2)
theorem item_eq {x : Str} {i : Int} (h0 : 0 ≤ i) (h1 : i < x.length) : Txt.item x i = ⟨#[x.cps.toList.getD i.toNat 0]⟩ := by
  rw [item_at h0 h1 rfl]
  congr 2
  simp [Array.getD_eq_getD_getElem?]
theorem drop_cons {l : List Nat} {k : Nat} (h : k < l.length) : l.drop k = l.getD k 0 :: l.drop (k + 1) := by
  rw [List.drop_eq_getElem_cons h, List.getD_eq_getElem?_getD, List.getElem?_eq_getElem h]; rfl
theorem len_cps (x : Str) : x.cps.toList.length = x.length := by simp [Str.length]
end Mine
/- CSigns -/
namespace Mine
open PySem PySem.W PyProof.Rows
local macro_rules | `(tactic| walk_at "no such key") => `(tactic| fail "no such key")
local macro_rules | `(tactic| tb_rel) => `(tactic| first | assumption | exact fun _ h => h | exact fun _ h => List.mem_append_left _ h | exact fun _ h => List.mem_append_right _ h | (refine led_drop (by assumption) ?_; tb_rel) | (refine led_kp ?_; tb_rel) | (refine led_tl1 ?_; tb_rel))
/-- the list bears these signs, each a tuple of the ledger -/
inductive SgAre (news : Led) : List Value → List (Int × Bool) → Prop
  | nil : SgAre news [] []
  | cons {a : Addr} {c : Int} {t : Tok} {b : Bool} {vs : List Value} {sg : List (Int × Bool)} : (a, tup2 (.int c t) (.bool b)) ∈ news → SgAre news vs sg → SgAre news (.ref a :: vs) ((c, b) :: sg)
inductive Spelt : List Nat → List (Int × Bool) → Prop
  | nil : Spelt [] []
  | plain {c : Nat} {l : List Nat} {sg : List (Int × Bool)} : c ≠ 92 → Spelt l sg → Spelt (c :: l) (((c : Int), false) :: sg)
  | bar {l : List Nat} {sg : List (Int × Bool)} : Spelt l sg → Spelt (92 :: 45 :: l) ((45, true) :: sg)
theorem Spelt.len {l : List Nat} {sg : List (Int × Bool)} (h : Spelt l sg) : sg.length ≤ l.length := by
  induction h with
  | nil => exact Nat.le_refl _
  | plain _ _ ih => simp only [List.length_cons]; omega
  | bar _ ih => simp only [List.length_cons]; omega
theorem SgAre.length {news : Led} {us : List Value} {sg : List (Int × Bool)} (h : SgAre news us sg) : us.length = sg.length := by
  induction h with
  | nil => rfl
  | cons _ _ ih => simp only [List.length_cons]; omega
theorem SgAre.mono {news news' : Led} {us : List Value} {sg : List (Int × Bool)} (h : SgAre news us sg) (hs : ∀ p ∈ news, p ∈ news') : SgAre news' us sg := by
  induction h with
  | nil => exact .nil
  | cons hm _ ih => exact .cons (hs _ hm) ih
theorem SgAre.snoc {tl : Led} {us : List Value} {sg : List (Int × Bool)} {a : Addr} {c c' : Int} {t : Tok} {b : Bool} (h : SgAre tl us sg) (e : c = c') : SgAre ((a, tup2 (.int c t) (.bool b)) :: tl) (us ++ [.ref a]) (sg ++ [(c', b)]) := by
  subst e
  induction h with
  | nil => exact .cons (List.mem_cons_self ..) .nil
  | cons hm _ ih => exact .cons (List.mem_cons_of_mem _ hm) ih
theorem Spelt.inv_bar {d : List Nat} {r : List (Int × Bool)} (h : Spelt (92 :: d) r) : ∃ l r', d = 45 :: l ∧ r = (45, true) :: r' ∧ Spelt l r' := by
  cases h with
  | plain hne _ => exact absurd rfl hne
  | bar h' => exact ⟨_, _, rfl, rfl, h'⟩
theorem spelt_bar {x : Str} {k : Nat} {r : List (Int × Bool)} (h : Spelt (x.cps.toList.drop k) r) (hk : k < x.length) (hc : x.cps.toList.getD k 0 = 92) :
    ∃ r', r = (45, true) :: r' ∧ Spelt (x.cps.toList.drop (k + 2)) r' ∧ k + 1 < x.length ∧ x.cps.toList.getD (k + 1) 0 = 45 := by
  have hl := len_cps x
  rw [drop_cons (by omega), hc] at h
  obtain ⟨l, r', e, e', h'⟩ := h.inv_bar
  have hk1 : k + 1 < x.cps.toList.length := by
    by_cases q : k + 1 < x.cps.toList.length
    · exact q
    · rw [List.drop_eq_nil_of_le (by omega)] at e; cases e
  rw [drop_cons hk1] at e
  injection e with e1 e2
  exact ⟨_, e', by rw [e2]; exact h', by omega, e1⟩
theorem Spelt.inv_plain {c : Nat} {d : List Nat} {r : List (Int × Bool)} (h : Spelt (c :: d) r) (hc : c ≠ 92) : ∃ r', r = ((c : Int), false) :: r' ∧ Spelt d r' := by
  cases h with
  | plain _ h' => exact ⟨_, rfl, h'⟩
  | bar _ => exact absurd rfl hc
theorem spelt_plain {x : Str} {k : Nat} {r : List (Int × Bool)} (h : Spelt (x.cps.toList.drop k) r) (hk : k < x.length) (hc : x.cps.toList.getD k 0 ≠ 92) :
    ∃ r', r = (((x.cps.toList.getD k 0 : Nat) : Int), false) :: r' ∧ Spelt (x.cps.toList.drop (k + 1)) r' := by
  have hl := len_cps x
  rw [drop_cons (by omega)] at h
  exact h.inv_plain hc
theorem spelt_end {x : Str} {k : Nat} {r : List (Int × Bool)} (h : Spelt (x.cps.toList.drop k) r) (hk : x.length ≤ k) : r = [] := by
  have hl := len_cps x
  rw [List.drop_eq_nil_of_le (by omega)] at h
  cases h; rfl
theorem bar_code : Str.ofString "\\" = ⟨#[92]⟩ := by decide +kernel
theorem minus_code : Str.ofString "-" = ⟨#[45]⟩ := by decide +kernel
theorem item_bar {x : Str} {i : Int} (h0 : 0 ≤ i) (h1 : i < x.length) (h : (Txt.item x i == Str.ofString "\\") = true) : x.cps.toList.getD i.toNat 0 = 92 := by
  have e := eq_of_beq h
  rw [item_eq h0 h1, bar_code] at e
  injection e with e; injection e with e; injection e
theorem item_nobar {x : Str} {i : Int} (h0 : 0 ≤ i) (h1 : i < x.length) (h : (Txt.item x i == Str.ofString "\\") = false) : x.cps.toList.getD i.toNat 0 ≠ 92 := by
  intro q
  rw [item_eq h0 h1, q, bar_code] at h
  exact absurd h (by decide)
theorem slice_minus {x : Str} {i : Int} (h0 : 0 ≤ i) (h1 : i + 1 < x.length) (h : x.cps.toList.getD (i.toNat + 1) 0 = 45) : Txt.slice x (some (i + 1)) (some (i + 2)) = Str.ofString "-" := by
  rw [slice_eq (by omega) (by omega) (by omega), minus_code]
  have e1 : (i + 1).toNat = i.toNat + 1 := by omega
  have e2 : (i + 2 - (i + 1)).toNat = 1 := by omega
  have hl := len_cps x
  rw [e1, e2, drop_cons (by omega), h]
  rfl
/-- at a bar: what the next sign is, and what is left -/
theorem at_bar {x : Str} {i : Int} {r : List (Int × Bool)} (h0 : 0 ≤ i) (h1 : i < x.length) (h : (Txt.item x i == Str.ofString "\\") = true) (q : Spelt (x.cps.toList.drop i.toNat) r) :
    i + 1 < x.length ∧ Txt.slice x (some (i + 1)) (some (i + 2)) = Str.ofString "-" ∧ ∃ r', r = (45, true) :: r' ∧ Spelt (x.cps.toList.drop (i + 2).toNat) r' := by
  obtain ⟨r', e1, e2, e3, e4⟩ := spelt_bar q (by omega) (item_bar h0 h1 h)
  have e5 : (i + 2).toNat = i.toNat + 2 := by omega
  exact ⟨by omega, slice_minus h0 (by omega) e4, r', e1, by rw [e5]; exact e2⟩
theorem at_plain {x : Str} {i : Int} {r : List (Int × Bool)} (h0 : 0 ≤ i) (h1 : i < x.length) (h : (Txt.item x i == Str.ofString "\\") = false) (q : Spelt (x.cps.toList.drop i.toNat) r) :
    ∃ r', r = ((((Txt.item x i).cps.getD 0 0 : Nat) : Int), false) :: r' ∧ Spelt (x.cps.toList.drop (i + 1).toNat) r' := by
  obtain ⟨r', e1, e2⟩ := spelt_plain q (by omega) (item_nobar h0 h1 h)
  have e5 : (i + 1).toNat = i.toNat + 1 := by omega
  refine ⟨r', ?_, by rw [e5]; exact e2⟩
  rw [e1, item_eq h0 h1]
  rfl
structure SgSt where
  us : List Value
  n : Nat
  tl : Led
  at_ : Int
  ta : Tok
  sg : List (Int × Bool)
abbrev sgLed (l : Addr) (rest : Led) (c : SgSt) : Led := (l, listOf c.us.toArray c.n) :: (c.tl ++ rest)
abbrev sgPs (c : SgSt) : List (Str × Value) := [(Str.ofString "at", .int c.at_ c.ta)]
abbrev sgFacts (l : Addr) (rest : Led) (c : SgSt) : Prop := SgAre c.tl c.us c.sg ∧ OwnOff (c.tl ++ rest) [l]
abbrev sgP (text : Str) (SG : List (Int × Bool)) (c : SgSt) : Prop := 0 ≤ c.at_ ∧ c.at_ ≤ (text.length : Int) ∧ ∃ r, Spelt (text.cps.toList.drop c.at_.toNat) r ∧ c.sg ++ r = SG
abbrev sgMu (text : Str) (c : SgSt) : Nat := (text.length - c.at_).toNat
theorem signs_loop {prog : Program} {w : World} {A : Around} {E : Value → Shared → Prop} {Q : Flow → Shared → Prop} {s : Shared} {env : Env} {h₀ : Heap} {L : Addr} {test : Expr} {body : List Stmt} {pos : Pos} {m₀ : Str → Option Value}
    {l : Addr} {rest : Led} {text : Str} {SG : List (Int × Bool)} {t0 : Tok}
    (F : Fr h₀ L s.heap m₀) (N : News h₀ L s.heap ((l, listOf #[] 0) :: rest)) (hs : Spelt text.cps.toList SG) (hk : m₀ (Str.ofString "at") = some (.int 0 t0)) (ho : ∀ p ∈ rest, p.1 < l)
    (turn : ∀ (us : List Value) (n : Nat) (tl : Led) (at_ : Int) (ta : Tok) (sg r : List (Int × Bool)) (u : Str → Option Value) h tk, SgAre tl us sg → OwnOff (tl ++ rest) [l] → 0 ≤ at_ → at_ ≤ (text.length : Int) → Spelt (text.cps.toList.drop at_.toNat) r → sg ++ r = SG →
      Fr h₀ L h (kstB (fun z => if [Str.ofString "sign"].contains z then u z else m₀ z) [(Str.ofString "at", .int at_ ta)]) → News h₀ L h ((l, listOf us.toArray n) :: (tl ++ rest)) →
      wpAny (model prog w) A (isTrue test env (eval test env)) (fun b s₂ =>
        if b = true then wpAny (model prog w) A (execs body env) (KswPost h₀ L s (sgLed l rest) sgPs (sgFacts l rest) [Str.ofString "sign"] m₀ (sgP text SG) (sgMu text) Q ⟨us, n, tl, at_, ta, sg⟩) E s₂ else Q .next s₂) E { s with heap := h, toks := tk })
    (hE : PassesOwn (model prog w) A env E := by passes_own) :
    wpAny (model prog w) A (exec (.While test body [] pos) env) Q E s := by
  refine ksw_while (σ := SgSt) (sgLed l rest) sgPs (sgFacts l rest) [Str.ofString "sign"] (sgP text SG) (sgMu text) ⟨[], 0, [], 0, t0, []⟩ F N ⟨.nil, ?_⟩ ?_ ⟨Int.le_refl _, Int.natCast_nonneg _, SG, by simpa using hs, rfl⟩ ?_ hE
  · intro p hp b hb
    rw [List.mem_singleton.mp hb]
    exact Nat.ne_of_lt (ho p hp)
  · intro p hp
    rw [List.mem_singleton.mp hp]; exact hk
  · rintro ⟨us, n, tl, at_, ta, sg⟩ u h tk ⟨h1, h2⟩ ⟨h3, h4, r, h5, h6⟩ F₁ N₁
    exact turn us n tl at_ ta sg r u h tk h1 h2 h3 h4 h5 h6 F₁ N₁
theorem sg_fits {x : Str} {tl : Led} {us : List Value} {sg r SG : List (Int × Bool)} (h : Spelt x.cps.toList SG) (hx : x.length ≤ 1000) (q : SgAre tl us sg) (e : sg ++ r = SG) : us.length ≤ 1000 := by
  have h1 := h.len
  have h2 := q.length
  have hl := len_cps x
  rw [← e, List.length_append] at h1
  omega
theorem sg_end {h₀ h' : Heap} {L : Addr} {s : Shared} {m₀ m' : Str → Option Value} {rest X tl : Led} {text : Str} {SG sg r r' : List (Int × Bool)} {l D : Addr} {us : List Value} {n : Nat} {at_ at' c : Int} {ta ta' t : Tok} {b : Bool} {tk : Nat}
    (F : Fr h₀ L h' m') (N : News h₀ L h' ((D, tup2 (.int c t) (.bool b)) :: X)) (hX : (l, listOf (us.toArray.push (.ref D)) (n + 1)) ∈ X) (hX2 : ∀ p ∈ tl ++ rest, p ∈ X)
    (q1 : SgAre tl us sg) (q2 : OwnOff (tl ++ rest) [l]) (hD : @LT.lt Nat _ l D) (hat : m' (Str.ofString "at") = some (.int at' ta'))
    (hr : ∀ z, (∀ p ∈ [(Str.ofString "at", Value.int at' ta')], z ≠ p.1) → [Str.ofString "sign"].contains z = false → m' z = m₀ z)
    (h0 : 0 ≤ at_) (h1 : at_ < at') (h2 : at' ≤ (text.length : Int)) (e : r = (c, b) :: r') (q5 : Spelt (text.cps.toList.drop at'.toNat) r') (q6 : sg ++ r = SG) :
    KswEnd h₀ L s (sgLed l rest) sgPs (sgFacts l rest) [Str.ofString "sign"] m₀ (sgP text SG) (sgMu text) ⟨us, n, tl, at_, ta, sg⟩ { s with heap := h', toks := tk } := by
  refine ksw_end (σ := SgSt) ⟨us ++ [.ref D], n + 1, (D, tup2 (.int c t) (.bool b)) :: tl, at', ta', sg ++ [(c, b)]⟩ F N ?_ ⟨q1.snoc rfl, ?_⟩ ?_ ?_ ⟨by show 0 ≤ at'; omega, h2, r', q5, ?_⟩ ?_
  · intro p hp
    rcases List.mem_cons.mp hp with rfl | hp
    · rw [List.push_toArray] at hX
      exact List.mem_cons_of_mem _ hX
    · rcases List.mem_cons.mp hp with rfl | hp
      · exact List.mem_cons_self ..
      · exact List.mem_cons_of_mem _ (hX2 p hp)
  · intro p hp b hb
    rcases List.mem_cons.mp hp with rfl | hp
    · rw [List.mem_singleton.mp hb]
      exact Nat.ne_of_gt hD
    · exact q2 p hp b hb
  · intro p hp
    rw [List.mem_singleton.mp hp]; exact hat
  · exact hr
  · show (sg ++ [(c, b)]) ++ r' = SG
    rw [← q6, e, List.append_assoc]; rfl
  · show (text.length - at').toNat < (text.length - at_).toNat
    omega
theorem tup_ne {h₀ h : Heap} {L a b : Addr} {x y : Value} {us : Array Value} {n : Nat} {rest : Led} (N : News h₀ L h ((a, tup2 x y) :: (b, listOf us n) :: rest)) : @Ne Nat a b := by
  intro e
  have h1 := (N _ (List.mem_cons_self ..)).1
  have h2 := (N _ (List.mem_cons_of_mem _ (List.mem_cons_self ..))).1
  have e' : a = b := e
  rw [e', h2] at h1
  have := congrArg Obj.cls (Option.some.inj h1)
  exact absurd this (by show ¬ Value.type "list" = Value.type "tuple"; simp)
local macro_rules | `(tactic| walk_at "call ref") => `(tactic| k_extra "my call")
theorem signs_con (w : World) (text : Str) (t : Tok) (SG : List (Int × Bool)) (hx : text.length ≤ 1000) (hs : Spelt text.cps.toList SG) :
   RCon w 143 6 150 [.str text t] []
     (fun v new => ∃ l us n tl, v = .ref l ∧ new = (l, listOf us.toArray n) :: tl ∧ SgAre tl us SG) := by
  refine rcon_of fun rest => ?_
  unfold Con
  simp only [List.nil_append]
  intro mean mg mb dp un gd cn cs a ccd cl outer A₀ base h₀ L m s Q E B F X N T hcs hd hu hret
  w_top off
  k_with_none
  k_with "my call" => (
    k_here
    first
    | ((refine (guard_con _ _ _ _ _ (by first | with_reducible assumption | assumption) (at_bar (by assumption) (by assumption) (by assumption) (by assumption)).2.1).use (by k_asm) (by k_asm) (by k_asm) (by k_asm) (by k_asm) (by k_allIn) (by first | exact rfl | assumption) (by ktr_room) (by ktr_units) ?_; intro v9 tl9 h9 tk9 H9 F9 N9; (try dsimp only at H9); (obtain ⟨l9, t9, t8, e9, e8⟩ := H9); (subst e9); (subst e8); (try simp only [List.cons_append, List.nil_append] at N9); (try k_fold))
     ; (have hne9 := tup_ne (by assumption)))
    )
  refine wpAny_call ?_
  k_dflt cell_enter
  k_with "exec While Compare cons nil" => (k_dflt (refine' signs_loop (text := text) (SG := SG) ?F ?N hs ?k ?o ?_ ?hE); (case F => k_asm); (case N => k_asm); (case k => rfl); (case o => assumption); (case hE => first | passes_own | with_unfolding_all passes_own); intro us n tl at_ ta sg r u h tk q1 q2 q3 q4 q5 q6 F1 N1; (simp only [kstB] at F1); (have q7 : us.length ≤ 1000 := sg_fits hs hx q1 q6); (try k_fold))
  k_steps
  · obtain ⟨z1, z2, r', e1, e2⟩ := at_bar q3 (by assumption) (by assumption) q5
    exact sg_end (by assumption) (by assumption) (.tail _ (.head _)) (fun p hp => .tail _ (.tail _ hp)) q1 q2 (ltN (by omega)) (by rfl) (by ksw_same) q3 (by omega) (by omega) e1 e2 q6
  · obtain ⟨z1, z2, r', e1, e2⟩ := at_bar q3 (by assumption) (by assumption) q5
    omega
  · obtain ⟨r', e1, e2⟩ := at_plain q3 (by assumption) (by assumption) q5
    exact sg_end (by assumption) (by assumption) (.head _) (fun p hp => .tail _ hp) q1 q2 (ltN (by omega)) (by rfl) (by ksw_same) q3 (by omega) (by omega) e1 e2 q6
  · have e := spelt_end q5 (by omega)
    rw [e, List.append_nil] at q6
    rw [q6] at q1
    refine hret _ _ _ _ ⟨(_, _) :: tl, ⟨_, us, n, tl, rfl, rfl, q1⟩, rfl⟩ (by k_asm) (by k_asm)
end Mine
/- CCodes -/
namespace Mine
open PySem PySem.W PyProof.Rows
def rng (a b : Int) : List Int := rangeKs a (b + 1 - a).toNat
inductive Spread : List (Int × Bool) → List Int → Prop
  | nil : Spread [] []
  | rng {c l : Int} {b b' : Bool} {sg : List (Int × Bool)} {cs : List Int} : c ≤ l → Spread sg cs → Spread ((c, b) :: (45, false) :: (l, b') :: sg) (rng c l ++ cs)
  | one {c : Int} {b : Bool} {sg : List (Int × Bool)} {cs : List Int} : (∀ l b' sg', sg ≠ (45, false) :: (l, b') :: sg') → Spread sg cs → Spread ((c, b) :: sg) (c :: cs)
/-- what a turn finds at the place k -/
inductive TurnAt (sg : List (Int × Bool)) (k : Int) (r : List Int) : Prop
  | rng {c l : Int} {b b' : Bool} {r' : List Int} : sg[k.toNat]? = some (c, b) → sg[(k + 1).toNat]? = some (45, false) → sg[(k + 2).toNat]? = some (l, b') → k + 2 < sg.length → c ≤ l → r = rng c l ++ r' → Spread (sg.drop (k + 3).toNat) r' → TurnAt sg k r
  | oneT {c d : Int} {b : Bool} {r' : List Int} : sg[k.toNat]? = some (c, b) → sg[(k + 1).toNat]? = some (d, true) → k + 2 < sg.length → r = c :: r' → Spread (sg.drop (k + 1).toNat) r' → TurnAt sg k r
  | oneF {c d : Int} {b : Bool} {r' : List Int} : sg[k.toNat]? = some (c, b) → sg[(k + 1).toNat]? = some (d, false) → d ≠ 45 → k + 2 < sg.length → r = c :: r' → Spread (sg.drop (k + 1).toNat) r' → TurnAt sg k r
  | last {c : Int} {b : Bool} {r' : List Int} : sg[k.toNat]? = some (c, b) → ¬ k + 2 < sg.length → r = c :: r' → Spread (sg.drop (k + 1).toNat) r' → TurnAt sg k r
theorem drop_some {α : Type} {l : List α} {k : Nat} {a : α} {d : List α} (h : l.drop k = a :: d) : l[k]? = some a ∧ l.drop (k + 1) = d := by
  have h1 : (l.drop k)[0]? = some a := by rw [h]; rfl
  rw [List.getElem?_drop] at h1
  have h2 : (l.drop k).drop 1 = d := by rw [h]; rfl
  rw [List.drop_drop] at h2
  exact ⟨by simpa using h1, h2⟩
theorem spread_at {sg : List (Int × Bool)} {k : Int} {r : List Int} (h : Spread (sg.drop k.toNat) r) (h0 : 0 ≤ k) (h1 : k < sg.length) : TurnAt sg k r := by
  have e1 : (k + 1).toNat = k.toNat + 1 := by omega
  have e2 : (k + 2).toNat = k.toNat + 1 + 1 := by omega
  have e3 : (k + 3).toNat = k.toNat + 1 + 1 + 1 := by omega
  generalize hd : sg.drop k.toNat = d at h
  cases h with
  | nil =>
    have := congrArg List.length hd
    simp at this; omega
  | rng hcl h' =>
    obtain ⟨a1, a2⟩ := drop_some hd
    obtain ⟨b1, b2⟩ := drop_some a2
    obtain ⟨c1, c2⟩ := drop_some b2
    refine .rng a1 (by rw [e1]; exact b1) (by rw [e2]; exact c1) ?_ hcl rfl (by rw [e3, c2]; exact h')
    have := (List.getElem?_eq_some_iff.mp c1).1
    omega
  | one hno h' =>
    obtain ⟨a1, a2⟩ := drop_some hd
    by_cases q : k + 2 < sg.length
    · cases hd2 : sg.drop (k.toNat + 1) with
      | nil =>
        have := congrArg List.length hd2
        simp at this; omega
      | cons p d2 =>
        obtain ⟨b1, b2⟩ := drop_some hd2
        obtain ⟨d, bb⟩ := p
        cases bb with
        | true => exact .oneT a1 (by rw [e1]; exact b1) q rfl (by rw [e1, a2]; exact h')
        | false =>
          refine .oneF a1 (by rw [e1]; exact b1) ?_ q rfl (by rw [e1, a2]; exact h')
          rintro rfl
          cases hd3 : sg.drop (k.toNat + 1 + 1) with
          | nil =>
            have := congrArg List.length hd3
            simp at this; omega
          | cons p3 d3 =>
            obtain ⟨l3, b3⟩ := p3
            refine hno l3 b3 d3 ?_
            rw [← a2, hd2, ← b2, hd3]
    · exact .last a1 q rfl (by rw [e1, a2]; exact h')
theorem sg_get {tl : Led} {us : List Value} {sg : List (Int × Bool)} (q : SgAre tl us sg) : ∀ {i : Nat} {c : Int} {b : Bool}, sg[i]? = some (c, b) → ∃ a t, us[i]? = some (.ref a) ∧ (a, tup2 (.int c t) (.bool b)) ∈ tl := by
  induction q with
  | nil => intro i c b h; simp at h
  | cons hm _ ih =>
    intro i c b h
    cases i with
    | zero =>
      simp only [List.getElem?_cons_zero, Option.some.injEq, Prod.mk.injEq] at h
      obtain ⟨rfl, rfl⟩ := h
      exact ⟨_, _, rfl, hm⟩
    | succ i =>
      simp only [List.getElem?_cons_succ] at h
      exact ih h
theorem sg_item {prog : Program} {w : World} {A : Around} {E : Value → Shared → Prop} {s : Shared} {h₀ : Heap} {L l : Addr} {led tl : Led} {us : List Value} {n : Nat} {sg : List (Int × Bool)} {k : Int} {u : Tok} {c : Int} {b : Bool} {value slice : PySem.Expr} {Q : Value → Shared → Prop}
    (N : News h₀ L s.heap led) (hm : (l, listOf us.toArray n) ∈ led) (q : SgAre tl us sg) (ht : ∀ p ∈ tl, p ∈ led) (h0 : 0 ≤ k) (hhi : k < 2 ^ 63) (hx : sg[k.toNat]? = some (c, b))
    (h : ∀ a t, News h₀ L s.heap ((a, tup2 (.int c t) (.bool b)) :: led) → Q (.ref a) s)
    (hs : subscripted slice false (.ref l) (.int k u) = operate [.ref l, .int k u] (getItem (.ref l) (.int k u)) := by with_unfolding_all rfl) :
    wpAny (model prog w) A (subscriptTail value slice (.ref l) (.int k u)) Q E s := by
  obtain ⟨a, t, h1, h2⟩ := sg_get q hx
  have hl : s.heap.IsList l us.toArray := ⟨_, (N _ hm).1, rfl, n, rfl⟩
  refine tail_any hl.typeIs slot_list_getitem.lookup (wpAny_getItem_list hl h0 hhi (by simpa using h1) (h a t ?_)) hs
  intro p hp
  rcases List.mem_cons.mp hp with rfl | hp
  · exact N _ (ht _ h2)
  · exact N p hp
theorem ownOff_of {d : Addr} {l : Led} (h : AllLt d l) : OwnOff l [d] := by
  intro p hp b hb
  rw [List.mem_singleton.mp hb]
  exact Nat.ne_of_lt (allLt_all h p hp)
structure CdSt where
  us : List Value
  cs : List Int
  n : Nat
  at_ : Int
  ta : Tok
abbrev cdLed (lf ls : Addr) (rs : List Value) (ns : Nat) (tl : Led) (c : CdSt) : Led := (lf, listOf c.us.toArray c.n) :: (ls, listOf rs.toArray ns) :: tl
abbrev cdPs (c : CdSt) : List (Str × Value) := [(Str.ofString "at", .int c.at_ c.ta)]
abbrev cdFacts (c : CdSt) : Prop := IntsAre c.us c.cs
abbrev cdP (SG : List (Int × Bool)) (CS : List Int) (c : CdSt) : Prop := 0 ≤ c.at_ ∧ c.at_ ≤ (SG.length : Int) ∧ ∃ r, Spread (SG.drop c.at_.toNat) r ∧ c.cs ++ r = CS
abbrev cdMu (SG : List (Int × Bool)) (c : CdSt) : Nat := (SG.length - c.at_).toNat
abbrev cdSt : List Str := [Str.ofString "code", Str.ofString "last", Str.ofString "one"]
theorem codes_loop {prog : Program} {w : World} {A : Around} {E : Value → Shared → Prop} {Q : Flow → Shared → Prop} {s : Shared} {env : Env} {h₀ : Heap} {L : Addr} {test : Expr} {body : List Stmt} {pos : Pos} {m₀ : Str → Option Value}
    {lf ls : Addr} {rs : List Value} {ns : Nat} {tl : Led} {SG : List (Int × Bool)} {CS : List Int} {t0 : Tok}
    (F : Fr h₀ L s.heap m₀) (N : News h₀ L s.heap ((lf, listOf #[] 0) :: (ls, listOf rs.toArray ns) :: tl)) (hs : Spread SG CS) (hk : m₀ (Str.ofString "at") = some (.int 0 t0))
    (turn : ∀ (us : List Value) (cs : List Int) (n : Nat) (at_ : Int) (ta : Tok) (r : List Int) (u : Str → Option Value) h tk, IntsAre us cs → 0 ≤ at_ → at_ ≤ (SG.length : Int) → Spread (SG.drop at_.toNat) r → cs ++ r = CS →
      Fr h₀ L h (kstB (fun z => if cdSt.contains z then u z else m₀ z) [(Str.ofString "at", .int at_ ta)]) → News h₀ L h ((lf, listOf us.toArray n) :: (ls, listOf rs.toArray ns) :: tl) →
      wpAny (model prog w) A (isTrue test env (eval test env)) (fun b s₂ =>
        if b = true then wpAny (model prog w) A (execs body env) (KswPost h₀ L s (cdLed lf ls rs ns tl) cdPs cdFacts cdSt m₀ (cdP SG CS) (cdMu SG) Q ⟨us, cs, n, at_, ta⟩) E s₂ else Q .next s₂) E { s with heap := h, toks := tk })
    (hE : PassesOwn (model prog w) A env E := by passes_own) :
    wpAny (model prog w) A (exec (.While test body [] pos) env) Q E s := by
  refine ksw_while (σ := CdSt) (cdLed lf ls rs ns tl) cdPs cdFacts cdSt (cdP SG CS) (cdMu SG) ⟨[], [], 0, 0, t0⟩ F N .nil ?_ ⟨Int.le_refl _, Int.natCast_nonneg _, CS, by simpa using hs, rfl⟩ ?_ hE
  · intro p hp
    rw [List.mem_singleton.mp hp]; exact hk
  · rintro ⟨us, cs, n, at_, ta⟩ u h tk h1 ⟨h3, h4, r, h5, h6⟩ F₁ N₁
    exact turn us cs n at_ ta r u h tk h1 h3 h4 h5 h6 F₁ N₁
theorem tup_ne2 {h₀ h : Heap} {L a b : Addr} {x y : Value} {us : Array Value} {n : Nat} {rest : Led} (N : News h₀ L h ((a, tup2 x y) :: rest)) (hm : (b, listOf us n) ∈ rest) : @Ne Nat a b := by
  intro e
  have h1 := (N _ (List.mem_cons_self ..)).1
  have h2 := (N _ (List.mem_cons_of_mem _ hm)).1
  have e' : a = b := e
  rw [e', h2] at h1
  have := congrArg Obj.cls (Option.some.inj h1)
  exact absurd this (by show ¬ Value.type "list" = Value.type "tuple"; simp)
theorem ap_step {cs pre fd : List Int} {k : Int} (h : fd = cs ++ pre) (h2 : fd.length = cs.length + pre.length) : fd ++ [k] = cs ++ (pre ++ [k]) ∧ (fd ++ [k]).length = cs.length + (pre ++ [k]).length := by
  constructor
  · rw [h, List.append_assoc]
  · rw [List.length_append, h2, List.length_append]; simp; omega
theorem cd_end {h₀ h' : Heap} {L : Addr} {s : Shared} {m₀ m' : Str → Option Value} {lf ls : Addr} {rs : List Value} {ns : Nat} {tl X : Led} {SG : List (Int × Bool)} {CS : List Int} {us us' : List Value} {cs cs' r' : List Int} {n n' : Nat} {at_ at' : Int} {ta ta' : Tok} {tk : Nat}
    (F : Fr h₀ L h' m') (N : News h₀ L h' X) (hX : ∀ p ∈ (lf, listOf us'.toArray n') :: (ls, listOf rs.toArray ns) :: tl, p ∈ X)
    (hi : IntsAre us' cs') (hat : m' (Str.ofString "at") = some (.int at' ta'))
    (hr : ∀ z, (∀ p ∈ [(Str.ofString "at", Value.int at' ta')], z ≠ p.1) → cdSt.contains z = false → m' z = m₀ z)
    (h0 : 0 ≤ at_) (h1 : at_ < at') (h2 : at' ≤ (SG.length : Int)) (q5 : Spread (SG.drop at'.toNat) r') (q6 : cs' ++ r' = CS) :
    KswEnd h₀ L s (cdLed lf ls rs ns tl) cdPs cdFacts cdSt m₀ (cdP SG CS) (cdMu SG) ⟨us, cs, n, at_, ta⟩ { s with heap := h', toks := tk } := by
  refine ksw_end (σ := CdSt) ⟨us', cs', n', at', ta'⟩ F N hX hi ?_ hr ⟨by show 0 ≤ at'; omega, h2, r', q5, q6⟩ ?_
  · intro p hp
    rw [List.mem_singleton.mp hp]; exact hat
  · show (SG.length - at').toNat < (SG.length - at_).toNat
    omega
theorem cd_rng {cs r r' CS fd : List Int} {c l : Int} (q6 : cs ++ r = CS) (g : r = rng c l ++ r') (e : fd = cs ++ rangeKs c (l + 1 - c).toNat) : fd ++ r' = CS := by
  rw [e, ← q6, g, List.append_assoc]; rfl
theorem cd_one {cs r r' CS fd : List Int} {c : Int} (q6 : cs ++ r = CS) (g : r = c :: r') (e : fd = cs ++ rangeKs c (c + 1 - c).toNat) : fd ++ r' = CS := by
  have h1 : (c + 1 - c).toNat = 1 := by omega
  have h2 : rangeKs c 1 = [c] := by simp [rangeKs]
  rw [e, h1, h2, ← q6, g, List.append_assoc]; rfl
theorem spread_end {sg : List (Int × Bool)} {k : Int} {r : List Int} (h : Spread (sg.drop k.toNat) r) (h1 : (sg.length : Int) ≤ k) : r = [] := by
  rw [List.drop_eq_nil_of_le (by omega)] at h
  cases h; rfl
theorem sg_bound {SG : List (Int × Bool)} (hb : ∀ p ∈ SG, 0 ≤ p.1 ∧ p.1 < 1114112) {i : Nat} {c : Int} {b : Bool} (g : SG[i]? = some (c, b)) : 0 ≤ c ∧ c < 1114112 := hb _ (List.mem_of_getElem? g)
theorem rng_fits {CS cs r r' : List Int} {c l : Int} (hc : CS.length ≤ 300) (q : cs ++ r = CS) (e : r = rng c l ++ r') : cs.length + (l + 1 - c).toNat ≤ 300 := by
  rw [← q, e, List.length_append, List.length_append] at hc
  unfold rng at hc
  rw [rangeKs_length] at hc
  omega
theorem one_fits {CS cs r r' : List Int} {c : Int} (hc : CS.length ≤ 300) (q : cs ++ r = CS) (e : r = c :: r') : cs.length + 1 ≤ 300 := by
  rw [← q, e, List.length_append, List.length_cons] at hc
  omega
local macro_rules | `(tactic| walk_at "call builtin:len") => `(tactic| (k_here; (with_reducible show wpAny _ _ (call (Value.builtin "len") [Value.ref _]) _ _ _); k_dflt (refine' kst_len ?k1 ?k2 ?k3 ?k4 ?_; (case k1 => k_asm); (case k2 => k_memK); (case k3 => exact SgAre.length (by assumption)); (case k4 => omega))))
local macro_rules | `(tactic| walk_at "subscriptTail") => `(tactic| (k_here; (with_reducible show wpAny _ _ (subscriptTail _ _ (Value.ref _) (Value.int _ _)) _ _ _); (with_unfolding_all refine' sg_item ?k1 ?k2 ?k3 ?k4 ?k5 ?k6 ?k7 ?_ ?k8); (case k1 => k_asm); (case k2 => k_memK); (case k3 => assumption); (case k4 => tb_rel); (case k5 => omega); (case k6 => omega); (case k7 => assumption); (case k8 => with_unfolding_all rfl); intro a9 t9 N9; (first | have hne9 := tup_ne2 N9 (.head _) | have hne9 := tup_ne2 N9 (.tail _ (.head _)) | have hne9 := tup_ne2 N9 (.tail _ (.tail _ (.head _))) | have hne9 := tup_ne2 N9 (.tail _ (.tail _ (.tail _ (.head _)))))))
local macro_rules | `(tactic| tb_rel) => `(tactic| first | assumption | exact fun _ h => h | exact fun _ h => List.mem_append_left _ h | exact fun _ h => List.mem_append_right _ h | (refine led_drop (by assumption) ?_; tb_rel) | (refine led_kp ?_; tb_rel) | (refine led_tl1 ?_; tb_rel))
local macro_rules | `(tactic| walk_at "call ref") => `(tactic| k_extra "my call")
theorem codes_con (w : World) (text : Str) (t t2 : Tok) (SG : List (Int × Bool)) (CS : List Int) (hx : text.length ≤ 1000) (hs : Spelt text.cps.toList SG) (hsp : Spread SG CS) (hCS : CS.length ≤ 300) (hb : ∀ p ∈ SG, 0 ≤ p.1 ∧ p.1 < 1114112) :
   RCon w 150 8 300 [.str text t, .int 300 t2] []
     (fun v new => ∃ l us n, v = .ref l ∧ new = [(l, listOf us.toArray n)] ∧ IntsAre us CS) := by
  refine rcon_of fun rest => ?_
  unfold Con
  simp only [List.nil_append]
  intro mean mg mb dp un gd cn cs a ccd cl outer A₀ base h₀ L m s Q E B F X N T hcs hd hu hret
  w_top off
  k_with_none
  k_with "my call" => (
    k_here
    first
    | (refine (signs_con _ _ _ _ (by first | with_reducible assumption | assumption) (by first | with_reducible assumption | assumption)).use (by k_asm) (by k_asm) (by k_asm) (by k_asm) (by k_asm) (by k_allIn) (by first | exact rfl | assumption) (by ktr_room) (by ktr_units) ?_; intro v9 tl9 h9 tk9 H9 F9 N9; (try dsimp only at H9); (obtain ⟨l9, us9, n9, tl9', e9, e8, hsg9⟩ := H9); (subst e9); (subst e8); (try simp only [List.cons_append, List.nil_append] at N9); (try k_fold))
    )
  refine wpAny_call ?_
  k_dflt cell_enter
  have q8 : SG.length ≤ 1000 := Nat.le_trans hs.len (by rw [len_cps]; exact hx)
  k_with "exec While Compare cons nil" => (
    k_dflt (refine' codes_loop (SG := SG) (CS := CS) ?F ?N hsp ?k ?_ ?hE)
    (case F => k_asm)
    (case N => k_asm)
    (case k => rfl)
    (case hE => first | passes_own | with_unfolding_all passes_own)
    intro us cs n at_ ta r u h tk q1 q3 q4 q5 q6 F1 N1
    refine Hold.out ?_)
  k_steps
  refine Hold.mk ?_
  simp only [kstB] at F1
  have q7 : cs.length ≤ 300 := by rw [← q6, List.length_append] at hCS; omega
  k_with "pyIter ref" => k_state (fun pre found => found = cs ++ pre ∧ found.length = cs.length + pre.length) "found"
  k_with "state" => first | exact ⟨by simp, by simp⟩ | exact ap_step (by assumption) (by assumption)
  by_cases hlt : at_ < (SG.length : Int)
  · rcases spread_at q5 q3 hlt with @⟨c, l, b, b', r', g0, g1, g2, g3, g4, g5, g6⟩ | @⟨c, d, b, r', g0, g1, g3, g5, g6⟩ | @⟨c, d, b, r', g0, g1, g2, g3, g5, g6⟩ | @⟨c, b, r', g0, g3, g5, g6⟩
    · have hc := sg_bound hb g0
      have hl := sg_bound hb g2
      have hn := rng_fits hCS q6 g5
      (try k_fold)
      k_steps
      exact cd_end (r' := r') (by assumption) (by assumption) (by tb_rel) (by assumption) (by rfl) (by ksw_same) q3 (by omega) (by omega) (by rw [show at_ + 2 + 1 = at_ + 3 by omega]; exact g6) (cd_rng q6 g5 (by assumption))
    · have hc := sg_bound hb g0
      have hn := one_fits hCS q6 g5
      (try k_fold)
      k_steps
      · exact absurd (show (d == 45 && true == false) = true by assumption) (by simp)
      · exact cd_end (r' := r') (by assumption) (by assumption) (by tb_rel) (by assumption) (by rfl) (by ksw_same) q3 (by omega) (by omega) g6 (cd_one q6 g5 (by assumption))
    · have hc := sg_bound hb g0
      have hn := one_fits hCS q6 g5
      (try k_fold)
      k_steps
      all_goals first | exact absurd (show d = 45 by assumption) g2 | exact cd_end (r' := r') (by assumption) (by assumption) (by tb_rel) (by assumption) (by rfl) (by ksw_same) q3 (by omega) (by omega) g6 (cd_one q6 g5 (by assumption))
    · have hc := sg_bound hb g0
      have hn := one_fits hCS q6 g5
      (try k_fold)
      k_steps
      exact cd_end (r' := r') (by assumption) (by assumption) (by tb_rel) (by assumption) (by rfl) (by ksw_same) q3 (by omega) (by omega) g6 (cd_one q6 g5 (by assumption))
  · (try k_fold)
    k_steps
    have er : r = [] := spread_end q5 (by omega)
    rw [er, List.append_nil] at q6
    rw [q6] at q1
    exact hret _ _ _ _ ⟨[(_, _)], ⟨_, us, n, rfl, rfl, q1⟩, rfl⟩ (by k_asm) (by tb_rel)
end Mine
/- CPlain -/
namespace Mine
open PySem PySem.W PyProof.Rows
local macro_rules | `(tactic| tb_rel) => `(tactic| first | assumption | exact fun _ h => h | exact fun _ h => List.mem_append_left _ h | exact fun _ h => List.mem_append_right _ h | (refine led_drop (by assumption) ?_; tb_rel) | (refine led_kp ?_; tb_rel) | (refine led_tl1 ?_; tb_rel))
def pval (ds : List Int) (del : Bool) (i : Nat) (k : Int) : Int :=
  if i < ds.length then ds.getD i 0 else if del = true then -2 else if ds = [] then k else ds.getD (ds.length - 1) 0
def pstep (cs ds : List Int) (del : Bool) (c : List (Int × Int)) (i : Nat) : List (Int × Int) :=
  if kdfHas c (cs.getD i 0) = true then c else kdfPut c (cs.getD i 0) (pval ds del i (cs.getD i 0))
def ptab (cs ds : List Int) (del : Bool) (n : Nat) : List (Int × Int) := (List.range n).foldl (pstep cs ds del) []
def PAt (cs ds : List Int) (del : Bool) (pre : List Int) (c : List (Int × Int)) : Prop := c = ptab cs ds del pre.length
theorem ptab_succ (cs ds : List Int) (del : Bool) (n : Nat) : ptab cs ds del (n + 1) = pstep cs ds del (ptab cs ds del n) n := by
  unfold ptab; rw [List.range_succ, List.foldl_append]; rfl
section
variable {cs ds : List Int} {del : Bool} {pre : List Int} {c : List (Int × Int)} {k : Int}
theorem ps0 (cs ds : List Int) (del : Bool) : PAt cs ds del [] [] ∧ ([] : List (Int × Int)).length ≤ ([] : List Int).length := ⟨rfl, Nat.le_refl _⟩
theorem ps1 (h : PAt cs ds del pre c) (hl : c.length ≤ pre.length) (e : k = 0 + (pre.length : Int)) (hh : kdfHas c (cs.getD k.toNat 0) = true) : PAt cs ds del (pre ++ [k]) c ∧ c.length ≤ (pre ++ [k]).length := by
  have ek : k.toNat = pre.length := by omega
  refine ⟨?_, by simp; omega⟩
  unfold PAt at h ⊢
  rw [List.length_append, List.length_singleton, ptab_succ, ← h]
  unfold pstep
  rw [← ek, if_pos hh]
theorem ps2 {v : Int} (h : PAt cs ds del pre c) (hl : c.length ≤ pre.length) (e : k = 0 + (pre.length : Int)) (hh : kdfHas c (cs.getD k.toNat 0) = false) (hv : v = pval ds del pre.length (cs.getD k.toNat 0)) :
    PAt cs ds del (pre ++ [k]) (kdfPut c (cs.getD k.toNat 0) v) ∧ (kdfPut c (cs.getD k.toNat 0) v).length ≤ (pre ++ [k]).length := by
  have ek : k.toNat = pre.length := by omega
  have hp := kdfPut_len c (cs.getD k.toNat 0) v
  refine ⟨?_, by rw [List.length_append, List.length_singleton]; omega⟩
  have hg : ¬ kdfHas c (cs.getD pre.length 0) = true := by rw [← ek, hh]; exact Bool.false_ne_true
  unfold PAt at h ⊢
  rw [List.length_append, List.length_singleton, ptab_succ, ← h]
  unfold pstep
  rw [if_neg hg, hv, ek]
theorem pv1 (e : k = 0 + (pre.length : Int)) (h : k < ds.length) {x : Int} : ds.getD k.toNat 0 = pval ds del pre.length x := by
  have ek : k.toNat = pre.length := by omega
  unfold pval; rw [if_pos (by omega), ek]
theorem pv2 (e : k = 0 + (pre.length : Int)) (h : ¬ k < ds.length) (hd : del = true) {x : Int} : -2 = pval ds del pre.length x := by
  unfold pval; rw [if_neg (by omega), if_pos hd]
theorem pv3 (e : k = 0 + (pre.length : Int)) (h : ¬ k < ds.length) (hd : del = false) (hz : decide (ds = []) = true) {x : Int} : x = pval ds del pre.length x := by
  unfold pval; rw [if_neg (by omega), if_neg (by simp [hd]), if_pos (of_decide_eq_true hz)]
theorem pv4 (e : k = 0 + (pre.length : Int)) (h : ¬ k < ds.length) (hd : del = false) (hz : decide (ds = []) = false) {x : Int} : ds.getD ((ds.length : Int) - 1).toNat 0 = pval ds del pre.length x := by
  have e2 : ((ds.length : Int) - 1).toNat = ds.length - 1 := by omega
  unfold pval; rw [if_neg (by omega), if_neg (by simp [hd]), if_neg (of_decide_eq_false hz), e2]
end
local macro_rules | `(tactic| units_room) => `(tactic| ktr_units)
local macro_rules | `(tactic| walk_at "subscriptTail Name BinOp ref int") => `(tactic| (k_here; (fail_if_success (with_reducible rename Nz _ => z9)); refine Hold.out ?_))
theorem plain_con (w : World) (l l2 : Addr) (us us2 : List Value) (n n2 : Nat) (cs ds : List Int) (hi : IntsAre us cs) (hi2 : IntsAre us2 ds) (hl : cs.length ≤ 300) (hl2 : ds.length ≤ 300) (del : Bool) :
   RCon w 157 4 200 [.ref l, .ref l2, .bool del] [(l, listOf us.toArray n), (l2, listOf us2.toArray n2)]
    (fun v new => ∃ ld o kvs, v = .ref ld ∧ new = [(ld, o)] ∧ (ld == sysModules) = false ∧ o.IsDictOf (PySem.intKind PG w) kvs ∧ PyProof.V.FlatPairs PyData.int kvs (kdfD (ptab cs ds del cs.length))) := by
  refine rcon_of fun rest => ?_
  unfold Con
  simp only [List.cons_append, List.nil_append]
  intro mean mg mb dp un gd cn sc a ccd cl outer A₀ base h₀ L m s Q E B F X N T hcs hd hu hret
  w_top off
  k_with_none

  refine wpAny_call ?_
  k_dflt cell_enter
  k_with "pyIter ref" => (refine Hold.out ?_)
  k_steps
  refine Hold.mk ?_
  k_state (fun pre (c : List (Int × Int)) => PAt cs ds del pre c ∧ c.length ≤ pre.length) "codes#"
  k_with "state" => first | exact ps0 _ _ _ | exact ps1 (by assumption) (by assumption) (by assumption) (by assumption) | exact ps2 (by assumption) (by assumption) (by assumption) (by assumption) (pv1 (by assumption) (by assumption)) | exact ps2 (by assumption) (by assumption) (by assumption) (by assumption) (pv2 (by assumption) (by assumption) (by assumption)) | exact ps2 (by assumption) (by assumption) (by assumption) (by assumption) (pv3 (by assumption) (by assumption) (by assumption) (by assumption)) | exact ps2 (by assumption) (by assumption) (by assumption) (by assumption) (pv4 (by assumption) (by assumption) (by assumption) (by assumption))
  k_steps
  · refine Hold.mk ?_
    have hz9 : Nz ds := nz_of (by assumption)
    have hz : 0 < ds.length := hz9
    k_steps
  · (rename PAt _ _ _ _ _ => e)
    unfold PAt at e
    rw [rangeKs_length, show ((cs.length : Int) - 0).toNat = cs.length by omega] at e
    (rename PyProof.V.FlatPairs _ _ _ => hf9)
    rw [e] at hf9
    exact hret _ _ _ _ ⟨[(_, _)], ⟨_, _, _, rfl, rfl, by assumption, by assumption, hf9⟩, rfl⟩ (by k_asm) (by tb_rel)
end Mine
/- COnce -/
namespace Mine
open PySem PySem.W PyProof.Rows
local macro_rules | `(tactic| tb_rel) => `(tactic| first | assumption | exact fun _ h => h | exact fun _ h => List.mem_append_left _ h | exact fun _ h => List.mem_append_right _ h | (refine led_drop (by assumption) ?_; tb_rel) | (refine led_kp ?_; tb_rel) | (refine led_tl1 ?_; tb_rel))
def ostep (fd : List Int) (c : Int) : List Int := if fd = [] ∨ fd.getD (fd.length - 1) 0 ≠ c then fd ++ [c] else fd
def once (cs : List Int) : List Int := cs.foldl ostep []
def OnceAt (pre fd : List Int) : Prop := fd = once pre
section
variable {pre fd : List Int} {k : Int}
theorem once_snoc (pre : List Int) (k : Int) : once (pre ++ [k]) = ostep (once pre) k := by unfold once; rw [List.foldl_append]; rfl
theorem os0 : OnceAt [] [] ∧ ([] : List Int).length ≤ ([] : List Int).length := ⟨rfl, Nat.le_refl _⟩
theorem os1 (h : OnceAt pre fd) (hl : fd.length ≤ pre.length) (e : fd = [] ∨ fd.getD ((fd.length : Int) - 1).toNat 0 ≠ k) : OnceAt (pre ++ [k]) (fd ++ [k]) ∧ (fd ++ [k]).length ≤ (pre ++ [k]).length := by
  refine ⟨?_, by simp [hl]⟩
  unfold OnceAt at h ⊢
  rw [once_snoc, ← h]
  unfold ostep
  have e2 : ((fd.length : Int) - 1).toNat = fd.length - 1 := by omega
  rw [e2] at e
  rw [if_pos e]
theorem os1a (e : decide (fd = []) = true) (h : OnceAt pre fd) (hl : fd.length ≤ pre.length) : OnceAt (pre ++ [k]) (fd ++ [k]) ∧ (fd ++ [k]).length ≤ (pre ++ [k]).length := os1 h hl (.inl (of_decide_eq_true e))
theorem os1b (e : fd.getD ((fd.length : Int) - 1).toNat 0 ≠ k) (h : OnceAt pre fd) (hl : fd.length ≤ pre.length) : OnceAt (pre ++ [k]) (fd ++ [k]) ∧ (fd ++ [k]).length ≤ (pre ++ [k]).length := os1 h hl (.inr e)
theorem os2 (e2 : fd.getD ((fd.length : Int) - 1).toNat 0 = k) (h : OnceAt pre fd) (hl : fd.length ≤ pre.length) (e' : decide (fd = []) = false) : OnceAt (pre ++ [k]) fd ∧ fd.length ≤ (pre ++ [k]).length := by
  have e := of_decide_eq_false e'
  refine ⟨?_, by simp; omega⟩
  unfold OnceAt at h ⊢
  rw [once_snoc, ← h]
  unfold ostep
  have e3 : ((fd.length : Int) - 1).toNat = fd.length - 1 := by omega
  rw [e3] at e2
  rw [if_neg (by rintro (q | q); exact e q; exact q e2)]
theorem pos_of {l : List Int} (h : decide (l = []) = false) : 0 < l.length := List.length_pos_iff.mpr (of_decide_eq_false h)
end
local macro_rules | `(tactic| units_room) => `(tactic| ktr_units)
local macro_rules | `(tactic| walk_at "InvEndN") => `(tactic| (refine Hold.out ?_))
local macro_rules | `(tactic| walk_at "subscriptTail Name BinOp ref int") => `(tactic| (k_here; (fail_if_success (with_reducible rename Nz _ => z9)); refine Hold.out ?_))
theorem once_con (w : World) (l : Addr) (us : List Value) (n : Nat) (cs : List Int) (hi : IntsAre us cs) (hl : cs.length ≤ 60) :
   RCon w 164 4 200 [.ref l] [(l, listOf us.toArray n)]
    (fun v new => ∃ l' us' n' ns, v = .ref l' ∧ new = [(l', listOf us'.toArray n')] ∧ IntsAre us' (once ns) ∧ ns.Perm cs ∧ ns.Pairwise (· ≤ ·)) := by
  refine rcon_of fun rest => ?_
  unfold Con
  simp only [List.cons_append, List.nil_append]
  intro mean mg mb dp un gd cn sc a ccd cl outer A₀ base h₀ L m s Q E B F X N T hcs hd hu hret
  w_top off
  k_with_none
  refine wpAny_call ?_
  k_dflt cell_enter
  k_with "pyIter ref" => (refine Hold.out ?_)
  k_steps
  refine Hold.mk ?_
  k_state (fun pre (fd : List Int) => OnceAt pre fd ∧ fd.length ≤ pre.length) "found"
  k_with "state" => exact os0
  k_steps
  · (refine Hold.mk ?_; (rename News _ _ _ _ => nE'); simp only [List.push_toArray] at nE'; refine kst_end ⟨_, _, _⟩ (by assumption) nE' (by first | kst_in | kst_inAny) (by first | (intro p hp; kst_mem) | kst_anyIn) (by rfl) (by kst_facts) (by kst_all) (by kst_same) (os1a (by assumption) (by assumption) (by assumption)))
  · refine Hold.mk ?_
    have hz9 := nz_of (by assumption)
    have hz : 0 < _ := hz9
    k_steps
    · (refine Hold.mk ?_; (rename News _ _ _ _ => nE'); simp only [List.push_toArray] at nE'; refine kst_end ⟨_, _, _⟩ (by assumption) nE' (by first | kst_in | kst_inAny) (by first | (intro p hp; kst_mem) | kst_anyIn) (by rfl) (by kst_facts) (by kst_all) (by kst_same) (os1b (by assumption) (by assumption) (by assumption)))
    · (refine Hold.mk ?_; (rename News _ _ _ _ => nE'); refine kst_end ⟨_, _, _⟩ (by assumption) nE' (by first | kst_in | kst_inAny) (by first | (intro p hp; kst_mem) | kst_anyIn) (by rfl) (by kst_facts) (by kst_all) (by kst_same) (os2 (by assumption) (by assumption) (by assumption) (by assumption)))
  · (rename OnceAt _ _ => e)
    unfold OnceAt at e
    (rename IntsAre _ _ => hf9)
    rw [e] at hf9
    exact hret _ _ _ _ ⟨[(_, _)], ⟨_, _, _, _, rfl, rfl, hf9, (by assumption), (by assumption)⟩, rfl⟩ (by k_asm) (by tb_rel)
end Mine
/- PSort -/
namespace Mine
open PySem PySem.W PyProof.Rows
/-- a sort whose steps a kernel can take -/
def ins (x : Int) : List Int → List Int
  | [] => [x]
  | y :: l => if x ≤ y then x :: y :: l else y :: ins x l
def isort (l : List Int) : List Int := l.foldr ins []
theorem ins_perm (x : Int) : ∀ l, (ins x l).Perm (x :: l)
  | [] => .refl _
  | y :: l => by
    unfold ins
    split
    · exact .refl _
    · exact ((ins_perm x l).cons y).trans (.swap x y l)
theorem isort_perm : ∀ l : List Int, (isort l).Perm l
  | [] => .refl _
  | x :: l => (ins_perm x _).trans ((isort_perm l).cons x)
theorem ins_sorted (x : Int) : ∀ l : List Int, l.Pairwise (· ≤ ·) → (ins x l).Pairwise (· ≤ ·)
  | [], _ => by simp [ins]
  | y :: l, h => by
    unfold ins
    have h' := List.pairwise_cons.mp h
    split
    · rename_i hxy
      refine List.pairwise_cons.mpr ⟨fun z hz => ?_, h⟩
      rcases List.mem_cons.mp hz with rfl | hz
      · exact hxy
      · exact Int.le_trans hxy (h'.1 z hz)
    · rename_i hxy
      refine List.pairwise_cons.mpr ⟨fun z hz => ?_, ins_sorted x l h'.2⟩
      rcases List.mem_cons.mp ((ins_perm x l).mem_iff.mp hz) with rfl | hz
      · omega
      · exact h'.1 z hz
theorem isort_sorted : ∀ l : List Int, (isort l).Pairwise (· ≤ ·)
  | [] => .nil
  | x :: l => ins_sorted x _ (isort_sorted l)
theorem eq_of_sorted : ∀ {a b : List Int}, a.Perm b → a.Pairwise (· ≤ ·) → b.Pairwise (· ≤ ·) → a = b
  | [], b, p, _, _ => (List.Perm.nil_eq p)
  | x :: a, [], p, _, _ => by have := p.length_eq; simp at this
  | x :: a, y :: b, p, ha, hb => by
    have ha' := List.pairwise_cons.mp ha
    have hb' := List.pairwise_cons.mp hb
    have hx : x ∈ y :: b := p.mem_iff.mp (List.mem_cons_self ..)
    have hy : y ∈ x :: a := p.mem_iff.mpr (List.mem_cons_self ..)
    have e : x = y := by
      rcases List.mem_cons.mp hx with e | hx
      · exact e
      · rcases List.mem_cons.mp hy with e | hy
        · exact e.symm
        · have h1 := ha'.1 y hy
          have h2 := hb'.1 x hx
          omega
    subst e
    rw [eq_of_sorted (List.Perm.cons_inv p) ha'.2 hb'.2]
def bset (cs : List Int) : List Int := once (isort cs)
theorem bset_of {cs ns : List Int} (p : ns.Perm cs) (h : ns.Pairwise (· ≤ ·)) : once ns = bset cs := by
  unfold bset
  rw [eq_of_sorted (p.trans (isort_perm cs).symm) h (isort_sorted cs)]
theorem snoc_ind {α : Type} {P : List α → Prop} (h0 : P []) (h1 : ∀ l a, P l → P (l ++ [a])) (l : List α) : P l := by
  have h : ∀ l : List α, P l.reverse := by
    intro l
    induction l with
    | nil => exact h0
    | cons a l ih => rw [List.reverse_cons]; exact h1 _ _ ih
  have := h l.reverse
  rwa [List.reverse_reverse] at this
/-- the kept ones are sorted, and end in the greatest taken -/
theorem once_inv : ∀ (pre : List Int), pre.Pairwise (· ≤ ·) → (once pre).Pairwise (· ≤ ·) ∧ (∀ x ∈ once pre, x ∈ pre) ∧ (once pre).length ≤ pre.length := by
  intro pre
  refine snoc_ind (P := fun pre => pre.Pairwise (· ≤ ·) → (once pre).Pairwise (· ≤ ·) ∧ (∀ x ∈ once pre, x ∈ pre) ∧ (once pre).length ≤ pre.length) ?_ ?_ pre
  · intro _; exact ⟨.nil, fun _ h => (nomatch h), Nat.le_refl _⟩
  · intro pre k ih h
    obtain ⟨h1, _, h3⟩ := List.pairwise_append.mp h
    obtain ⟨i1, i2, i3⟩ := ih h1
    rw [once_snoc]
    unfold ostep
    split
    · refine ⟨List.pairwise_append.mpr ⟨i1, List.pairwise_singleton _ _, fun a ha b hb => h3 a (i2 a ha) b hb⟩, fun x hx => ?_, by simp; omega⟩
      rcases List.mem_append.mp hx with hx | hx
      · exact List.mem_append_left _ (i2 x hx)
      · exact List.mem_append_right _ hx
    · exact ⟨i1, fun x hx => List.mem_append_left _ (i2 x hx), by simp; omega⟩
theorem mono_of {bs : List Int} (h : bs.Pairwise (· ≤ ·)) : Mono bs := by
  intro i j h0 h1 h2
  have hi : i.toNat < bs.length := by omega
  have hj : j.toNat < bs.length := by omega
  rw [List.getD_eq_getElem?_getD, List.getD_eq_getElem?_getD, List.getElem?_eq_getElem hi, List.getElem?_eq_getElem hj]
  show bs[i.toNat] ≤ bs[j.toNat]
  by_cases e : i = j
  · subst e; exact Int.le_refl _
  · exact List.pairwise_iff_getElem.mp h _ _ hi hj (by omega)
theorem bset_mono (cs : List Int) : Mono (bset cs) := mono_of (once_inv _ (isort_sorted cs)).1
theorem bset_len (cs : List Int) : (bset cs).length ≤ cs.length := by
  have := (once_inv _ (isort_sorted cs)).2.2
  rw [(isort_perm cs).length_eq] at this
  exact this
end Mine
/- CMake -/
namespace Mine
open PySem PySem.W PyProof.Rows
local macro_rules | `(tactic| tb_rel) => `(tactic| first | assumption | exact fun _ h => h | exact fun _ h => List.mem_append_left _ h | exact fun _ h => List.mem_append_right _ h | (refine led_drop (by assumption) ?_; tb_rel) | (refine led_kp ?_; tb_rel) | (refine led_tl1 ?_; tb_rel))
def has (fl : Str) (c : String) : Bool := !(Builtin.Str.occurrences fl (Str.ofString c) 0 fl.length 1).isEmpty
/-- what a make of sources cs, targets ds does with a code -/
def trF (cs ds : List Int) (isC isD : Bool) : Int → Int :=
  if isC = true then fun code => turnOut (rankOf (bset cs) code) ds isD code else fun code => kdfLook (ptab cs ds isD cs.length) code (-1)
/-- the text x spells the codes cs -/
structure Codes (x : Str) (cs : List Int) : Prop where
  len : x.length ≤ 1000
  small : cs.length ≤ 60
  ok : ∀ c ∈ cs, 0 ≤ c ∧ c < 1114112
  sp : ∃ SG, Spelt x.cps.toList SG ∧ Spread SG cs ∧ ∀ p ∈ SG, 0 ≤ p.1 ∧ p.1 < 1114112
theorem codes_con' (w : World) (text : Str) (t t2 : Tok) (CS : List Int) (h : Codes text CS) :
   RCon w 150 8 300 [.str text t, .int 300 t2] []
     (fun v new => ∃ l us n, v = .ref l ∧ new = [(l, listOf us.toArray n)] ∧ IntsAre us CS ∧ CS.length ≤ 60) := by
  obtain ⟨SG, h1, h2, h3⟩ := h.sp
  have hs := h.small
  intro led hm mean mg mb dp un gd cn cs a ccd cl outer A₀ base h₀ L m s Q E B F X N T hcs hd hu hret
  refine codes_con w text t t2 SG CS h.len h1 h2 (by omega) h3 led hm mean mg mb dp un gd cn cs a ccd cl outer A₀ base h₀ L m s Q E B F X N T hcs hd hu ?_
  rintro v tl h' tk' ⟨new, ⟨l, us, n, e1, e2, e3⟩, e4⟩ F' N'
  exact hret v tl h' tk' ⟨new, ⟨l, us, n, e1, e2, e3, hs⟩, e4⟩ F' N'
theorem once_con' (w : World) (l : Addr) (us : List Value) (n : Nat) (cs : List Int) (hi : IntsAre us cs) (hl : cs.length ≤ 60) :
   RCon w 164 4 200 [.ref l] [(l, listOf us.toArray n)]
    (fun v new => ∃ l' us' n', v = .ref l' ∧ new = [(l', listOf us'.toArray n')] ∧ IntsAre us' (bset cs)) := by
  intro led hm mean mg mb dp un gd cn sc a ccd cl outer A₀ base h₀ L m s Q E B F X N T hcs hd hu hret
  refine once_con w l us n cs hi hl led hm mean mg mb dp un gd cn sc a ccd cl outer A₀ base h₀ L m s Q E B F X N T hcs hd hu ?_
  rintro v tl h' tk' ⟨new, ⟨l', us', n', ns, e1, e2, e3, e5, e6⟩, e4⟩ F' N'
  rw [bset_of e5 e6] at e3
  exact hret v tl h' tk' ⟨new, ⟨l', us', n', e1, e2, e3⟩, e4⟩ F' N'
local macro_rules | `(tactic| walk_at "call ref") => `(tactic| (
  k_here
  first
  | (refine' (codes_con' _ _ _ _ _ ?hx).use ?B ?F ?X ?N ?T ?m ?k ?d ?u ?_; (case B => k_asm); (case F => k_asm); (case X => k_asm); (case N => k_asm); (case m => k_allIn); (case T => k_asm); (case k => first | exact rfl | assumption); (case d => ktr_room); (case u => ktr_units); (case hx => first | with_reducible assumption | assumption); intro v9 tl9 h9 tk9 H9 F9 N9; (try dsimp only at H9); (obtain ⟨l9, us9, n9, e9, e8, hi9, hl9⟩ := H9); (subst e9); (subst e8); (try simp only [List.cons_append, List.nil_append] at N9); (try k_fold))
  | (refine' (once_con' _ _ _ _ _ ?hi ?hl).use ?B ?F ?X ?N ?T ?m ?k ?d ?u ?_; (case B => k_asm); (case F => k_asm); (case X => k_asm); (case N => k_asm); (case m => k_allIn); (case T => k_asm); (case k => first | exact rfl | assumption); (case d => ktr_room); (case u => ktr_units); (case hi => assumption); (case hl => assumption); intro v9 tl9 h9 tk9 H9 F9 N9; (try dsimp only at H9); (obtain ⟨l9, us9, n9, e9, e8, hi9⟩ := H9); (subst e9); (subst e8); (try simp only [List.cons_append, List.nil_append] at N9); (try k_fold))
  | (refine' (plain_con _ _ _ _ _ _ _ _ _ ?hi ?hi2 ?hl ?hl2 _).use ?B ?F ?X ?N ?T ?m ?k ?d ?u ?_; (case B => k_asm); (case F => k_asm); (case X => k_asm); (case N => k_asm); (case m => k_allIn); (case T => k_asm); (case k => first | exact rfl | assumption); (case d => ktr_room); (case u => ktr_units); (case hi => assumption); (case hi2 => assumption); (case hl => exact Nat.le_trans (by assumption) (by decide)); (case hl2 => exact Nat.le_trans (by assumption) (by decide)); intro v9 tl9 h9 tk9 H9 F9 N9; (try dsimp only at H9); (obtain ⟨l9, o9, kvs9, e9, e8, hlo9, hd9, hf9⟩ := H9); (subst e9); (subst e8); (try simp only [List.cons_append, List.nil_append] at N9); (try k_fold))
  | (k_dflt (refine' call_cls ?k1 ?k2 ?k3 ?k4 ?k5 ?k6 ?_; (case k1 => k_asm); (case k2 => k_asm); (case k3 => k_asm); (case k4 => k_is); (case k5 => k_is); (case k6 => k_is); k_whole; intro x' d' h' F' N' l1 l2; (try k_lt l1); (try k_lt2 l2); (try k_sweep); (refine' code_def ?k1 ?k2 ?k3 ?k4 ?k5 ?kA ?kF ?kK ?k6 ?k7 ?k8 ?k9 ?kB ?_ ?c2 ?c3 ?c4 ?c5; (case kA => exact rfl); (case kF => exact rfl); (case kK => first | exact rfl | assumption); (case k1 => k_asm); (case k2 => k_asm); (case k3 => k_asm); (case k4 => k_asm); (case k5 => k_asm); (case k6 => k_is); (case k7 => k_is); (case k8 => ktr_room); (case k9 => exact BindsTo.of_eq rfl); (case c5 => decide); (case kB => exact locs rfl); (case c2 => exact rfl); (case c3 => exact rfl); (case c4 => exact rfl); k_whole; intro g' L' h' FG' F' N' B' X' T' <;> (try dsimp only) <;> (try k_fold))))
  ))
/-- what a table's ledger bears -/
structure TabIs (w : World) (cs ds : List Int) (isC isD : Bool) (lc : Addr) (od : Obj) (kvs : List (Int × Value)) (c : List (Int × Int)) (ub um : List Value) (bs : List Int) (trn : Bool) : Prop where
  lo : (lc == sysModules) = false
  dict : od.IsDictOf (PySem.intKind PG w) kvs
  flat : PyProof.V.FlatPairs PyData.int kvs (kdfD c)
  ib : IntsAre ub bs
  im : IntsAre um ds
  mono : Mono bs
  lb : bs.length ≤ 1000
  lm : ds.length ≤ 1000
  eq : tcode trn c bs ds isD = trF cs ds isC isD
theorem make_con (w : World) (x y fl : Str) (t t2 t3 t4 : Tok) (cs ds : List Int) (hx : Codes x cs) (hy : Codes y ds) :
   RCon w 171 12 500 [.str x t, .str y t2, .str fl t3, .int 300 t4] []
     (fun v new => ∃ a dx lc lb lm od kvs c ub bs nb um nm t1 t2 t3 t4 t5 t6, v = .ref a ∧
        new = [(a, instObj 125 dx), (dx, dictOf (tabEs w t1 t2 t3 t4 t5 t6 lc lb lm (has fl "c") (has fl "d") (has fl "s")) 6), (lc, od), (lb, listOf ub.toArray nb), (lm, listOf um.toArray nm)] ∧
        TabIs w cs ds (has fl "c") (has fl "d") lc od kvs c ub um bs (has fl "c")) := by
  refine rcon_of fun rest => ?_
  unfold Con
  simp only [List.nil_append]
  intro mean mg mb dp un gd cn sc a ccd cl outer A₀ base h₀ L m s Q E B F X N T hcs hd hu hret
  w_top off
  k_with_none
  refine wpAny_call ?_
  k_dflt cell_enter
  k_steps
  · have hc : has fl "c" = false := by unfold has; rw [show (Builtin.Str.occurrences fl (Str.ofString "c") 0 fl.length 1).isEmpty = true by assumption]; rfl
    rw [hc] at hret
    refine' hret _ _ _ _ ⟨[(_, instObj 125 _), (_, dictOf (tabEs w _ _ _ _ _ _ _ _ _ _ _ _) 6), (_, _), (_, listOf (List.toArray _) _), (_, listOf (List.toArray _) _)], ⟨_, _, _, _, _, _, _, ?c, _, ?bs, _, _, _, _, _, _, _, _, _, rfl, rfl, ?tab⟩, rfl⟩ (by k_asm) ?N
    case N => exact led_drop (by assumption) (List.forall_mem_append.mpr ⟨by k_allIn, by tb_rel⟩)
    case bs => exact []
    case c => exact ptab cs ds (has fl "d") cs.length
    case tab => exact ⟨by assumption, by assumption, by assumption, .nil, by assumption, fun i j h0 h1 h2 => absurd h2 (by simp; omega), by decide, Nat.le_trans (show ds.length ≤ 60 by assumption) (by decide), rfl⟩
  · have hc : has fl "c" = true := by unfold has; rw [show (Builtin.Str.occurrences fl (Str.ofString "c") 0 fl.length 1).isEmpty = false by assumption]; rfl
    rw [hc] at hret
    refine' hret _ _ _ _ ⟨[(_, instObj 125 _), (_, dictOf (tabEs w _ _ _ _ _ _ _ _ _ _ _ _) 6), (_, _), (_, listOf (List.toArray _) _), (_, listOf (List.toArray _) _)], ⟨_, _, _, _, _, _, _, ?c2, _, ?bs2, _, _, _, _, _, _, _, _, _, rfl, rfl, ?tab2⟩, rfl⟩ (by k_asm) ?N2
    case N2 => exact led_drop (by assumption) (List.forall_mem_append.mpr ⟨by k_allIn, by tb_rel⟩)
    case bs2 => exact bset cs
    case c2 => exact []
    case tab2 => exact ⟨by assumption, by assumption, by assumption, by assumption, by assumption, bset_mono cs, Nat.le_trans (bset_len cs) (Nat.le_trans (show cs.length ≤ 60 by assumption) (by decide)), Nat.le_trans (show ds.length ≤ 60 by assumption) (by decide), rfl⟩
end Mine
/- PRun -/
namespace Mine
open PySem PySem.W PyProof.Rows
open KStt (codes txt)
/-- what a run gives, sign by sign, the last turned code at hand -/
def go (f : Int → Int) (sq : Bool) : Int → List Int → List Int
  | _, [] => []
  | last, c :: l => if f c = -1 then c :: go f sq (-1) l else if f c = -2 ∨ (sq = true ∧ f c = last) then go f sq last l else f c :: go f sq (f c) l
def cnt (f : Int → Int) (l : List Int) : Int := (l.countP fun c => decide (f c ≠ -1) : Nat)
def flat (ws : List Str) : List Int := ws.flatMap codes
theorem flat_snoc (ws : List Str) (y : Str) : flat (ws ++ [y]) = flat ws ++ codes y := by unfold flat; simp
theorem codes_one (n : Nat) : codes ⟨#[n]⟩ = [(n : Int)] := rfl
theorem cnt_cons (f : Int → Int) (c : Int) (l : List Int) : cnt f (c :: l) = cnt f l + if f c = -1 then 0 else 1 := by
  unfold cnt
  rw [List.countP_cons]
  by_cases h : f c = -1
  · simp [h]
  · simp [h]
def OkOn (f : Int → Int) (l : List Int) : Prop := ∀ c ∈ l, 0 ≤ c ∧ (f c = -1 ∨ f c = -2 ∨ (0 ≤ f c ∧ f c < 1114112))
theorem runs_go (f : Int → Int) (sq : Bool) : ∀ (l : List Int), OkOn f l → ∀ (ws : List Str) (n last : Int),
    flat (l.foldl (rstep f sq) (ws, n, last)).1 = flat ws ++ go f sq last l ∧ (l.foldl (rstep f sq) (ws, n, last)).2.1 = n + cnt f l
  | [], _, ws, n, last => by simp [go, cnt]
  | c :: l, h, ws, n, last => by
    have h' : OkOn f l := fun d hd => h d (List.mem_cons_of_mem _ hd)
    have hc := h c (List.mem_cons_self ..)
    rw [List.foldl_cons, cnt_cons]
    by_cases h1 : f c = -1
    · have e : rstep f sq (ws, n, last) c = (ws ++ [⟨#[c.toNat]⟩], n, -1) := by unfold rstep; rw [if_pos h1]
      have eg : go f sq last (c :: l) = c :: go f sq (-1) l := by rw [go, if_pos h1]
      rw [e, eg, if_pos h1]
      obtain ⟨e1, e2⟩ := runs_go f sq l h' (ws ++ [⟨#[c.toNat]⟩]) n (-1)
      constructor
      · rw [e1, flat_snoc, codes_one, Int.toNat_of_nonneg hc.1, List.append_assoc]; rfl
      · rw [e2]; omega
    · rw [if_neg h1]
      by_cases h2 : f c = -2 ∨ (sq = true ∧ f c = last)
      · have e : rstep f sq (ws, n, last) c = (ws, n + 1, last) := by unfold rstep; rw [if_neg h1, if_pos h2]
        have eg : go f sq last (c :: l) = go f sq last l := by rw [go, if_neg h1, if_pos h2]
        rw [e, eg]
        obtain ⟨e1, e2⟩ := runs_go f sq l h' ws (n + 1) last
        exact ⟨e1, by rw [e2]; omega⟩
      · have e : rstep f sq (ws, n, last) c = (ws ++ [⟨#[(f c).toNat]⟩], n + 1, f c) := by unfold rstep; rw [if_neg h1, if_neg h2]
        have eg : go f sq last (c :: l) = f c :: go f sq (f c) l := by rw [go, if_neg h1, if_neg h2]
        rw [e, eg]
        obtain ⟨e1, e2⟩ := runs_go f sq l h' (ws ++ [⟨#[(f c).toNat]⟩]) (n + 1) (f c)
        have h0 : 0 ≤ f c := by
          rcases hc.2 with q | q | q
          · exact absurd q h1
          · exact absurd (.inl q) h2
          · exact q.1
        constructor
        · rw [e1, flat_snoc, codes_one, Int.toNat_of_nonneg h0, List.append_assoc]; rfl
        · rw [e2]; omega
theorem codes_append (a b : Str) : codes (a ++ b) = codes a ++ codes b := by
  unfold KStt.codes
  rw [Str.cps_append, Array.toList_append, List.map_append]
theorem codes_empty : codes (Str.ofString "") = [] := by decide +kernel
theorem codes_join : ∀ ws : List Str, codes (Str.join (Str.ofString "") ws) = flat ws
  | [] => rfl
  | [x] => by show codes x = flat [x]; unfold flat; simp
  | x :: y :: ws => by
    show codes (x ++ Str.ofString "" ++ Str.join (Str.ofString "") (y :: ws)) = _
    rw [codes_append, codes_append, codes_empty, codes_join (y :: ws)]
    unfold flat
    simp
theorem codes_nonneg {x : Str} {c : Int} (h : c ∈ codes x) : 0 ≤ c := by
  unfold KStt.codes at h
  obtain ⟨n, _, rfl⟩ := List.mem_map.mp h
  exact Int.natCast_nonneg _
theorem okOn_of {f : Int → Int} {x : Str} (h : ChrOK f x) : OkOn f (codes x) := fun c hc => ⟨codes_nonneg hc, h c hc⟩
theorem codes_outS {f : Int → Int} {sq : Bool} {x : Str} (h : ChrOK f x) : codes (outS f sq x) = go f sq (-1) (codes x) := by
  unfold outS
  show codes (Builtin.Str.glued (Str.ofString "") (runs f sq (codes x)).1) = _
  rw [StrLaws.glued_eq_join, codes_join]
  have := (runs_go f sq (codes x) (okOn_of h) [] 0 (-1)).1
  exact this.trans (by simp [flat])
theorem cntS_eq {f : Int → Int} {sq : Bool} {x : Str} (h : ChrOK f x) : cntS f sq x = cnt f (codes x) := by
  unfold cntS
  have := (runs_go f sq (codes x) (okOn_of h) [] 0 (-1)).2
  exact this.trans (by simp)
theorem codes_inj {a b : Str} (h : codes a = codes b) : a = b := by rw [← KStt.txt_codes a, h, KStt.txt_codes]
/-- one sign's part where nothing is squeezed -/
def one (f : Int → Int) (c : Int) : List Int := if f c = -1 then [c] else if f c = -2 then [] else [f c]
def out (f : Int → Int) (l : List Int) : List Int := l.flatMap (one f)
theorem go_false (f : Int → Int) : ∀ (l : List Int) (last : Int), go f false last l = out f l
  | [], _ => rfl
  | c :: l, last => by
    unfold go out
    rw [List.flatMap_cons]
    unfold one
    by_cases h1 : f c = -1
    · rw [if_pos h1, if_pos h1, go_false f l]; rfl
    · rw [if_neg h1, if_neg h1]
      by_cases h2 : f c = -2
      · rw [if_pos (.inl h2), if_pos h2, go_false f l]; rfl
      · rw [if_neg (by rintro (q | q); exact h2 q; exact Bool.false_ne_true q.1), if_neg h2, go_false f l]; rfl
theorem go_mem {f : Int → Int} {sq : Bool} {l : List Int} {P : Int → Prop} (h : ∀ c ∈ l, P c ∧ (f c = -1 ∨ f c = -2 ∨ P (f c))) : ∀ last, ∀ c ∈ go f sq last l, P c := by
  induction l with
  | nil => intro _ c hc; exact (nomatch hc)
  | cons d l ih =>
    intro last c hc
    have ih' := ih fun e he => h e (List.mem_cons_of_mem _ he)
    have hd := h d (List.mem_cons_self ..)
    unfold go at hc
    split at hc
    · rcases List.mem_cons.mp hc with rfl | hc
      · exact hd.1
      · exact ih' _ c hc
    · rename_i h1
      split at hc
      · exact ih' _ c hc
      · rename_i h2
        rcases List.mem_cons.mp hc with rfl | hc
        · rcases hd.2 with q | q | q
          · exact absurd q h1
          · exact absurd (.inl q) h2
          · exact q
        · exact ih' _ c hc
theorem go_len (f : Int → Int) (sq : Bool) : ∀ (l : List Int) (last : Int), (go f sq last l).length ≤ l.length
  | [], _ => Nat.le_refl _
  | c :: l, last => by
    unfold go
    have h1 := go_len f sq l (-1)
    have h2 := go_len f sq l last
    have h3 := go_len f sq l (f c)
    split
    · simp; omega
    · split
      · simp; omega
      · simp; omega
end Mine
/- PTab -/
namespace Mine
open PySem PySem.W PyProof.Rows
open KStt (codes txt)
theorem look_put (c : List (Int × Int)) (k v j d : Int) : kdfLook (kdfPut c k v) j d = if j = k then v else kdfLook c j d := by
  unfold kdfLook kdfPut
  by_cases hc : (c.any fun p => decide (p.1 = k)) = true
  · rw [if_pos hc]
    induction c with
    | nil => simp at hc
    | cons p c ih =>
      rw [List.map_cons]
      by_cases hp : p.1 = k
      · rw [if_pos (decide_eq_true hp)]
        by_cases hj : j = k
        · subst hj
          rw [if_pos rfl, List.find?_cons_of_pos (by simp [hp])]
          rfl
        · rw [if_neg hj]
          have hpj : ¬ p.1 = j := fun e => hj (e.symm.trans hp)
          rw [List.find?_cons_of_neg (by simpa using hpj), List.find?_cons_of_neg (by simpa using hpj)]
          by_cases hc' : (c.any fun p => decide (p.1 = k)) = true
          · have := ih hc'
            rw [if_neg hj] at this
            exact this
          · have e : c.map (fun p => if decide (p.1 = k) = true then (p.1, v) else p) = c := by
              refine (List.map_congr_left (g := _root_.id) fun q hq => ?_).trans (List.map_id _)
              have : ¬ q.1 = k := fun e => hc' (List.any_eq_true.mpr ⟨q, hq, by simp [e]⟩)
              rw [if_neg (by simp [this])]; rfl
            rw [e]
      · rw [if_neg (by simp [hp])]
        have hc' : (c.any fun p => decide (p.1 = k)) = true := by
          rw [List.any_cons] at hc
          simpa [hp] using hc
        by_cases hpj : p.1 = j
        · have hj : ¬ j = k := fun e => hp (hpj.trans e)
          rw [if_neg hj, List.find?_cons_of_pos (by simp [hpj]), List.find?_cons_of_pos (by simp [hpj])]
        · rw [List.find?_cons_of_neg (by simpa using hpj), List.find?_cons_of_neg (by simpa using hpj)]
          exact ih hc'
  · rw [if_neg hc, List.find?_append]
    by_cases hj : j = k
    · subst hj
      have e : c.find? (fun p => decide (p.1 = j)) = none := by
        rw [List.find?_eq_none]
        intro q hq e
        exact hc (List.any_eq_true.mpr ⟨q, hq, e⟩)
      rw [if_pos rfl, e]
      simp
    · rw [if_neg hj]
      have e : [(k, v)].find? (fun p => decide (p.1 = j)) = none := by
        rw [List.find?_cons_of_neg (by simpa using fun e : k = j => hj e.symm)]; rfl
      rw [e]
      cases c.find? (fun p => decide (p.1 = j)) <;> rfl
theorem take_mem {cs : List Int} {n : Nat} (h : n < cs.length) (k : Int) : k ∈ cs.take (n + 1) ↔ k ∈ cs.take n ∨ k = cs.getD n 0 := by
  have e : cs.getD n 0 = cs[n] := by simp [h]
  rw [List.take_succ_eq_append_getElem h, List.mem_append, List.mem_singleton, e]
theorem idx_new {cs : List Int} {n : Nat} (h : n < cs.length) (hn : cs.getD n 0 ∉ cs.take n) : cs.idxOf (cs.getD n 0) = n := by
  have e : cs.getD n 0 = cs[n] := by simp [h]
  rw [e] at hn ⊢
  have e2 : cs = cs.take n ++ cs[n] :: cs.drop (n + 1) := by
    rw [← List.drop_eq_getElem_cons h, List.take_append_drop]
  have e3 : cs.idxOf cs[n] = (cs.take n ++ cs[n] :: cs.drop (n + 1)).idxOf cs[n] := by rw [← e2]
  rw [e3, List.idxOf_append, if_neg hn, List.idxOf_cons_self, List.length_take]
  omega
theorem ptab_look (cs ds : List Int) (del : Bool) : ∀ n, n ≤ cs.length → ∀ k, kdfHas (ptab cs ds del n) k = decide (k ∈ cs.take n) ∧
    kdfLook (ptab cs ds del n) k (-1) = if k ∈ cs.take n then pval ds del (cs.idxOf k) k else -1
  | 0, _, k => by simp [ptab, kdfHas, kdfLook]
  | n + 1, hn, k => by
    have hn' : n < cs.length := hn
    have ih := ptab_look cs ds del n (by omega)
    have hm := take_mem hn' k
    rw [ptab_succ]
    unfold pstep
    by_cases hx : kdfHas (ptab cs ds del n) (cs.getD n 0) = true
    · rw [if_pos hx]
      have hx' : cs.getD n 0 ∈ cs.take n := by rw [(ih _).1] at hx; exact of_decide_eq_true hx
      have e : k ∈ cs.take (n + 1) ↔ k ∈ cs.take n := by
        rw [hm]
        constructor
        · rintro (q | rfl)
          · exact q
          · exact hx'
        · exact .inl
      obtain ⟨a, b⟩ := ih k
      refine ⟨?_, ?_⟩
      · rw [a]; simp only [e]
      · rw [b]; simp only [e]
    · rw [if_neg hx]
      have hx' : cs.getD n 0 ∉ cs.take n := by
        rw [(ih _).1] at hx; exact fun q => hx (decide_eq_true q)
      obtain ⟨a, b⟩ := ih k
      rw [kdyHas_put, look_put, a, b]
      by_cases hk : k = cs.getD n 0
      · have e : k ∈ cs.take (n + 1) := hm.mpr (.inr hk)
        refine ⟨by rw [decide_eq_true hk, decide_eq_true e]; rfl, ?_⟩
        rw [if_pos hk, if_pos e, hk, idx_new hn' hx']
      · have e : k ∈ cs.take (n + 1) ↔ k ∈ cs.take n := by
          rw [hm]
          constructor
          · rintro (q | q)
            · exact q
            · exact absurd q hk
          · exact .inl
        refine ⟨by simp only [e, hk, decide_false, Bool.false_or], ?_⟩
        rw [if_neg hk]; simp only [e]
/-- the plain table -/
theorem trF_plain (cs ds : List Int) (del : Bool) (k : Int) : trF cs ds false del k = if k ∈ cs then pval ds del (cs.idxOf k) k else -1 := by
  unfold trF
  rw [if_neg Bool.false_ne_true]
  have := (ptab_look cs ds del cs.length (Nat.le_refl _) k).2
  rw [List.take_length] at this
  exact this
theorem once_mem (pre : List Int) (x : Int) : x ∈ once pre ↔ x ∈ pre := by
  refine snoc_ind (P := fun pre => x ∈ once pre ↔ x ∈ pre) ?_ ?_ pre
  · exact Iff.rfl
  · intro pre k ih
    rw [once_snoc, List.mem_append, List.mem_singleton]
    unfold ostep
    split
    · rw [List.mem_append, List.mem_singleton, ih]
    · rename_i hq
      have hne : once pre ≠ [] := fun e => hq (.inl e)
      have hl : (once pre).getD ((once pre).length - 1) 0 = k := Classical.not_not.mp fun e => hq (.inr e)
      have hk : k ∈ once pre := by
        have hp : 0 < (once pre).length := List.length_pos_iff.mpr hne
        rw [← hl, List.getD_eq_getElem?_getD, List.getElem?_eq_getElem (by omega)]
        exact List.getElem_mem _
      rw [ih]
      constructor
      · exact .inl
      · rintro (q | rfl)
        · exact q
        · exact ih.mp hk
theorem bset_mem (cs : List Int) (x : Int) : x ∈ bset cs ↔ x ∈ cs := by
  unfold bset
  rw [once_mem, (isort_perm cs).mem_iff]
/-- the turned table: what lies in it is kept -/
theorem trF_in {cs ds : List Int} {del : Bool} {k : Int} (h : k ∈ cs) : trF cs ds true del k = -1 := by
  unfold trF
  rw [if_pos rfl]
  show turnOut (rankOf (bset cs) k) ds del k = -1
  unfold rankOf
  rw [if_pos ((bset_mem cs k).mpr h)]
  rfl
theorem trF_out {cs ds : List Int} {del : Bool} {k : Int} (h : k ∉ cs) : ∃ r : Int, trF cs ds true del k = turnOut r ds del k ∧ (0 ≤ k - (bset cs).length → 0 ≤ r) ∧ r = k - ((bset cs).countP (fun b => decide (b < k)) : Nat) := by
  refine ⟨k - ((bset cs).countP (fun b => decide (b < k)) : Nat), ?_, ?_, rfl⟩
  · unfold trF
    rw [if_pos rfl]
    show turnOut (rankOf (bset cs) k) ds del k = _
    unfold rankOf
    rw [if_neg fun q => h ((bset_mem cs k).mp q)]
  · intro hk
    have := List.countP_le_length (p := fun b => decide (b < k)) (l := bset cs)
    omega
end Mine
/- CText -/
namespace Mine
open PySem PySem.W PyProof.Rows
local macro_rules | `(tactic| walk_at "no such key") => `(tactic| fail "no such key")
local macro_rules | `(tactic| tb_rel) => `(tactic| first | assumption | exact fun _ h => h | exact fun _ h => List.mem_append_left _ h | exact fun _ h => List.mem_append_right _ h | (refine led_drop (by assumption) ?_; tb_rel) | (refine led_kp ?_; tb_rel) | (refine led_tl1 ?_; tb_rel))
theorem sub_lt {l : Addr} {o : Obj} {led rest : Led} (h : ∀ p ∈ [(l, o)], ∀ q ∈ led, q.1 < p.1) (hs : ∀ q ∈ rest, q ∈ led) : ∀ q ∈ rest, q.1 < l := fun q hq => h _ (List.mem_singleton.mpr rfl) q (hs q hq)
theorem run_con' (w : World) (x dx lc lb lm : Addr) (od : Obj) (kvs : List (Int × Value)) (c : List (Int × Int)) (us vs : List Value) (cs ds bs : List Int) (nb nm : Nat) (isC isD sq : Bool) (t1 t2 t3 t4 t5 t6 tx : Tok) (text : Str)
   (h : TabIs w cs ds isC isD lc od kvs c us vs bs isC) (hx : text.length ≤ 1000) (hch : ChrOK (trF cs ds isC isD) text) :
   FCon w 199 8 500 [.ref x, .str text tx] [(x, instObj 125 dx), (dx, dictOf (tabEs w t1 t2 t3 t4 t5 t6 lc lb lm isC isD sq) 6), (lc, od), (lb, listOf us.toArray nb), (lm, listOf vs.toArray nm)]
     (fun v new => ∃ l ta tb, v = .ref l ∧ new = [(l, tup2 (.str (outS (trF cs ds isC isD) sq text) ta) (.int (cntS (trF cs ds isC isD) sq text) tb))]) := by
  have := run_con w x dx lc lb lm od kvs c us vs bs ds nb nm isC isD sq t1 t2 t3 t4 t5 t6 tx text h.ib h.lb h.mono h.im h.lm h.lo h.dict h.flat hx (by rw [h.eq]; exact hch)
  rw [h.eq] at this
  exact this
open KStt (codes txt) in
structure Good (x : Str) : Prop where
  len : x.length ≤ 1000
  ok : ∀ c ∈ codes x, c < 1114112
theorem getD_mem {l : List Int} {i : Nat} (h : i < l.length) : l.getD i 0 ∈ l := by
  rw [List.getD_eq_getElem?_getD, List.getElem?_eq_getElem h]; exact List.getElem_mem h
theorem pval_val (ds : List Int) (del : Bool) (i : Nat) (k : Int) : pval ds del i k = -2 ∨ pval ds del i k ∈ ds ∨ pval ds del i k = k := by
  unfold pval
  split
  · exact .inr (.inl (getD_mem (by assumption)))
  · split
    · exact .inl rfl
    · split
      · exact .inr (.inr rfl)
      · rename_i h
        exact .inr (.inl (getD_mem (by have := List.length_pos_iff.mpr h; omega)))
theorem turn_val (r : Int) (ds : List Int) (del : Bool) (k : Int) : turnOut r ds del k = -1 ∨ turnOut r ds del k = -2 ∨ turnOut r ds del k ∈ ds ∨ turnOut r ds del k = k := by
  unfold turnOut
  split
  · exact .inl rfl
  · split
    · exact .inr (.inr (.inl (getD_mem (by omega))))
    · split
      · exact .inr (.inl rfl)
      · split
        · exact .inr (.inr (.inr rfl))
        · rename_i h
          exact .inr (.inr (.inl (getD_mem (by have := List.length_pos_iff.mpr h; omega))))
theorem trF_val (cs ds : List Int) (isC isD : Bool) (k : Int) : trF cs ds isC isD k = -1 ∨ trF cs ds isC isD k = -2 ∨ trF cs ds isC isD k ∈ ds ∨ trF cs ds isC isD k = k := by
  cases isC with
  | false =>
    rw [trF_plain]
    split
    · exact .inr (pval_val _ _ _ _)
    · exact .inl rfl
  | true =>
    by_cases h : k ∈ cs
    · exact .inl (trF_in h)
    · obtain ⟨r, e, _⟩ := trF_out (ds := ds) (del := isD) h
      rw [e]; exact turn_val _ _ _ _
open KStt (codes txt) in
theorem chr_of {x : Str} {cs ds : List Int} {isC isD : Bool} (hx : Good x) (hd : ∀ c ∈ ds, 0 ≤ c ∧ c < 1114112) : ChrOK (trF cs ds isC isD) x := by
  intro c hc
  rcases trF_val cs ds isC isD c with h | h | h | h
  · exact .inl h
  · exact .inr (.inl h)
  · exact .inr (.inr (hd _ h))
  · rw [h]; exact .inr (.inr ⟨codes_nonneg hc, hx.ok c hc⟩)
noncomputable def trO (cs ds : List Int) (fl : Str) (x : Str) : Str := outS (trF cs ds (has fl "c") (has fl "d")) (has fl "s") x
def trN (cs ds : List Int) (fl : Str) (x : Str) : Int := cntS (trF cs ds (has fl "c") (has fl "d")) (has fl "s") x
open KStt (codes txt) in
theorem good_out {x : Str} {cs ds : List Int} {fl : Str} (hx : Good x) (hd : ∀ c ∈ ds, 0 ≤ c ∧ c < 1114112) : Good (trO cs ds fl x) := by
  have hch := chr_of (isC := has fl "c") (isD := has fl "d") (cs := cs) hx hd
  have e : codes (trO cs ds fl x) = go _ _ (-1) (codes x) := codes_outS (sq := has fl "s") hch
  constructor
  · rw [← KStt.codes_length, e]
    have := go_len (trF cs ds (has fl "c") (has fl "d")) (has fl "s") (codes x) (-1)
    rw [KStt.codes_length] at this
    exact Nat.le_trans this hx.len
  · rw [e]
    refine go_mem (P := fun c => c < 1114112) (fun c hc => ⟨hx.ok c hc, ?_⟩) (-1)
    rcases hch c hc with q | q | q
    · exact .inl q
    · exact .inr (.inl q)
    · exact .inr (.inr q.2)
local macro_rules | `(tactic| walk_at "call ref") => `(tactic| k_extra "my call")
theorem text_con (w : World) (text x y fl : Str) (t0 t t2 t3 t4 : Tok) (cs ds : List Int) (hx : Codes x cs) (hy : Codes y ds) (ht : text.length ≤ 1000) (hch : ChrOK (trF cs ds (has fl "c") (has fl "d")) text) :
   FCon w 206 14 700 [.str text t0, .str x t, .str y t2, .str fl t3, .int 300 t4] []
     (fun v new => ∃ l ta tb, v = .ref l ∧ new = [(l, tup2 (.str (outS (trF cs ds (has fl "c") (has fl "d")) (has fl "s") text) ta) (.int (cntS (trF cs ds (has fl "c") (has fl "d")) (has fl "s") text) tb))]) := by
  refine fcon_of fun rest => ?_
  unfold Con
  simp only [List.nil_append]
  intro mean mg mb dp un gd cn sc a ccd cl outer A₀ base h₀ L m s Q E B F X N T hcs hd hu hret
  w_top off
  k_with_none
  k_with "my call" => (
    k_here
    first
    | (refine (make_con _ _ _ _ _ _ _ _ _ _ (by first | with_reducible assumption | assumption) (by first | with_reducible assumption | assumption)).use (by k_asm) (by k_asm) (by k_asm) (by k_asm) (by k_asm) (by k_allIn) (by first | exact rfl | assumption) (by ktr_room) (by ktr_units) ?_; intro v9 tl9 h9 tk9 H9 F9 N9; (try dsimp only at H9); (obtain ⟨a9, dx9, lc9, lb9, lm9, od9, kvs9, c9, ub9, bs9, nb9, um9, nm9, q1, q2, q3, q4, q5, q6, e9, e8, hT9⟩ := H9); (subst e9); (subst e8); (try simp only [List.cons_append, List.nil_append] at N9); (try k_fold))
    | (refine (run_con' _ _ _ _ _ _ _ _ _ _ _ _ _ _ _ _ _ _ _ _ _ _ _ _ _ _ _ (by first | with_reducible assumption | assumption) (by first | with_reducible assumption | assumption) (by first | with_reducible assumption | assumption)).use (by k_asm) (by k_asm) (by k_asm) (by k_asm) (by k_asm) (by k_allIn) (by first | exact rfl | assumption) (by ktr_room) (by ktr_units) ?_; intro v9 tl9 h9 tk9 H9 F9 N9; (have hlt9 := H9.2); (replace H9 := H9.1); (try dsimp only at H9); (obtain ⟨l9, ta9, tb9, e9, e8⟩ := H9); (subst e9); (subst e8); (try simp only [List.cons_append, List.nil_append] at N9); (try k_fold))
    )
  refine wpAny_call ?_
  k_dflt cell_enter
  k_steps
  exact hret _ _ _ _ ⟨[(_, tup2 (.str _ _) (.int _ _))], ⟨_, _, _, rfl, rfl⟩, rfl, fresh1 (allLt_of (sub_lt (by assumption) fun q hq => by simp [hq]))⟩ (by k_asm) (by tb_rel)
theorem count_con (w : World) (text x : Str) (t0 t t4 : Tok) (cs : List Int) (hx : Codes x cs) (hy : Codes (Str.ofString "") []) (ht : text.length ≤ 1000) (hch : ChrOK (trF cs [] (has (Str.ofString "") "c") (has (Str.ofString "") "d")) text) :
   RCon w 213 14 700 [.str text t0, .str x t, .int 300 t4] []
     (fun v new => ∃ tb, v = .int (cntS (trF cs [] (has (Str.ofString "") "c") (has (Str.ofString "") "d")) (has (Str.ofString "") "s") text) tb ∧ new = []) := by
  refine rcon_of fun rest => ?_
  unfold Con
  simp only [List.nil_append]
  intro mean mg mb dp un gd cn sc a ccd cl outer A₀ base h₀ L m s Q E B F X N T hcs hd hu hret
  w_top off
  k_with_none
  k_with "my call" => (
    k_here
    first
    | (refine (make_con _ _ _ _ _ _ _ _ _ _ (by first | with_reducible assumption | assumption) (by first | with_reducible assumption | assumption)).use (by k_asm) (by k_asm) (by k_asm) (by k_asm) (by k_asm) (by k_allIn) (by first | exact rfl | assumption) (by ktr_room) (by ktr_units) ?_; intro v9 tl9 h9 tk9 H9 F9 N9; (try dsimp only at H9); (obtain ⟨a9, dx9, lc9, lb9, lm9, od9, kvs9, c9, ub9, bs9, nb9, um9, nm9, q1, q2, q3, q4, q5, q6, e9, e8, hT9⟩ := H9); (subst e9); (subst e8); (try simp only [List.cons_append, List.nil_append] at N9); (try k_fold))
    | (refine (run_con' _ _ _ _ _ _ _ _ _ _ _ _ _ _ _ _ _ _ _ _ _ _ _ _ _ _ _ (by first | with_reducible assumption | assumption) (by first | with_reducible assumption | assumption) (by first | with_reducible assumption | assumption)).use (by k_asm) (by k_asm) (by k_asm) (by k_asm) (by k_asm) (by k_allIn) (by first | exact rfl | assumption) (by ktr_room) (by ktr_units) ?_; intro v9 tl9 h9 tk9 H9 F9 N9; (have hlt9 := H9.2); (replace H9 := H9.1); (try dsimp only at H9); (obtain ⟨l9, ta9, tb9, e9, e8⟩ := H9); (subst e9); (subst e8); (try simp only [List.cons_append, List.nil_append] at N9); (try k_fold))
    )
  refine wpAny_call ?_
  k_dflt cell_enter
  k_steps
  exact hret _ _ _ _ ⟨[], ⟨_, rfl, rfl⟩, rfl⟩ (by k_asm) (by tb_rel)
theorem text_con' (w : World) (text x y fl : Str) (t0 t t2 t3 t4 : Tok) (cs ds : List Int) (hx : Codes x cs) (hy : Codes y ds) (ht : Good text) :
   FCon w 206 14 700 [.str text t0, .str x t, .str y t2, .str fl t3, .int 300 t4] []
     (fun v new => ∃ l ta tb, v = .ref l ∧ new = [(l, tup2 (.str (trO cs ds fl text) ta) (.int (trN cs ds fl text) tb))] ∧ Good (trO cs ds fl text)) := by
  have C := text_con w text x y fl t0 t t2 t3 t4 cs ds hx hy ht.len (chr_of ht hy.ok)
  have g := good_out (cs := cs) (fl := fl) ht hy.ok
  intro led hm mean mg mb dp un gd cn sc a ccd cl outer A₀ base h₀ L m s Q E B F X N T hcs hd hu hret
  refine C led hm mean mg mb dp un gd cn sc a ccd cl outer A₀ base h₀ L m s Q E B F X N T hcs hd hu ?_
  rintro v tl h' tk' ⟨new, ⟨l, ta, tb, e1, e2⟩, e3, e4⟩ F' N'
  exact hret v tl h' tk' ⟨new, ⟨l, ta, tb, e1, e2, g⟩, e3, e4⟩ F' N'
theorem codes_nil : Codes (Str.ofString "") [] := ⟨by decide +kernel, by decide, fun _ h => (nomatch h), [], by rw [show (Str.ofString "").cps.toList = [] by decide +kernel]; exact .nil, .nil, fun _ h => (nomatch h)⟩
theorem count_con' (w : World) (text x : Str) (t0 t t4 : Tok) (cs : List Int) (hx : Codes x cs) (ht : Good text) :
   RCon w 213 14 700 [.str text t0, .str x t, .int 300 t4] []
     (fun v new => ∃ tb, v = .int (trN cs [] (Str.ofString "") text) tb ∧ new = []) :=
  count_con w text x t0 t t4 cs hx codes_nil ht.len (chr_of ht fun _ h => (nomatch h))
end Mine
/- LBase -/
namespace Mine
open PySem PySem.W PySem.Spec PyProof.Rows PyProof.V
open KStt (codes txt)
theorem str_ok {x : Str} (h : Good x) : PyData.strOk x = true := by
  unfold PyData.strOk
  rw [Array.all_eq_true']
  intro n hn
  have := h.ok (n : Int) (by unfold KStt.codes; exact List.mem_map.mpr ⟨n, by simpa using hn, rfl⟩)
  exact decide_eq_true (by omega)
section
variable {prog : Program} {w : World} {A : Around} {E : Value → Shared → Prop} {s : Shared} {h₀ : Heap} {L a b : Addr} {led : Led} {x y : Str} {i j : Int} {t t' u u' : Tok} {Q : Value → Shared → Prop}
theorem reads_tup (N : News h₀ L s.heap led) (h1 : (a, tup2 (.str x t) (.int i u)) ∈ led) : ∃ as, Reads s.heap (.ref a) (.tuple [.str x, .int i]) as :=
  ⟨_, reads_tuple_at (News.get N h1) rfl rfl (.cons (.str _ _) (.cons (.int _ _) .nil))⟩
theorem shaped_tup (g : Good x) : SeqAt.shaped (.tuple [.str x, .int i]) = true := by
  unfold SeqAt.shaped
  rw [Bool.and_eq_true]
  constructor
  · simp only [PyData.canLay0, PyData.canLayAll0, str_ok g]; rfl
  · simp [PyData.depth, PyData.depthAll]
theorem ne_tups (N : News h₀ L s.heap led) (h1 : (a, tup2 (.str x t) (.int i u)) ∈ led) (h2 : (b, tup2 (.str y t') (.int j u')) ∈ led) (gx : Good x) (gy : Good y) (ex : x = y) (ei : i = j) (hu : A.units + 64 < cLine)
    (h : Q (.bool false) s) : wpAny (model prog w) A (compareOp .NotEq (.ref a) (.ref b)) Q E s := by
  obtain ⟨_, r1⟩ := reads_tup N h1
  obtain ⟨_, r2⟩ := reads_tup N h2
  refine ne_dataH r1 r2 (shaped_tup gx) (shaped_tup gy) hu ?_
  subst ex; subst ei
  have e : (!PyData.eqv (.tuple [.str x, .int i]) (.tuple [.str x, .int i])) = false := by simp [PyData.eqv, PyData.eqvAll]
  rw [e]; exact h
theorem eq_tups (N : News h₀ L s.heap led) (h1 : (a, tup2 (.str x t) (.int i u)) ∈ led) (h2 : (b, tup2 (.str y t') (.int j u')) ∈ led) (gx : Good x) (gy : Good y) (ex : x = y) (ei : i = j) (hu : A.units + 64 < cLine)
    (h : Q (.bool true) s) : wpAny (model prog w) A (compareOp .Eq (.ref a) (.ref b)) Q E s := by
  obtain ⟨_, r1⟩ := reads_tup N h1
  obtain ⟨_, r2⟩ := reads_tup N h2
  refine eq_dataH r1 r2 (shaped_tup gx) (shaped_tup gy) hu ?_
  subst ex; subst ei
  have e : PyData.eqv (.tuple [.str x, .int i]) (.tuple [.str x, .int i]) = true := by simp [PyData.eqv, PyData.eqvAll]
  rw [e]; exact h
theorem item_t2a {value slice : Expr} {c d : Value} {u : Tok} (N : News h₀ L s.heap led) (h1 : (a, tup2 c d) ∈ led) (h : Q c s)
    (hs : subscripted slice false (.ref a) (.int 0 u) = operate [.ref a, .int 0 u] (getItem (.ref a) (.int 0 u)) := by with_unfolding_all rfl) (hg : ∀ r, letTemporaryGo value (.ref a) r = pure () := by intro _; with_unfolding_all rfl) :
    wpAny (model prog w) A (subscriptTail value slice (.ref a) (.int 0 u)) Q E s :=
  item_tuple (items := #[c, d]) (News.isTup N h1) (by decide) (by decide) rfl rfl h hs hg
theorem item_t2b {value slice : Expr} {c d : Value} {u : Tok} (N : News h₀ L s.heap led) (h1 : (a, tup2 c d) ∈ led) (h : Q d s)
    (hs : subscripted slice false (.ref a) (.int 1 u) = operate [.ref a, .int 1 u] (getItem (.ref a) (.int 1 u)) := by with_unfolding_all rfl) (hg : ∀ r, letTemporaryGo value (.ref a) r = pure () := by intro _; with_unfolding_all rfl) :
    wpAny (model prog w) A (subscriptTail value slice (.ref a) (.int 1 u)) Q E s :=
  item_tuple (items := #[c, d]) (News.isTup N h1) (by decide) (by decide) rfl rfl h hs hg
end
end Mine
/- LUndone -/
namespace Mine
open PySem PySem.W PyProof.Rows
local macro_rules | `(tactic| tb_rel) => `(tactic| first | assumption | exact fun _ h => h | exact fun _ h => List.mem_append_left _ h | exact fun _ h => List.mem_append_right _ h | (refine led_drop (by assumption) ?_; tb_rel) | (refine led_kp ?_; tb_rel) | (refine led_tl1 ?_; tb_rel))
noncomputable def rollN (S R : List Int) : Nat → Str → Str
  | 0, x => x
  | n + 1, x => trO S R (Str.ofString "") (rollN S R n x)
structure Undone (text source : Str) (S T U R : List Int) : Prop where
  a1 : trO T S (Str.ofString "") (trO S T (Str.ofString "") text) = text
  a2 : trN T S (Str.ofString "") (trO S T (Str.ofString "") text) = trN S T (Str.ofString "") text
  b1 : trO T U (Str.ofString "") (trO S T (Str.ofString "") text) = trO S U (Str.ofString "") text
  b2 : trN T U (Str.ofString "") (trO S T (Str.ofString "") text) = trN S U (Str.ofString "") text
  c : rollN S R source.length text = text
theorem rl0 {S R : List Int} {x : Str} (h : Good x) : x = rollN S R ([] : List Int).length x ∧ Good x := ⟨rfl, h⟩
theorem rl1 {S R : List Int} {x r : Str} {pre : List Int} {k : Int} (h : r = rollN S R pre.length x) (g : Good (trO S R (Str.ofString "") r)) :
    trO S R (Str.ofString "") r = rollN S R (pre ++ [k]).length x ∧ Good (trO S R (Str.ofString "") r) := by
  refine ⟨?_, g⟩
  rw [List.length_append, List.length_singleton, rollN, ← h]
theorem rl2 {S R : List Int} {x r : Str} {n : Nat} (h : r = rollN S R (rangeKs 0 ((n : Int) - 0).toNat).length x) (p : rollN S R n x = x) : Value.bool (r == x) = .bool true := by
  rw [rangeKs_length, show ((n : Int) - 0).toNat = n by omega, p] at h
  rw [h, beq_self_eq_true]
local macro_rules | `(tactic| units_room) => `(tactic| ktr_units)
local macro_rules | `(tactic| walk_at "subscriptTail Name Constant ref int") => `(tactic| k_extra "my item")
local macro_rules | `(tactic| walk_at "compareOp NotEq ref ref") => `(tactic| k_extra "my ne")
local macro_rules | `(tactic| walk_at "call ref") => `(tactic| k_extra "my call")
theorem undone_con (w : World) (text source target third : Str) (t0 t t2 t3 : Tok) (S T U R : List Int) (hS : Codes source S) (hT : Codes target T) (hU : Codes third U)
   (hR : Codes (Txt.slice source (some 1) none ++ Txt.slice source none (some 1)) R) (hN : Codes (Str.ofString "") []) (hg : Good text) (hp : Undone text source S T U R) :
   RCon w 241 16 900 [.str text t0, .str source t, .str target t2, .str third t3] [] (fun v new => v = .bool true ∧ new = []) := by
  refine rcon_of fun rest => ?_
  unfold Con
  simp only [List.nil_append]
  intro mean mg mb dp un gd cn sc a ccd cl outer A₀ base h₀ L m s Q E B F X N T' hcs hd hu hret
  w_top off
  k_with_none
  k_with "my item" => (k_here; first | ((with_reducible show wpAny _ _ (subscriptTail _ _ (Value.ref _) (Value.int 0 _)) _ _ _); k_dflt (refine item_t2a (by k_asm) (by k_memK) ?_)) | ((with_reducible show wpAny _ _ (subscriptTail _ _ (Value.ref _) (Value.int 1 _)) _ _ _); k_dflt (refine item_t2b (by k_asm) (by k_memK) ?_)))
  k_with "my ne" => (k_here; (with_reducible show wpAny _ _ (compareOp CmpOp.NotEq (Value.ref _) (Value.ref _)) _ _ _); k_dflt (refine ne_tups (by k_asm) (by k_memK) (by k_memK) (by first | with_reducible assumption | assumption) (by first | with_reducible assumption | assumption) (by first | with_reducible rfl | with_reducible assumption | with_reducible exact Eq.symm (by assumption) | assumption | exact Eq.symm (by assumption)) (by first | with_reducible rfl | with_reducible assumption | with_reducible exact Eq.symm (by assumption) | omega) (by ktr_units) ?_))
  k_with "my call" => (
    k_here
    first
    | (refine (text_con' _ _ _ _ _ _ _ _ _ _ _ _ (by first | with_reducible assumption | assumption) (by first | with_reducible assumption | assumption) (by first | with_reducible assumption | assumption)).use (by k_asm) (by k_asm) (by k_asm) (by k_asm) (by k_asm) (by k_allIn) (by first | exact rfl | assumption) (by ktr_room) (by ktr_units) ?_; intro v9 tl9 h9 tk9 H9 F9 N9; (have hlt9 := H9.2); (replace H9 := H9.1); (try dsimp only at H9); (obtain ⟨l9, ta9, tb9, e9, e8, hg9⟩ := H9); (subst e9); (subst e8); (replace hlt9 := hlt9 _ (List.mem_singleton.mpr rfl)); (try dsimp only at hlt9); (try k_lt hlt9); (try simp only [List.cons_append, List.nil_append] at N9); (try dsimp only))
    )
  refine wpAny_call ?_
  k_dflt cell_enter
  have hlen := hS.len
  obtain ⟨p1, p2, p3, p4, p5⟩ := hp
  k_with "pyIter ref" => (refine Hold.out ?_)
  (repeat' (first | (k_unfold; (try dsimp only)) | (k_end; kc_close) | walk1 | (dsimp only; walk1) | (leave1; walk_say "STEP leave1"; (try dsimp only))))
  refine Hold.mk ?_
  k_with "state" => first | exact rl0 (by assumption) | exact rl1 (by assumption) (by assumption)
  k_state (fun pre r => r = rollN S R pre.length text ∧ Good r) "rolled"
  (repeat' (first | (k_unfold; (try dsimp only)) | (k_end; kc_close) | walk1 | (dsimp only; walk1) | (leave1; walk_say "STEP leave1"; (try dsimp only))))
  exact hret _ _ _ _ ⟨[], ⟨rl2 (by assumption) p5, rfl⟩, rfl⟩ (by k_asm) (by tb_rel)
end Mine
/- LCounted -/
namespace Mine
open PySem PySem.W PyProof.Rows
local macro_rules | `(tactic| walk_at "no such key") => `(tactic| fail "no such key")
local macro_rules | `(tactic| tb_rel) => `(tactic| first | assumption | exact fun _ h => h | exact fun _ h => List.mem_append_left _ h | exact fun _ h => List.mem_append_right _ h | (refine led_drop (by assumption) ?_; tb_rel) | (refine led_kp ?_; tb_rel) | (refine led_tl1 ?_; tb_rel))
structure Counted (text : Str) (S T : List Int) : Prop where
  a1 : trN S [] (Str.ofString "") text = trN S T (Str.ofString "") text
  a2 : trO S [] (Str.ofString "c") text = text
  a3 : trN S [] (Str.ofString "c") text = (text.length : Int) - trN S T (Str.ofString "") text
  b1 : ((trO S [] (Str.ofString "d") text).length : Int) = (text.length : Int) - trN S T (Str.ofString "") text
  b2 : trN S [] (Str.ofString "d") text = trN S T (Str.ofString "") text
  b3 : ((trO S [] (Str.ofString "cd") text).length : Int) = trN S T (Str.ofString "") text
  b4 : trN S [] (Str.ofString "cd") text = (text.length : Int) - trN S T (Str.ofString "") text
  c1 : trN S [] (Str.ofString "") (trO S [] (Str.ofString "d") text) = 0
  c2 : trN S [] (Str.ofString "") (trO S [] (Str.ofString "cd") text) = trN S T (Str.ofString "") text
  d1 : trO S T (Str.ofString "") (trO S [] (Str.ofString "cd") text) = trO T [] (Str.ofString "cd") (trO S T (Str.ofString "") text)
  e1 : trN [35] [] (Str.ofString "") (trO S [35] (Str.ofString "c") text) = (text.length : Int) - trN S T (Str.ofString "") text
  e2 : trO S [] (Str.ofString "cd") (trO S [35] (Str.ofString "c") text) = trO S [] (Str.ofString "cd") text
theorem neF {x y : Str} (h : x = y) (e : (x != y) = true) : False := by subst h; simp at e
theorem c4F {a b c d e f g k : Int} (h1 : a = b) (h2 : c = d) (h3 : e = f) (h4 : g = k) (q : ((a == b) && ((c == d) && ((e == f) && (g == k)))) = false) : False := by
  subst h1; subst h2; subst h3; subst h4; simp at q
theorem bT {x y : Str} (h : x = y) : Value.bool (x == y) = .bool true := by rw [h, beq_self_eq_true]
local macro_rules | `(tactic| units_room) => `(tactic| ktr_units)
local macro_rules | `(tactic| walk_at "subscriptTail Name Constant ref int") => `(tactic| k_extra "my item")
local macro_rules | `(tactic| walk_at "compareOp NotEq ref ref") => `(tactic| k_extra "my ne")
local macro_rules | `(tactic| walk_at "call ref") => `(tactic| k_extra "my call")
theorem counted_con (w : World) (text source target : Str) (t0 t t2 : Tok) (S T : List Int) (hS : Codes source S) (hT : Codes target T)
   (hN : Codes (Str.ofString "") []) (hH : Codes (Str.ofString "#") [35]) (hg : Good text) (hp : Counted text S T) :
   RCon w 248 16 900 [.str text t0, .str source t, .str target t2] [] (fun v new => v = .bool true ∧ new = []) := by
  refine rcon_of fun rest => ?_
  unfold Con
  simp only [List.nil_append]
  intro mean mg mb dp un gd cn sc a ccd cl outer A₀ base h₀ L m s Q E B F X N T' hcs hd hu hret
  w_top off
  k_with_none
  k_with "my item" => (k_here; first | ((with_reducible show wpAny _ _ (subscriptTail _ _ (Value.ref _) (Value.int 0 _)) _ _ _); k_dflt (refine item_t2a (by k_asm) (by k_memK) ?_)) | ((with_reducible show wpAny _ _ (subscriptTail _ _ (Value.ref _) (Value.int 1 _)) _ _ _); k_dflt (refine item_t2b (by k_asm) (by k_memK) ?_)))
  k_with "my ne" => (k_here; (with_reducible show wpAny _ _ (compareOp CmpOp.NotEq (Value.ref _) (Value.ref _)) _ _ _); k_dflt (refine ne_tups (by k_asm) (by k_memK) (by k_memK) (by first | with_reducible assumption | assumption) (by first | with_reducible assumption | assumption) (by first | with_reducible rfl | with_reducible assumption | with_reducible exact Eq.symm (by assumption) | assumption | exact Eq.symm (by assumption)) (by first | with_reducible rfl | with_reducible assumption | with_reducible exact Eq.symm (by assumption) | omega) (by ktr_units) ?_))
  k_with "my call" => (
    k_here
    first
    | (refine (text_con' _ _ _ _ _ _ _ _ _ _ _ _ (by first | with_reducible assumption | assumption) (by first | with_reducible assumption | assumption) (by first | with_reducible assumption | assumption)).use (by k_asm) (by k_asm) (by k_asm) (by k_asm) (by k_asm) (by k_allIn) (by first | exact rfl | assumption) (by ktr_room) (by ktr_units) ?_; intro v9 tl9 h9 tk9 H9 F9 N9; (have hlt9 := H9.2); (replace H9 := H9.1); (try dsimp only at H9); (obtain ⟨l9, ta9, tb9, e9, e8, hg9⟩ := H9); (subst e9); (subst e8); (replace hlt9 := hlt9 _ (List.mem_singleton.mpr rfl)); (try dsimp only at hlt9); (try k_lt hlt9); (try simp only [List.cons_append, List.nil_append] at N9); (try dsimp only))
    | (refine (count_con' _ _ _ _ _ _ _ (by first | with_reducible assumption | assumption) (by first | with_reducible assumption | assumption)).use (by k_asm) (by k_asm) (by k_asm) (by k_asm) (by k_asm) (by k_allIn) (by first | exact rfl | assumption) (by ktr_room) (by ktr_units) ?_; intro v9 tl9 h9 tk9 H9 F9 N9; (try dsimp only at H9); (obtain ⟨tb9, e9, e8⟩ := H9); (subst e9); (subst e8); (try simp only [List.cons_append, List.nil_append] at N9); (try dsimp only))
    )
  refine wpAny_call ?_
  k_dflt cell_enter
  have hlen := hg.len
  obtain ⟨p1, p2, p3, p4, p5, p6, p7, p8, p9, p10, p11, p12⟩ := hp
  (repeat' (first | (k_unfold; (try dsimp only)) | (k_end; kc_close) | walk1 | (dsimp only; walk1) | (leave1; walk_say "STEP leave1"; (try dsimp only))))
  all_goals first
    | exact absurd (show trN S [] (Str.ofString "") text = _ from p1) (by assumption)
    | exact absurd p8 (by assumption)
    | exact absurd p9 (by assumption)
    | exact hret _ _ _ _ ⟨[], ⟨rfl, rfl⟩, rfl⟩ (by k_asm) (by tb_rel)
    | exact hret _ _ _ _ ⟨[], ⟨bT p12, rfl⟩, rfl⟩ (by k_asm) (by tb_rel)
    | exact absurd p11 (by assumption)
    | exact (neF p10 (by assumption)).elim
    | exact (c4F p4 p5 p6 p7 (by assumption)).elim
end Mine
/- LRev -/
namespace Mine
open PySem PySem.W PyProof.Rows
local macro_rules | `(tactic| tb_rel) => `(tactic| first | assumption | exact fun _ h => h | exact fun _ h => List.mem_append_left _ h | exact fun _ h => List.mem_append_right _ h | (refine led_drop (by assumption) ?_; tb_rel) | (refine led_kp ?_; tb_rel) | (refine led_tl1 ?_; tb_rel))
theorem neF2 {x y : Str} (h : x = y) (e : (x != y) = true) : False := by subst h; simp at e
theorem bT2 {x y : Str} (h : x = y) : Value.bool (x == y) = .bool true := by rw [h, beq_self_eq_true]
local macro_rules | `(tactic| units_room) => `(tactic| ktr_units)
def revS (x : Str) : Str := ⟨x.cps.toList.reverse.toArray⟩
theorem rev_eq (x : Str) (u : Tok) : Txt.sliceBy x none none (-1, u) = revS x := by
  refine Str.ext' (Array.toList_inj.mp ?_)
  rw [step_rev_list]
  show _ = x.cps.toList.reverse
  refine List.ext_getElem (by simp [Str.length]) fun i h1 h2 => ?_
  rw [List.getElem_map, List.getElem_range, List.getElem_reverse]
  have hi : i < x.cps.size := by simpa [Str.length] using h1
  simp only [Array.getD_eq_getD_getElem?, Array.length_toList, Array.getElem_toList]
  rw [show x.length = x.cps.size from rfl, Array.getElem?_eq_getElem (by omega)]
  rfl
open KStt (codes txt) in
theorem codes_rev (x : Str) : codes (revS x) = (codes x).reverse := by
  unfold KStt.codes revS
  rw [List.map_reverse]
theorem good_rev {x : Str} (h : Good x) : Good (revS x) := by
  constructor
  · rw [← KStt.codes_length, codes_rev, List.length_reverse, KStt.codes_length]; exact h.len
  · intro c hc
    rw [codes_rev, List.mem_reverse] at hc
    exact h.ok c hc
theorem str_eq {a b : Str} {t : Tok} (h : a = b) : Value.str a t = Value.str b t := h ▸ rfl
theorem rev_con (w : World) (text : Str) (t0 : Tok) (hg : Good text) : RCon w 220 2 60 [.str text t0] [] (fun v new => ∃ t, v = .str (revS text) t ∧ new = [] ∧ Good (revS text)) := by
  have hx := hg.len
  refine rcon_of fun rest => ?_
  unfold Con
  simp only [List.nil_append]
  intro mean mg mb dp un gd cn sc a ccd cl outer A₀ base h₀ L m s Q E B F X N T' hcs hd hu hret
  w_top off
  k_with_none
  refine wpAny_call ?_
  k_dflt cell_enter
  (repeat' (first | (k_unfold; (try dsimp only)) | (k_end; kc_close) | walk1 | (dsimp only; walk1) | (leave1; walk_say "STEP leave1"; (try dsimp only))))
  exact hret _ _ _ _ ⟨[], ⟨_, str_eq (rev_eq _ _), rfl, good_rev hg⟩, rfl⟩ (by k_asm) (by tb_rel)
end Mine
/- LPartS -/
namespace Mine
open PySem PySem.W PyProof.Rows
local macro_rules | `(tactic| tb_rel) => `(tactic| first | assumption | exact fun _ h => h | exact fun _ h => List.mem_append_left _ h | exact fun _ h => List.mem_append_right _ h | (refine led_drop (by assumption) ?_; tb_rel) | (refine led_kp ?_; tb_rel) | (refine led_tl1 ?_; tb_rel))
structure PartS (text : Str) (S T : List Int) (fl fl' : Str) : Prop where
  r1 : trO S T fl (revS text) = revS (trO S T fl text)
  r2 : trN S T fl (revS text) = trN S T fl text
  s1 : trN S T fl' text = trN S T fl text
  s2 : trO T [] (Str.ofString "s") (trO S T fl' text) = trO S T fl text
local macro_rules | `(tactic| units_room) => `(tactic| ktr_units)
local macro_rules | `(tactic| walk_at "subscriptTail Name Constant ref int") => `(tactic| k_extra "my item")
local macro_rules | `(tactic| walk_at "compareOp NotEq ref ref") => `(tactic| k_extra "my ne")
local macro_rules | `(tactic| walk_at "call ref") => `(tactic| k_extra "my call")

theorem partS_con (w : World) (text source target fl fl' : Str) (place : Int) (t0 t t2 t3 t4 : Tok) (S T : List Int) (hS : Codes source S) (hT : Codes target T)
   (hN : Codes (Str.ofString "") []) (hg : Good text) (hf : (Builtin.Str.occurrences fl (Str.ofString "s") 0 fl.length 1).isEmpty = false) (hfl : Txt.slice fl none (some (-1)) = fl') (hfn : fl.length ≤ 10) (hp : PartS text S T fl fl') :
   RCon w 253 16 900 [.str text t0, .str source t, .str target t2, .str fl t3, .int place t4] [] (fun v new => v = .bool true ∧ new = []) := by
  refine rcon_of fun rest => ?_
  unfold Con
  simp only [List.nil_append]
  intro mean mg mb dp un gd cn sc a ccd cl outer A₀ base h₀ L m s Q E B F X N T' hcs hd hu hret
  w_top off
  k_with_none
  k_with "my item" => (k_here; first | ((with_reducible show wpAny _ _ (subscriptTail _ _ (Value.ref _) (Value.int 0 _)) _ _ _); k_dflt (refine item_t2a (by k_asm) (by k_memK) ?_)) | ((with_reducible show wpAny _ _ (subscriptTail _ _ (Value.ref _) (Value.int 1 _)) _ _ _); k_dflt (refine item_t2b (by k_asm) (by k_memK) ?_)))
  k_with "my ne" => (k_here; (with_reducible show wpAny _ _ (compareOp CmpOp.NotEq (Value.ref _) (Value.ref _)) _ _ _); k_dflt (refine ne_tups (by k_asm) (by k_memK) (by k_memK) (by first | with_reducible assumption | assumption) (by first | with_reducible assumption | assumption) (by first | with_reducible rfl | with_reducible assumption | with_reducible exact Eq.symm (by assumption) | assumption | exact Eq.symm (by assumption)) (by first | with_reducible rfl | with_reducible assumption | with_reducible exact Eq.symm (by assumption) | omega) (by ktr_units) ?_))
  k_with "my call" => (
    k_here
    first
    | (refine (text_con' _ _ _ _ _ _ _ _ _ _ _ _ (by first | with_reducible assumption | assumption) (by first | with_reducible assumption | assumption) (by first | with_reducible assumption | assumption)).use (by k_asm) (by k_asm) (by k_asm) (by k_asm) (by k_asm) (by k_allIn) (by first | exact rfl | assumption) (by ktr_room) (by ktr_units) ?_; intro v9 tl9 h9 tk9 H9 F9 N9; (have hlt9 := H9.2); (replace H9 := H9.1); (try dsimp only at H9); (obtain ⟨l9, ta9, tb9, e9, e8, hg9⟩ := H9); (subst e9); (subst e8); (replace hlt9 := hlt9 _ (List.mem_singleton.mpr rfl)); (try dsimp only at hlt9); (try k_lt hlt9); (try simp only [List.cons_append, List.nil_append] at N9); (try dsimp only))
    | (refine (rev_con _ _ _ (by first | with_reducible assumption | assumption)).use (by k_asm) (by k_asm) (by k_asm) (by k_asm) (by k_asm) (by k_allIn) (by first | exact rfl | assumption) (by ktr_room) (by ktr_units) ?_; intro v9 tl9 h9 tk9 H9 F9 N9; (try dsimp only at H9); (obtain ⟨t9, e9, e8, hg9⟩ := H9); (subst e9); (subst e8); (try simp only [List.cons_append, List.nil_append] at N9); (try dsimp only))
    )
  refine wpAny_call ?_
  k_dflt (refine' code_defC ?k1 ?k2 ?k3 ?k4 ?k5 ?kA ?kF ?kK ?k6 ?k7 ?k8 ?k9 ?kB ?kD ?_ ?c2 ?c3 ?c4; (case kA => exact rfl); (case kF => exact rfl); (case kK => first | exact rfl | assumption); (case k1 => k_asm); (case k2 => k_asm); (case k3 => k_asm); (case k4 => k_asm); (case k5 => k_asm); (case k6 => k_is); (case k7 => k_is); (case k8 => ktr_room); (case k9 => exact BindsTo.of_eq rfl); (case kB => exact rfl); (case kD => decide +kernel); (case c2 => exact rfl); (case c3 => exact rfl); (case c4 => exact rfl); k_whole; intro g' L' h' tk' cells' FG' F' N' Y' B' X' T' l1; (try k_lt l1); k_cells Y'; (try simp only [List.cons_append, List.nil_append] at N'); (try dsimp only); (try k_lift B'); (try k_fold))
  have hlen := hg.len
  subst hfl
  obtain ⟨p1, p2, p3, p4⟩ := hp
  (repeat' (first | (k_unfold; (try dsimp only)) | (k_end; kc_close) | walk1 | (dsimp only; walk1) | (leave1; walk_say "STEP leave1"; (try dsimp only))))
  · exact hret _ _ _ _ ⟨[], ⟨bT2 p4, rfl⟩, rfl⟩ (by k_asm) (by tb_rel)
  · exact absurd p3 (by assumption)
end Mine
/- LComp -/
namespace Mine
open PySem PySem.W PySem.Spec PySem.Calls PyProof.Rows
open LCg
def TupAt (ax : Addr) (its : Array Value) (news : Led) : Prop := ∃ o, (ax, o) ∈ news ∧ o.cls = .type "tuple" ∧ ∃ n, o.data = .seq its n
theorem TupAt.tup {h₀ h : Heap} {L ax : Addr} {its : Array Value} {news : Led} (x : TupAt ax its news) (N : News h₀ L h news) : h.IsTuple ax its := by
  obtain ⟨o, hm, hc, hd⟩ := x
  exact ⟨o, (N _ hm).1, hc, hd⟩
def SrcT (prog : Program) (w : World) (A : Around) (h₀ : Heap) (L : Addr) (m : Str → Option Value) (env : Env) (elt : Expr) (x : Str) (scope : Scope) (cl : List (Str × Addr)) (Fin : Shared → List Value → Led → Prop) (xv : Value) (s₁ : Shared) : Prop :=
  ∃ ax its news, xv = .ref ax ∧ A.handled = none ∧ Fr h₀ L s₁.heap m ∧ News h₀ L s₁.heap news ∧ TupAt ax its news ∧ its.size ≤ sizeLine ∧
    ∀ s₂ : Shared, (∃ h, s₂ = { s₁ with heap := h }) → CompRest prog w A h₀ L m env elt x scope cl s₂ (TupAt ax its) (fun i v => its[i]? = some v) (Fin s₂) its.size 0 [] news
section
variable {prog : Program} {w : World} {A : Around} {E : Value → Shared → Prop} {s : Shared} {h₀ : Heap} {L : Addr} {m : Str → Option Value} {env : Env}
theorem tup_st {ax I : Addr} {its : Array Value} : ∀ i (h h' : Heap) (o : Obj) (nw : Led), (h.IsTupleIter I ax i ∧ h.IsTuple ax its) → h.get? I = some o → h'.get? I = some o → (∀ b o, h₀.get? b = some o → h'.get? b = some o) → News h₀ L h' nw → TupAt ax its nw → (h'.IsTupleIter I ax i ∧ h'.IsTuple ax its) := by
  rintro i h h' o nw ⟨⟨o', stands, rest⟩, _⟩ e e' _ N S
  obtain rfl : o' = o := Option.some.inj (stands.symm.trans e)
  exact ⟨⟨o', e', rest⟩, S.tup N⟩
theorem tuple_old {h : Heap} {t : Addr} {its : Array Value} (x : h.IsTuple t its) : t < h.objs.size := x.elim fun _ e => Heap.lt_size e.1
theorem push_keeps (h : Heap) (x : Obj) (b : Addr) (o : Obj) (e : h.get? b = some o) : (h.push x).get? b = some o := Heap.get?_push_of_some _ e
theorem pair_below {h : Heap} {t : Addr} (x : Obj) (old : t < h.objs.size) : ∀ b ∈ [h.objs.size, t], b < (h.push x).objs.size := by
  rw [Heap.size_push]
  exact List.forall_mem_cons.mpr ⟨Nat.lt_succ_self _, List.forall_mem_cons.mpr ⟨Nat.lt_succ_of_lt old, fun _ h => nomatch h⟩⟩
theorem ListComp_T {elt iter : Expr} {x : Str} {px : Pos} {scope : Scope} {cl : List (Str × Addr)} {pos : Pos} {Q : Value → Shared → Prop} (F₀ : Fr h₀ L s.heap m)
    (hclos : closureFor scope env = pure cl) (hcell : ∀ y ∈ scope.names, y.2 ≠ .cell) (hkind : scope.kind = .function)
    (hnames : ∀ y ∈ scope.names, y.2 = .local → scope.names.lookup y.1 = some .local) (hx : scope.names.lookup x = some .local)
    (h : wpAny (model prog w) A (eval iter env) (SrcT prog w A h₀ L m env elt x scope cl (fun s₂ => FinE h₀ L m s₂ Q)) E s)
    (hs : ∀ x, foldedSetIterable iter env x = pure x := by intro _; rfl) :
    wpAny (model prog w) A (eval (.ListComp elt [⟨.Name x px, iter, [], 0⟩] scope pos) env) Q E s := by
  rw [eval_ListComp]
  refine wpAny_comprehension_free (use := none) rfl hs hclos hkind hnames (wpAny_mono h ?_ fun _ _ z => z)
  rintro _ s₁ ⟨t, its, news, rfl, free, F, N, S, short, rest⟩
  have isT := S.tup N
  have old := tuple_old isT
  refine wpAny_pyIter_tuple isT (block_U (Walks.tuple free s₁.heap.objs.size t (Nat.ne_of_lt old) its) short ?_ tup_st hcell hkind hx ?_ ?_ (F.keeps (push_keeps _ _)) (N.grown (push_keeps _ _))
    (Nat.ne_of_lt F.ns.lt) (next_is_new F) (fun p hp => Nat.ne_of_lt (Heap.lt_size (N p hp).1)) S (rest _ ⟨_, rfl⟩) ?_)
  · rintro i g ⟨⟨o, stands, _⟩, _⟩
    exact ⟨o, stands⟩
  · exact ⟨⟨_, Heap.get?_push_size _ rfl, rfl, rfl⟩, isT.at (push_keeps _ _ _)⟩
  · exact pair_below _ old
  · intro D C g tk m' ys news' F' N' one same new₁ _ l₁ _ apart others fin
    exact ⟨m', same, fun g' but => fin D g' tk (F'.change but l₁ new₁) (fun p hp => ⟨but.extBut _ _ ((List.forall_mem_cons (p := fun q : Addr × Obj => q.1 ≠ C)).mpr ⟨Ne.symm apart, others⟩ p hp) (N' p hp).1, (N' p hp).2⟩) one⟩
theorem cend {I C D : Addr} {s₁ : Shared} {oI oC oD : Obj} {S : Led → Prop} {rest : Value → Led → Prop} {y : Value} {h' : Heap} {tk : Nat} {p : Addr × Obj} {l : Led}
    (F : Fr h₀ L h' m) (N : News h₀ L h' (p :: (I, oI) :: (C, oC) :: (D, oD) :: l)) (hp : (@Ne Nat p.1 I) ∧ (@Ne Nat p.1 C) ∧ (@Ne Nat p.1 D)) (off : Off3 I C D l) (hS : S (p :: l)) (r : rest y (p :: l)) :
    CompEnd h₀ L m s₁ I oI C oC D oD S rest y { s₁ with heap := h', toks := tk } := by
  refine CompEnd.intro F N (p :: l) ?_ ⟨hp, off⟩ hS r
  intro q hq
  simp only [List.mem_cons] at hq ⊢
  rcases hq with h | h | h | h | h
  · exact .inr (.inl h)
  · exact .inr (.inr (.inl h))
  · exact .inr (.inr (.inr (.inl h)))
  · exact .inl h
  · exact .inr (.inr (.inr (.inr h)))
theorem cend0 {I C D : Addr} {s₁ : Shared} {oI oC oD : Obj} {S : Led → Prop} {rest : Value → Led → Prop} {y : Value} {h' : Heap} {tk : Nat} {l : Led}
    (F : Fr h₀ L h' m) (N : News h₀ L h' ((I, oI) :: (C, oC) :: (D, oD) :: l)) (off : Off3 I C D l) (hS : S l) (r : rest y l) :
    CompEnd h₀ L m s₁ I oI C oC D oD S rest y { s₁ with heap := h', toks := tk } := CompEnd.intro F N l (fun _ h => h) off hS r
theorem rest_ind {elt : Expr} {x : Str} {scope : Scope} {cl : List (Str × Addr)} {S : Led → Prop} {P : Nat → Value → Prop} {Fin : List Value → Led → Prop} {n : Nat} {news : Led} (Inv : Nat → List Value → Led → Prop) (h0 : Inv 0 [] news)
    (step : ∀ i ys nw, i < n → Inv i ys nw → ∀ v I oI C oC D m₂ h tk (E' : Value → Shared → Prop), P i v → NsObj oC m₂ → m₂ x = some v → Fr h₀ L h m → News h₀ L h ((I, oI) :: (C, oC) :: (D, lst ys) :: nw) → Off3 I C D nw → ((@Ne Nat I C) ∧ (@Ne Nat I D) ∧ (@Ne Nat C D)) →
      wpAny (model prog w) A (eval elt (compEnvC scope cl C env)) (CompEnd h₀ L m { s with heap := h, toks := tk } I oI C oC D (lst ys) S (fun y nw' => Inv (i + 1) (ys ++ [y]) nw')) E' { s with heap := h, toks := tk })
    (fin : ∀ ys nw, Inv n ys nw → Fin ys nw) : CompRest prog w A h₀ L m env elt x scope cl s S P Fin n 0 [] news := by
  have key : ∀ (k i : Nat) (ys : List Value) (nw : Led), i + k = n → Inv i ys nw → CompRest prog w A h₀ L m env elt x scope cl s S P Fin k i ys nw := by
    intro k
    induction k with
    | zero => intro i ys nw e hI; exact fin ys nw (by rw [← e]; exact hI)
    | succ k ih =>
      intro i ys nw e hI
      refine CompRest.succ ?_
      intro v I oI C oC D m₂ h tk E' hP hC hx F N off ne
      refine wpAny_mono (step i ys nw (by omega) hI v I oI C oC D m₂ h tk E' hP hC hx F N off ne) (fun y s₂ q => ?_) fun _ _ z => z
      obtain ⟨h', tk', news', e', F', N', off', hS, r⟩ := q
      exact ⟨h', tk', news', e', F', N', off', hS, ih (i + 1) (ys ++ [y]) news' (by omega) r⟩
  exact key n 0 [] news (by omega) h0
end
end Mine
/- PLaw -/
namespace Mine
open PySem PySem.W PyProof.Rows
open KStt (codes txt)
/-- the letters of a law's lists -/
structure Pair (S T : List Int) : Prop where
  nodupS : S.Nodup
  nodupT : T.Nodup
  len : S.length = T.length
theorem idx_getD {S : List Int} (h : S.Nodup) {i : Nat} (hi : i < S.length) : S.idxOf (S.getD i 0) = i := by
  have e : S.getD i 0 = S[i] := by simp [hi]
  rw [e]; exact h.idxOf_getElem i hi
theorem getD_idx {S : List Int} {c : Int} (h : c ∈ S) : S.getD (S.idxOf c) 0 = c := by
  have hi := List.idxOf_lt_length_iff.mpr h
  have e : S.getD (S.idxOf c) 0 = S[S.idxOf c] := by simp [hi]
  rw [e]; exact List.getElem_idxOf hi
theorem getD_in {S : List Int} {i : Nat} (hi : i < S.length) : S.getD i 0 ∈ S := by
  have e : S.getD i 0 = S[i] := by simp [hi]
  rw [e]; exact List.getElem_mem hi
/-- a plain turn by lists of one length -/
theorem turn_eq {S T : List Int} (hl : S.length = T.length) (c : Int) : trF S T false false c = if c ∈ S then T.getD (S.idxOf c) 0 else -1 := by
  rw [trF_plain]
  by_cases h : c ∈ S
  · rw [if_pos h, if_pos h]
    unfold pval
    rw [if_pos (by rw [← hl]; exact List.idxOf_lt_length_iff.mpr h)]
  · rw [if_neg h, if_neg h]
/-- no list holds a sign below nought -/
def NN (S : List Int) : Prop := ∀ c ∈ S, 0 ≤ c
theorem one_turn {S T : List Int} (hl : S.length = T.length) (hT : NN T) (c : Int) : one (trF S T false false) c = [if c ∈ S then T.getD (S.idxOf c) 0 else c] := by
  unfold one
  rw [turn_eq hl]
  by_cases h : c ∈ S
  · have hi : S.idxOf c < T.length := by rw [← hl]; exact List.idxOf_lt_length_iff.mpr h
    have := hT _ (getD_in hi)
    rw [if_pos h, if_neg (by omega), if_neg (by omega), if_pos h]
  · rw [if_neg h, if_pos rfl, if_neg h]
def tr (S T : List Int) (c : Int) : Int := if c ∈ S then T.getD (S.idxOf c) 0 else c
theorem out_turn {S T : List Int} (hl : S.length = T.length) (hT : NN T) : ∀ l, out (trF S T false false) l = l.map (tr S T)
  | [] => rfl
  | c :: l => by
    unfold out
    rw [List.flatMap_cons, one_turn hl hT, List.map_cons]
    show _ = tr S T c :: l.map (tr S T)
    rw [← out_turn hl hT l]
    rfl
theorem cnt_turn {S T : List Int} (hl : S.length = T.length) (hT : NN T) : ∀ l, cnt (trF S T false false) l = (l.countP fun c => decide (c ∈ S) : Nat) := by
  intro l
  unfold cnt
  congr 1
  refine List.countP_congr fun c _ => ?_
  rw [turn_eq hl]
  by_cases h : c ∈ S
  · have hi : S.idxOf c < T.length := by rw [← hl]; exact List.idxOf_lt_length_iff.mpr h
    have := hT _ (getD_in hi)
    rw [if_pos h]
    simp only [h, decide_true, decide_eq_true_eq, iff_true]; omega
  · rw [if_neg h]; simp [h]
theorem tr_back {S T : List Int} (p : Pair S T) {c : Int} (h : c ∉ T) : tr T S (tr S T c) = c := by
  unfold tr
  by_cases hc : c ∈ S
  · have hi : S.idxOf c < T.length := by rw [← p.len]; exact List.idxOf_lt_length_iff.mpr hc
    rw [if_pos hc, if_pos (getD_in hi), idx_getD p.nodupT hi, getD_idx hc]
  · rw [if_neg hc, if_neg h]
theorem tr_on {S T U : List Int} (p : Pair S T) {c : Int} (h : c ∉ T) : tr T U (tr S T c) = tr S U c := by
  unfold tr
  by_cases hc : c ∈ S
  · have hi : S.idxOf c < T.length := by rw [← p.len]; exact List.idxOf_lt_length_iff.mpr hc
    rw [if_pos hc, if_pos (getD_in hi), idx_getD p.nodupT hi, if_pos hc]
  · rw [if_neg hc, if_neg h, if_neg hc]
theorem tr_mem {S T : List Int} (p : Pair S T) {c : Int} (h : c ∉ T) : tr S T c ∈ T ↔ c ∈ S := by
  unfold tr
  by_cases hc : c ∈ S
  · have hi : S.idxOf c < T.length := by rw [← p.len]; exact List.idxOf_lt_length_iff.mpr hc
    rw [if_pos hc]
    exact ⟨fun _ => hc, fun _ => getD_in hi⟩
  · rw [if_neg hc]
    exact ⟨fun q => absurd q h, fun q => absurd q hc⟩
def Off (T : List Int) (l : List Int) : Prop := ∀ c ∈ l, c ∉ T
theorem map_back {S T : List Int} (p : Pair S T) : ∀ l, Off T l → (l.map (tr S T)).map (tr T S) = l := by
  intro l h
  rw [List.map_map]
  refine (List.map_congr_left fun c hc => ?_).trans (List.map_id _)
  exact tr_back p (h c hc)
theorem map_on {S T U : List Int} (p : Pair S T) : ∀ l, Off T l → (l.map (tr S T)).map (tr T U) = l.map (tr S U) := by
  intro l h
  rw [List.map_map]
  exact List.map_congr_left fun c hc => tr_on p (h c hc)
theorem count_map {S T : List Int} (p : Pair S T) (l : List Int) (h : Off T l) : (l.map (tr S T)).countP (fun c => decide (c ∈ T)) = l.countP fun c => decide (c ∈ S) := by
  rw [List.countP_map]
  refine List.countP_congr fun c hc => ?_
  simp only [Function.comp, decide_eq_true_eq]
  exact tr_mem p (h c hc)
/- squeezing, told by neighbours -/
section
variable {f : Int → Int}
def gv (f : Int → Int) (c : Int) : Int := if f c = -1 then c else f c
def sqz (f : Int → Int) : List Int → List Int
  | [] => []
  | [c] => [gv f c]
  | c :: d :: l => if f c ≠ -1 ∧ f c = f d then sqz f (d :: l) else gv f c :: sqz f (d :: l)
theorem go_sqz (h2 : ∀ c, f c ≠ -2) : ∀ (l : List Int) (c : Int), (f c ≠ -1 → f c :: go f true (f c) l = sqz f (c :: l)) ∧ (f c = -1 → c :: go f true (-1) l = sqz f (c :: l))
  | [], c => by
    constructor
    · intro h; simp [go, sqz, gv, h]
    · intro h; simp [go, sqz, gv, h]
  | d :: l, c => by
    obtain ⟨i1, i2⟩ := go_sqz h2 l d
    constructor
    · intro h
      by_cases hd : f d = -1
      · have e : go f true (f c) (d :: l) = d :: go f true (-1) l := by rw [go, if_pos hd]
        rw [e, i2 hd, sqz, if_neg (by rintro ⟨_, q⟩; exact h (q.trans hd))]
        unfold gv; rw [if_neg h]
      · by_cases hk : f d = f c
        · have e : go f true (f c) (d :: l) = go f true (f c) l := by rw [go, if_neg hd, if_pos (.inr ⟨rfl, hk⟩)]
          rw [e, sqz, if_pos ⟨h, hk.symm⟩, ← i1 hd, hk]
        · have e : go f true (f c) (d :: l) = f d :: go f true (f d) l := by
            rw [go, if_neg hd, if_neg (by rintro (q | q); exact h2 d q; exact hk q.2)]
          rw [e, i1 hd, sqz, if_neg (by rintro ⟨_, q⟩; exact hk q.symm)]
          unfold gv; rw [if_neg h]
    · intro h
      by_cases hd : f d = -1
      · have e : go f true (-1) (d :: l) = d :: go f true (-1) l := by rw [go, if_pos hd]
        rw [e, i2 hd, sqz, if_neg (by rintro ⟨q, _⟩; exact q h)]
        unfold gv; rw [if_pos h]
      · have e : go f true (-1) (d :: l) = f d :: go f true (f d) l := by
          rw [go, if_neg hd, if_neg (by rintro (q | q); exact h2 d q; exact hd q.2)]
        rw [e, i1 hd, sqz, if_neg (by rintro ⟨q, _⟩; exact q h)]
        unfold gv; rw [if_pos h]
theorem go_eq_sqz (h2 : ∀ c, f c ≠ -2) : ∀ l, go f true (-1) l = sqz f l
  | [] => rfl
  | c :: l => by
    obtain ⟨i1, i2⟩ := go_sqz h2 l c
    by_cases h : f c = -1
    · rw [go, if_pos h, i2 h]
    · rw [go, if_neg h, if_neg (by rintro (q | q); exact h2 c q; exact h q.2), i1 h]
theorem sqz_snoc : ∀ (l : List Int) (c d : Int), sqz f (l ++ [c, d]) = if f c ≠ -1 ∧ f c = f d then sqz f (l ++ [c]) else sqz f (l ++ [c]) ++ [gv f d]
  | [], c, d => by
    show sqz f [c, d] = if f c ≠ -1 ∧ f c = f d then [gv f c] else [gv f c] ++ [gv f d]
    rw [sqz]
    by_cases h : f c ≠ -1 ∧ f c = f d
    · rw [if_pos h, if_pos h]
      have hd : f d ≠ -1 := h.2 ▸ h.1
      show [gv f d] = [gv f c]
      unfold gv; rw [if_neg h.1, if_neg hd, h.2]
    · rw [if_neg h, if_neg h]; rfl
  | [a], c, d => by
    have ih := sqz_snoc [] c d
    simp only [List.nil_append] at ih
    have e : sqz f [a, c] = if f a ≠ -1 ∧ f a = f c then sqz f [c] else gv f a :: sqz f [c] := by conv => lhs; rw [sqz]
    have e2 : sqz f [a, c, d] = if f a ≠ -1 ∧ f a = f c then sqz f [c, d] else gv f a :: sqz f [c, d] := by conv => lhs; rw [sqz]
    show sqz f [a, c, d] = if f c ≠ -1 ∧ f c = f d then sqz f [a, c] else sqz f [a, c] ++ [gv f d]
    rw [e2, e, ih]
    by_cases h1 : f a ≠ -1 ∧ f a = f c
    · simp only [if_pos h1]
    · simp only [if_neg h1]
      by_cases h2 : f c ≠ -1 ∧ f c = f d
      · simp only [if_pos h2]
      · simp only [if_neg h2]; rfl
  | a :: b :: l, c, d => by
    have ih := sqz_snoc (b :: l) c d
    simp only [List.cons_append] at ih ⊢
    rw [sqz, sqz, ih]
    by_cases h1 : f a ≠ -1 ∧ f a = f b
    · simp only [if_pos h1]
    · simp only [if_neg h1]
      by_cases h2 : f c ≠ -1 ∧ f c = f d
      · simp only [if_pos h2]
      · simp only [if_neg h2]; rfl
theorem sqz_reverse : ∀ l : List Int, sqz f l.reverse = (sqz f l).reverse
  | [] => rfl
  | [c] => rfl
  | c :: d :: l => by
    have ih := sqz_reverse (d :: l)
    have e : (c :: d :: l).reverse = l.reverse ++ [d, c] := by simp
    have e2 : (d :: l).reverse = l.reverse ++ [d] := by simp
    rw [e, sqz_snoc, ← e2, ih, sqz]
    by_cases h : f c ≠ -1 ∧ f c = f d
    · have h' : f d ≠ -1 ∧ f d = f c := ⟨h.2 ▸ h.1, h.2.symm⟩
      rw [if_pos h', if_pos h]
    · have h' : ¬ (f d ≠ -1 ∧ f d = f c) := fun q => h ⟨q.2 ▸ q.1, q.2.symm⟩
      rw [if_neg h', if_neg h, List.reverse_cons]
theorem one_rev (c : Int) : (one f c).reverse = one f c := by
  unfold one; split
  · rfl
  · split <;> rfl
theorem out_reverse : ∀ l : List Int, out f l.reverse = (out f l).reverse
  | [] => rfl
  | c :: l => by
    have ih := out_reverse l
    unfold out at ih ⊢
    rw [List.reverse_cons, List.flatMap_append, ih]
    show _ ++ (one f c ++ []) = (one f c ++ l.flatMap (one f)).reverse
    rw [List.append_nil, List.reverse_append, one_rev]
theorem out_append (a b : List Int) : out f (a ++ b) = out f a ++ out f b := by unfold out; rw [List.flatMap_append]
theorem cnt_append (a b : List Int) : cnt f (a ++ b) = cnt f a + cnt f b := by unfold cnt; rw [List.countP_append]; exact Int.natCast_add _ _
theorem cnt_reverse (l : List Int) : cnt f l.reverse = cnt f l := by unfold cnt; rw [List.countP_reverse]
/-- squeezing what a plain turn left -/
theorem go_twice {h : Int → Int} (h2 : ∀ c, f c ≠ -2) : ∀ (l : List Int), (∀ c ∈ l, (f c = -1 → h c = -1) ∧ (f c ≠ -1 → h (f c) = f c)) → ∀ last, go h true last (l.map (gv f)) = go f true last l
  | [], _, _ => rfl
  | c :: l, hl, last => by
    have ih := go_twice h2 l fun d hd => hl d (List.mem_cons_of_mem _ hd)
    obtain ⟨q1, q2⟩ := hl c (List.mem_cons_self ..)
    rw [List.map_cons]
    by_cases hc : f c = -1
    · have e : gv f c = c := by unfold gv; rw [if_pos hc]
      rw [e, go, go, if_pos hc, if_pos (q1 hc), ih]
    · have e : gv f c = f c := by unfold gv; rw [if_neg hc]
      have e2 := q2 hc
      have h3 := h2 c
      rw [e, go, go, e2, if_neg hc, if_neg hc]
      by_cases hq : f c = -2 ∨ (true = true ∧ f c = last)
      · rw [if_pos hq, if_pos hq, ih]
      · rw [if_neg hq, if_neg hq, ih]
end
end Mine
/- PFacts -/
namespace Mine
open PySem PySem.W PyProof.Rows
open KStt (codes txt)
theorem he_c : has (Str.ofString "") "c" = false := by decide +kernel
theorem he_d : has (Str.ofString "") "d" = false := by decide +kernel
theorem he_s : has (Str.ofString "") "s" = false := by decide +kernel
theorem hc_c : has (Str.ofString "c") "c" = true := by decide +kernel
theorem hc_d : has (Str.ofString "c") "d" = false := by decide +kernel
theorem hc_s : has (Str.ofString "c") "s" = false := by decide +kernel
theorem hd_c : has (Str.ofString "d") "c" = false := by decide +kernel
theorem hd_d : has (Str.ofString "d") "d" = true := by decide +kernel
theorem hd_s : has (Str.ofString "d") "s" = false := by decide +kernel
theorem hcd_c : has (Str.ofString "cd") "c" = true := by decide +kernel
theorem hcd_d : has (Str.ofString "cd") "d" = true := by decide +kernel
theorem hcd_s : has (Str.ofString "cd") "s" = false := by decide +kernel
def Ok (S : List Int) : Prop := ∀ c ∈ S, 0 ≤ c ∧ c < 1114112
theorem nn_of {S : List Int} (h : Ok S) : NN S := fun c hc => (h c hc).1
/-- the codes of a turned text -/
theorem codes_trO {x : Str} {S T : List Int} {fl : Str} (hg : Good x) (hT : Ok T) : codes (trO S T fl x) = go (trF S T (has fl "c") (has fl "d")) (has fl "s") (-1) (codes x) :=
  codes_outS (chr_of hg hT)
theorem trN_eq {x : Str} {S T : List Int} {fl : Str} (hg : Good x) (hT : Ok T) : trN S T fl x = cnt (trF S T (has fl "c") (has fl "d")) (codes x) :=
  cntS_eq (chr_of hg hT)
theorem codes_plain {x : Str} {S T : List Int} (hg : Good x) (hT : Ok T) : codes (trO S T (Str.ofString "") x) = out (trF S T false false) (codes x) := by
  rw [codes_trO hg hT, he_c, he_d, he_s, go_false]
theorem trN_plain {x : Str} {S T : List Int} (hg : Good x) (hT : Ok T) : trN S T (Str.ofString "") x = cnt (trF S T false false) (codes x) := by
  rw [trN_eq hg hT, he_c, he_d]
theorem codes_tr {x : Str} {S T : List Int} (hg : Good x) (hl : S.length = T.length) (hT : Ok T) : codes (trO S T (Str.ofString "") x) = (codes x).map (tr S T) := by
  rw [codes_plain hg hT, out_turn hl (nn_of hT)]
theorem trN_tr {x : Str} {S T : List Int} (hg : Good x) (hl : S.length = T.length) (hT : Ok T) : trN S T (Str.ofString "") x = ((codes x).countP fun c => decide (c ∈ S) : Nat) := by
  rw [trN_plain hg hT, cnt_turn hl (nn_of hT)]
/- a list turned round itself -/
def rot (S : List Int) : List Int := S.drop 1 ++ S.take 1
theorem rot_len (S : List Int) : (rot S).length = S.length := by unfold rot; simp; omega
theorem rot_get {S : List Int} {i : Nat} (hi : i < S.length) : (rot S).getD i 0 = S.getD ((i + 1) % S.length) 0 := by
  unfold rot
  rw [List.getD_eq_getElem?_getD, List.getD_eq_getElem?_getD]
  by_cases h : i + 1 < S.length
  · rw [Nat.mod_eq_of_lt h, List.getElem?_append_left (by simp; omega), List.getElem?_drop, Nat.add_comm]
  · have e : i + 1 = S.length := by omega
    rw [e, Nat.mod_self, List.getElem?_append_right (by simp; omega)]
    have e2 : i - (S.drop 1).length = 0 := by simp; omega
    rw [e2, List.getElem?_take_of_lt (by omega)]
def rep (g : Int → Int) : Nat → Int → Int
  | 0, c => c
  | n + 1, c => g (rep g n c)
theorem rep_rot {S : List Int} (hS : S.Nodup) {i : Nat} (hi : i < S.length) : ∀ n, rep (tr S (rot S)) n (S.getD i 0) = S.getD ((i + n) % S.length) 0
  | 0 => by show S.getD i 0 = _; rw [Nat.add_zero, Nat.mod_eq_of_lt hi]
  | n + 1 => by
    show tr S (rot S) (rep (tr S (rot S)) n (S.getD i 0)) = _
    have hlt : (i + n) % S.length < S.length := Nat.mod_lt _ (by omega)
    rw [rep_rot hS hi n]
    unfold tr
    rw [if_pos (getD_in hlt), idx_getD hS hlt, rot_get hlt]
    congr 1
    rw [Nat.mod_add_mod, Nat.add_assoc]
theorem rep_off {S R : List Int} {c : Int} (h : c ∉ S) : ∀ n, rep (tr S R) n c = c
  | 0 => rfl
  | n + 1 => by
    show tr S R (rep (tr S R) n c) = c
    rw [rep_off h n]; unfold tr; rw [if_neg h]
theorem rep_full {S : List Int} (hS : S.Nodup) (c : Int) : rep (tr S (rot S)) S.length c = c := by
  by_cases h : c ∈ S
  · have hi := List.idxOf_lt_length_iff.mpr h
    have e := rep_rot hS hi S.length
    rw [getD_idx h, Nat.add_mod_right, Nat.mod_eq_of_lt hi, getD_idx h] at e
    exact e
  · exact rep_off h _
theorem roll_codes {S R : List Int} (hl : S.length = R.length) (hR : Ok R) {x : Str} (hg : Good x) : ∀ n, Good (rollN S R n x) ∧ codes (rollN S R n x) = (codes x).map (rep (tr S R) n)
  | 0 => ⟨hg, by show codes x = (codes x).map (fun c => c); simp⟩
  | n + 1 => by
    obtain ⟨g, e⟩ := roll_codes hl hR hg n
    refine ⟨good_out g hR, ?_⟩
    show codes (trO S R (Str.ofString "") (rollN S R n x)) = _
    rw [codes_tr g hl hR, e, List.map_map]
    rfl
theorem undone_of {text source : Str} {S T U : List Int} (hg : Good text) (hST : Pair S T) (hU : S.length = U.length) (okS : Ok S) (okT : Ok T) (okU : Ok U) (hoff : Off T (codes text)) (hsrc : source.length = S.length) :
    Undone text source S T U (rot S) := by
  have gT := good_out (cs := S) (fl := Str.ofString "") hg okT
  have e1 := codes_tr (S := S) hg hST.len okT
  have okR : Ok (rot S) := fun c hc => by
    unfold rot at hc
    rcases List.mem_append.mp hc with q | q
    · exact okS c (List.mem_of_mem_drop q)
    · exact okS c (List.mem_of_mem_take q)
  refine ⟨?_, ?_, ?_, ?_, ?_⟩
  · refine codes_inj ?_
    rw [codes_tr gT hST.len.symm okS, e1, map_back hST _ hoff]
  · rw [trN_tr gT hST.len.symm okS, trN_tr hg hST.len okT, e1, count_map hST _ hoff]
  · refine codes_inj ?_
    rw [codes_tr gT (hST.len.symm.trans hU) okU, e1, codes_tr hg hU okU, map_on hST _ hoff]
  · rw [trN_tr gT (hST.len.symm.trans hU) okU, e1, trN_tr hg hU okU, count_map hST _ hoff]
  · refine codes_inj ?_
    rw [hsrc, (roll_codes (rot_len S).symm okR hg S.length).2]
    refine (List.map_congr_left fun c _ => rep_full hST.nodupS c).trans (List.map_id _)
end Mine
/- PCount -/
namespace Mine
open PySem PySem.W PyProof.Rows
open KStt (codes txt)
theorem filter_out {p : Int → Bool} {f : Int → Int} (h : ∀ c, one f c = if p c then [c] else []) : ∀ l, out f l = l.filter p
  | [] => rfl
  | c :: l => by
    have ih := filter_out h l
    unfold out at ih ⊢
    rw [List.flatMap_cons, ih, h c, List.filter_cons]
    by_cases hp : p c = true
    · rw [if_pos hp, if_pos hp]; rfl
    · rw [if_neg hp, if_neg hp]; rfl
theorem map_out {g : Int → Int} {f : Int → Int} : ∀ l : List Int, (∀ c ∈ l, one f c = [g c]) → out f l = l.map g
  | [], _ => rfl
  | c :: l, h => by
    have ih := map_out l fun d hd => h d (List.mem_cons_of_mem _ hd)
    unfold out at ih ⊢
    rw [List.flatMap_cons, ih, h c (List.mem_cons_self ..)]; rfl
theorem filter_out' {p : Int → Bool} {f : Int → Int} : ∀ l : List Int, (∀ c ∈ l, one f c = if p c then [c] else []) → out f l = l.filter p
  | [], _ => rfl
  | c :: l, h => by
    have ih := filter_out' l fun d hd => h d (List.mem_cons_of_mem _ hd)
    unfold out at ih ⊢
    rw [List.flatMap_cons, ih, h c (List.mem_cons_self ..), List.filter_cons]
    by_cases hp : p c = true
    · rw [if_pos hp, if_pos hp]; rfl
    · rw [if_neg hp, if_neg hp]; rfl
theorem cnt_as {p : Int → Bool} {f : Int → Int} : ∀ l : List Int, (∀ c ∈ l, f c ≠ -1 ↔ p c = true) → cnt f l = (l.countP p : Nat) := fun l h => by
  unfold cnt
  congr 1
  refine List.countP_congr fun c hc => ?_
  rw [decide_eq_true_eq]; exact h c hc
/-- every sign lies well above the ranks of a short list -/
def Hi (l : List Int) : Prop := ∀ c ∈ l, 4 < c
theorem trF_cut {S T : List Int} {del : Bool} {c : Int} (hl : S.length ≤ 4) (hc : 4 < c) (h : c ∉ S) : ∃ r : Int, 0 < r ∧ trF S T true del c = turnOut r T del c := by
  obtain ⟨r, e, _, er⟩ := trF_out (ds := T) (del := del) h
  refine ⟨r, ?_, e⟩
  have h1 := List.countP_le_length (p := fun b => decide (b < c)) (l := bset S)
  have h2 := bset_len S
  omega
/-- no targets: what is turned stays itself -/
theorem f_none {S : List Int} (c : Int) : trF S [] false false c = if c ∈ S then c else -1 := by
  rw [trF_plain]; by_cases h : c ∈ S
  · rw [if_pos h, if_pos h]; rfl
  · rw [if_neg h, if_neg h]
theorem f_del {S : List Int} (c : Int) : trF S [] false true c = if c ∈ S then -2 else -1 := by
  rw [trF_plain]; by_cases h : c ∈ S
  · rw [if_pos h, if_pos h]; rfl
  · rw [if_neg h, if_neg h]
theorem f_c {S : List Int} {c : Int} (hl : S.length ≤ 4) (hc : 4 < c) : trF S [] true false c = if c ∈ S then -1 else c := by
  by_cases h : c ∈ S
  · rw [if_pos h, trF_in h]
  · obtain ⟨r, hr, e⟩ := trF_cut (T := []) (del := false) hl hc h
    rw [if_neg h, e]
    unfold turnOut
    rw [if_neg (by omega), if_neg (by simp; omega), if_neg (by simp), if_pos rfl]
theorem f_cd {S T : List Int} {c : Int} (hl : S.length ≤ 4) (hc : 4 < c) (hT : T = []) : trF S T true true c = if c ∈ S then -1 else -2 := by
  subst hT
  by_cases h : c ∈ S
  · rw [if_pos h, trF_in h]
  · obtain ⟨r, hr, e⟩ := trF_cut (T := []) (del := true) hl hc h
    rw [if_neg h, e]
    unfold turnOut
    rw [if_neg (by omega), if_neg (by simp; omega), if_pos rfl]
theorem f_one {S : List Int} {t c : Int} (hl : S.length ≤ 4) (hc : 4 < c) : trF S [t] true false c = if c ∈ S then -1 else t := by
  by_cases h : c ∈ S
  · rw [if_pos h, trF_in h]
  · obtain ⟨r, hr, e⟩ := trF_cut (T := [t]) (del := false) hl hc h
    rw [if_neg h, e]
    unfold turnOut
    rw [if_neg (by omega), if_neg (by simp; omega), if_neg (by simp), if_neg (by simp)]
    rfl
theorem count_not (S l : List Int) : ((l.countP fun c => decide (c ∉ S) : Nat) : Int) = (l.length : Int) - (l.countP fun c => decide (c ∈ S) : Nat) := by
  have := List.length_eq_countP_add_countP (fun c => decide (c ∈ S)) (l := l)
  have e : l.countP (fun c => decide (c ∉ S)) = l.countP (fun c => decide ¬(decide (c ∈ S)) = true) := by
    refine List.countP_congr fun c _ => ?_
    simp
  rw [e]
  omega
theorem counted_of {text : Str} {S T : List Int} (hg : Good text) (hST : Pair S T) (hl4 : S.length ≤ 4) (okS : Ok S) (okT : Ok T) (hoff : Off T (codes text)) (hST2 : Off T S) (hi : Hi (codes text)) (hi35 : (35 : Int) ∉ S) (hiT : Hi T) (h35 : ∀ c ∈ codes text, c ≠ 35) :
    Counted text S T := by
  have okN : Ok [] := fun _ h => (nomatch h)
  have ok35 : Ok [35] := fun c h => by rw [List.mem_singleton.mp h]; decide
  have hlen : ((codes text).length : Int) = text.length := by rw [KStt.codes_length]
  have nS : trN S T (Str.ofString "") text = ((codes text).countP fun c => decide (c ∈ S) : Nat) := trN_tr hg hST.len okT
  -- the plain count, no targets
  have cN : ∀ x : Str, Good x → trN S [] (Str.ofString "") x = ((codes x).countP fun c => decide (c ∈ S) : Nat) := fun x gx => by
    rw [trN_plain gx okN]
    refine cnt_as _ fun c hc => ?_
    rw [f_none, decide_eq_true_eq]
    have := codes_nonneg hc
    by_cases h : c ∈ S
    · rw [if_pos h]; exact ⟨fun _ => h, fun _ => by omega⟩
    · rw [if_neg h]; exact ⟨fun q => absurd rfl q, fun q => absurd q h⟩
  have g1 := good_out (cs := S) (fl := Str.ofString "d") hg okN
  have g2 := good_out (cs := S) (fl := Str.ofString "cd") hg okN
  have g3 := good_out (cs := S) (fl := Str.ofString "c") hg ok35
  have gT := good_out (cs := S) (fl := Str.ofString "") hg okT
  have eD : codes (trO S [] (Str.ofString "d") text) = (codes text).filter fun c => decide (c ∉ S) := by
    rw [codes_trO hg okN, hd_c, hd_d, hd_s, go_false]
    refine filter_out (p := fun c => decide (c ∉ S)) (fun c => ?_) _
    unfold one; rw [f_del]
    by_cases h : c ∈ S <;> simp [h]
  have eCD : ∀ x : Str, Good x → Hi (codes x) → codes (trO S [] (Str.ofString "cd") x) = (codes x).filter fun c => decide (c ∈ S) := fun x gx hx => by
    rw [codes_trO gx okN, hcd_c, hcd_d, hcd_s, go_false]
    refine filter_out' (p := fun c => decide (c ∈ S)) _ fun c hc => ?_
    unfold one; rw [f_cd hl4 (hx c hc) rfl]
    by_cases h : c ∈ S <;> simp [h]
  have eM : codes (trO S [35] (Str.ofString "c") text) = (codes text).map fun c => if c ∈ S then c else 35 := by
    rw [codes_trO hg ok35, hc_c, hc_d, hc_s, go_false]
    refine map_out _ fun c hc => ?_
    unfold one; rw [f_one hl4 (hi c hc)]
    by_cases h : c ∈ S <;> simp [h]
  refine ⟨?_, ?_, ?_, ?_, ?_, ?_, ?_, ?_, ?_, ?_, ?_, ?_⟩
  · rw [cN text hg, nS]
  · refine codes_inj ?_
    rw [codes_trO hg okN, hc_c, hc_d, hc_s, go_false]
    refine (map_out (g := fun c => c) _ fun c hc => ?_).trans (List.map_id' _)
    have := hi c hc
    unfold one; rw [f_c hl4 this]
    by_cases h : c ∈ S
    · rw [if_pos h, if_pos rfl]
    · rw [if_neg h, if_neg (by omega), if_neg (by omega)]
  · rw [trN_eq hg okN, hc_c, hc_d, nS, ← hlen, ← count_not]
    refine cnt_as _ fun c hc => ?_
    have := hi c hc
    rw [f_c hl4 this, decide_eq_true_eq]
    by_cases h : c ∈ S
    · rw [if_pos h]; exact ⟨fun q => absurd rfl q, fun q => absurd h q⟩
    · rw [if_neg h]; exact ⟨fun _ => h, fun _ => by omega⟩
  · rw [← KStt.codes_length, eD, ← List.countP_eq_length_filter, nS, ← hlen, ← count_not]
  · rw [trN_eq hg okN, hd_c, hd_d, nS]
    refine cnt_as _ fun c _ => ?_
    rw [f_del, decide_eq_true_eq]
    by_cases h : c ∈ S <;> simp [h]
  · rw [← KStt.codes_length, eCD text hg hi, ← List.countP_eq_length_filter, nS]
  · rw [trN_eq hg okN, hcd_c, hcd_d, nS, ← hlen, ← count_not]
    refine cnt_as _ fun c hc => ?_
    rw [f_cd hl4 (hi c hc) rfl, decide_eq_true_eq]
    by_cases h : c ∈ S <;> simp [h]
  · rw [cN _ g1, eD, List.countP_filter]
    have : (codes text).countP (fun a => decide (a ∈ S) && decide (a ∉ S)) = 0 := by
      rw [List.countP_eq_zero]; intro a _; by_cases h : a ∈ S <;> simp [h]
    rw [this]; rfl
  · rw [cN _ g2, eCD text hg hi, List.countP_filter, nS]
    congr 2
    funext a; by_cases h : a ∈ S <;> simp [h]
  · refine codes_inj ?_
    have hiM : Hi (codes (trO S T (Str.ofString "") text)) := fun d hd => by
      rw [codes_tr hg hST.len okT] at hd
      obtain ⟨c, hc, rfl⟩ := List.mem_map.mp hd
      unfold tr
      by_cases h : c ∈ S
      · rw [if_pos h]; exact hiT _ (getD_in (by rw [← hST.len]; exact List.idxOf_lt_length_iff.mpr h))
      · rw [if_neg h]; exact hi c hc
    have lT : T.length ≤ 4 := by rw [← hST.len]; exact hl4
    rw [codes_tr g2 hST.len okT, eCD text hg hi, codes_trO gT okN, hcd_c, hcd_d, hcd_s, go_false,
      filter_out' (p := fun c => decide (c ∈ T)) _ (fun c hc => by
        unfold one; rw [f_cd lT (hiM c hc) rfl]
        by_cases h : c ∈ T <;> simp [h]), codes_tr hg hST.len okT, List.filter_map]
    congr 1
    refine List.filter_congr fun c hc => ?_
    simp only [Function.comp]
    exact (decide_eq_decide.mpr (tr_mem hST (hoff c hc))).symm
  · rw [trN_plain g3 okN, eM, nS, ← hlen, ← count_not]
    have e : cnt (trF [35] [] false false) ((codes text).map fun c => if c ∈ S then c else 35) = (((codes text).map fun c => if c ∈ S then c else 35).countP fun c => decide (c = 35) : Nat) := by
      refine cnt_as _ fun c _ => ?_
      rw [f_none, decide_eq_true_eq]
      by_cases h : c = 35 <;> simp [h]
    rw [e, List.countP_map]
    congr 1
    refine List.countP_congr fun c hc => ?_
    have := h35 c hc
    simp only [Function.comp, decide_eq_true_eq]
    by_cases h : c ∈ S <;> simp [h, this]
  · refine codes_inj ?_
    have hiM : Hi (codes (trO S [35] (Str.ofString "c") text)) := fun d hd => by
      rw [eM] at hd
      obtain ⟨c, hc, rfl⟩ := List.mem_map.mp hd
      have := hi c hc
      by_cases h : c ∈ S
      · simp only [if_pos h]; exact this
      · simp only [if_neg h]; decide
    rw [eCD _ g3 hiM, eCD text hg hi, eM]
    generalize codes text = l
    induction l with
    | nil => rfl
    | cons c l ih =>
      rw [List.map_cons, List.filter_cons, List.filter_cons, ih]
      by_cases h : c ∈ S
      · simp [h]
      · simp [h, hi35]
end Mine
/- PPart -/
namespace Mine
open PySem PySem.W PyProof.Rows
open KStt (codes txt)
theorem codes_mk (l : List Nat) : codes ⟨l.toArray⟩ = l.map fun (c : Nat) => (c : Int) := by unfold KStt.codes; simp
theorem codes_take {x : Str} {j : Int} (h0 : 0 ≤ j) : codes (Txt.slice x none (some j)) = (codes x).take j.toNat := by
  have main : ∀ j : Int, 0 ≤ j → j ≤ (x.length : Int) → codes (Txt.slice x none (some j)) = (codes x).take j.toNat := fun j h0 h1 => by
    rw [eq_of_beq (slice_closes_toL h0 h1), codes_mk]
    unfold KStt.codes
    rw [show (0 : Int).toNat = 0 from rfl, List.drop_zero, Int.sub_zero, List.map_take]
  by_cases h : j ≤ (x.length : Int)
  · exact main j h0 h
  · have e : Txt.slice x none (some j) = Txt.slice x none (some (x.length : Int)) := by
      unfold Txt.slice
      rw [sliceIdx_hi_beyond _ (by omega)]
    have hl := KStt.codes_length x
    rw [e, main _ (by omega) (Int.le_refl _), List.take_of_length_le (by omega), List.take_of_length_le (by omega)]
theorem codes_drop {x : Str} {i : Int} (h0 : 0 ≤ i) : codes (Txt.slice x (some i) none) = (codes x).drop i.toNat := by
  have hl := KStt.codes_length x
  by_cases h : i ≤ (x.length : Int)
  · rw [slice_from_eq (b := (x.length : Int)) h0 h rfl, codes_mk]
    unfold KStt.codes
    rw [List.map_take, List.map_drop]
    refine List.take_of_length_le ?_
    have : (x.cps.toList.map fun (c : Nat) => (c : Int)).length = x.length := hl
    rw [List.length_drop, this]; omega
  · rw [slice_beyond (by omega), List.drop_of_length_le (by omega)]
    rfl
theorem good_sub {x y : Str} (hg : Good x) (hs : ∀ c ∈ codes y, c ∈ codes x) (hl : y.length ≤ x.length) : Good y :=
  ⟨Nat.le_trans hl hg.len, fun c hc => hg.ok c (hs c hc)⟩
theorem good_take {x : Str} {j : Int} (hg : Good x) (h0 : 0 ≤ j) : Good (Txt.slice x none (some j)) :=
  good_sub hg (fun c hc => by rw [codes_take h0] at hc; exact List.mem_of_mem_take hc) (PyProof.Txt.length_slice_le _ _ _)
theorem good_drop {x : Str} {j : Int} (hg : Good x) (h0 : 0 ≤ j) : Good (Txt.slice x (some j) none) :=
  good_sub hg (fun c hc => by rw [codes_drop h0] at hc; exact List.mem_of_mem_drop hc) (PyProof.Txt.length_slice_le _ _ _)
/-- what a turn by a list that is not empty gives -/
theorem trF_full {S T : List Int} {isC : Bool} (hT : T ≠ []) (c : Int) : trF S T isC false c = -1 ∨ trF S T isC false c ∈ T := by
  have hp : 0 < T.length := List.length_pos_iff.mpr hT
  cases isC with
  | false =>
    rw [trF_plain]
    split
    · unfold pval
      split
      · exact .inr (getD_in (by assumption))
      · first | (rw [if_neg (show ¬ (false = true) by decide), if_neg hT]) | rw [if_neg (show ¬ (false = true) by decide)] | rw [if_neg hT] | skip
        exact .inr (getD_in (by omega))
    · exact .inl rfl
  | true =>
    by_cases h : c ∈ S
    · exact .inl (trF_in h)
    · obtain ⟨r, e, _⟩ := trF_out (ds := T) (del := false) h
      rw [e]
      unfold turnOut
      split
      · exact .inl rfl
      · split
        · exact .inr (getD_in (by omega))
        · first | (rw [if_neg (show ¬ (false = true) by decide), if_neg hT]) | rw [if_neg (show ¬ (false = true) by decide)] | rw [if_neg hT] | skip
          exact .inr (getD_in (by omega))
theorem out_gv {f : Int → Int} (h2 : ∀ c, f c ≠ -2) (l : List Int) : out f l = l.map (gv f) :=
  map_out l fun c _ => by
    unfold one gv
    by_cases h : f c = -1
    · rw [if_pos h, if_pos h]
    · rw [if_neg h, if_neg h, if_neg (h2 c)]
theorem hs_c : has (Str.ofString "s") "c" = false := by decide +kernel
theorem hs_d : has (Str.ofString "s") "d" = false := by decide +kernel
theorem hs_s : has (Str.ofString "s") "s" = true := by decide +kernel
theorem partS_of {text fl fl' : Str} {S T : List Int} (hg : Good text) (hT : T ≠ []) (okT : Ok T) (hoff : Off T (codes text))
    (h1 : has fl "d" = false) (h2 : has fl "s" = true) (h3 : has fl' "c" = has fl "c") (h4 : has fl' "d" = false) (h5 : has fl' "s" = false) : PartS text S T fl fl' := by
  have okN : Ok [] := fun _ h => (nomatch h)
  have n2 : ∀ c, trF S T (has fl "c") false c ≠ -2 := fun c => by
    rcases trF_full (S := S) (isC := has fl "c") hT c with h | h
    · rw [h]; decide
    · have := (okT _ h).1; omega
  have gT := good_out (cs := S) (fl := fl') hg okT
  refine ⟨?_, ?_, ?_, ?_⟩
  · refine codes_inj ?_
    rw [codes_trO (good_rev hg) okT, codes_rev, codes_rev, codes_trO hg okT, h1, h2, go_eq_sqz n2, go_eq_sqz n2, sqz_reverse]
  · rw [trN_eq (good_rev hg) okT, codes_rev, trN_eq hg okT, cnt_reverse]
  · rw [trN_eq hg okT, trN_eq hg okT, h3, h4, h1]
  · refine codes_inj ?_
    rw [codes_trO gT okN, hs_c, hs_d, hs_s, codes_trO hg okT, h3, h4, h5, go_false, out_gv n2, codes_trO hg okT, h1, h2]
    refine go_twice n2 _ (fun c hc => ⟨fun _ => ?_, fun hn => ?_⟩) _
    · rw [f_none, if_neg (hoff c hc)]
    · rcases trF_full (S := S) (isC := has fl "c") hT c with h | h
      · exact absurd h hn
      · rw [f_none, if_pos h]
structure PartN (text : Str) (S T : List Int) (fl : Str) (place : Int) : Prop where
  r1 : trO S T fl (revS text) = revS (trO S T fl text)
  r2 : trN S T fl (revS text) = trN S T fl text
  gf : Good (Txt.slice text none (some place))
  gb : Good (Txt.slice text (some place) none)
  n1 : trO S T fl (Txt.slice text none (some place)) ++ trO S T fl (Txt.slice text (some place) none) = trO S T fl text
  n2 : trN S T fl (Txt.slice text none (some place)) + trN S T fl (Txt.slice text (some place) none) = trN S T fl text
theorem partN_of {text fl : Str} {S T : List Int} {place : Int} (hg : Good text) (okT : Ok T) (hp : 0 ≤ place) (h2 : has fl "s" = false) : PartN text S T fl place := by
  have gf := good_take hg hp
  have gb := good_drop hg hp
  refine ⟨?_, ?_, gf, gb, ?_, ?_⟩
  · refine codes_inj ?_
    rw [codes_trO (good_rev hg) okT, codes_rev, codes_rev, codes_trO hg okT, h2, go_false, go_false, out_reverse]
  · rw [trN_eq (good_rev hg) okT, codes_rev, trN_eq hg okT, cnt_reverse]
  · refine codes_inj ?_
    rw [codes_append, codes_trO gf okT, codes_trO gb okT, codes_trO hg okT, h2, go_false, go_false, go_false, ← out_append, codes_take hp, codes_drop hp, List.take_append_drop]
  · rw [trN_eq gf okT, trN_eq gb okT, trN_eq hg okT, ← cnt_append, codes_take hp, codes_drop hp, List.take_append_drop]
end Mine
/- LPartN -/
namespace Mine
open PySem PySem.W PyProof.Rows
local macro_rules | `(tactic| tb_rel) => `(tactic| first | assumption | exact fun _ h => h | exact fun _ h => List.mem_append_left _ h | exact fun _ h => List.mem_append_right _ h | (refine led_drop (by assumption) ?_; tb_rel) | (refine led_kp ?_; tb_rel) | (refine led_tl1 ?_; tb_rel))
local macro_rules | `(tactic| units_room) => `(tactic| ktr_units)
local macro_rules | `(tactic| walk_at "subscriptTail Name Constant ref int") => `(tactic| k_extra "my item")
local macro_rules | `(tactic| walk_at "compareOp NotEq ref ref") => `(tactic| k_extra "my ne")
local macro_rules | `(tactic| walk_at "compareOp Eq ref ref") => `(tactic| k_extra "my eq")
local macro_rules | `(tactic| walk_at "call ref") => `(tactic| k_extra "my call")

local macro_rules | `(tactic| walk_at "exec Assign cons ListComp") => `(tactic| (k_here; k_dflt (first | refine wpAny_Assign_Name ?_ | refine Assign_Tuple ?_)))
local macro_rules | `(tactic| walk_at "eval ListComp") => `(tactic| (k_here; refine Hold.out ?_))
theorem partN_con (w : World) (text source target fl : Str) (place : Int) (t0 t t2 t3 t4 : Tok) (S T : List Int) (hS : Codes source S) (hT : Codes target T)
   (hN : Codes (Str.ofString "") []) (hg : Good text) (hf : (Builtin.Str.occurrences fl (Str.ofString "s") 0 fl.length 1).isEmpty = true) (hp0 : 0 ≤ place) (hp9 : place < 9) (hp : PartN text S T fl place) :
   RCon w 253 16 900 [.str text t0, .str source t, .str target t2, .str fl t3, .int place t4] [] (fun v new => v = .bool true ∧ new = []) := by
  refine rcon_of fun rest => ?_
  unfold Con
  simp only [List.nil_append]
  intro mean mg mb dp un gd cn sc a ccd cl outer A₀ base h₀ L m s Q E B F X N T' hcs hd hu hret
  w_top off
  k_with_none
  k_with "my item" => (k_here; first | ((with_reducible show wpAny _ _ (subscriptTail _ _ (Value.ref _) (Value.int 0 _)) _ _ _); k_dflt (refine item_t2a (by k_asm) (by k_memK) ?_)) | ((with_reducible show wpAny _ _ (subscriptTail _ _ (Value.ref _) (Value.int 1 _)) _ _ _); k_dflt (refine item_t2b (by k_asm) (by k_memK) ?_)))
  k_with "my ne" => (k_here; (with_reducible show wpAny _ _ (compareOp CmpOp.NotEq (Value.ref _) (Value.ref _)) _ _ _); k_dflt (refine ne_tups (by k_asm) (by k_memK) (by k_memK) (by first | with_reducible assumption | assumption) (by first | with_reducible assumption | assumption) (by first | with_reducible rfl | with_reducible assumption | with_reducible exact Eq.symm (by assumption) | assumption | exact Eq.symm (by assumption)) (by first | with_reducible rfl | with_reducible assumption | with_reducible exact Eq.symm (by assumption) | omega) (by ktr_units) ?_))
  k_with "my eq" => (k_here; (with_reducible show wpAny _ _ (compareOp CmpOp.Eq (Value.ref _) (Value.ref _)) _ _ _); k_dflt (refine eq_tups (by k_asm) (by k_memK) (by k_memK) (by first | with_reducible assumption | assumption) (by first | with_reducible assumption | assumption) (by first | with_reducible rfl | with_reducible assumption | with_reducible exact Eq.symm (by assumption) | assumption | exact Eq.symm (by assumption)) (by first | with_reducible rfl | with_reducible assumption | with_reducible exact Eq.symm (by assumption) | omega) (by ktr_units) ?_))
  k_with "my call" => (
    k_here
    first
    | (refine (text_con' _ _ _ _ _ _ _ _ _ _ _ _ (by first | with_reducible assumption | assumption) (by first | with_reducible assumption | assumption) (by first | with_reducible assumption | assumption)).use (by k_asm) (by k_asm) (by k_asm) (by k_asm) (by k_asm) (by k_allIn) (by first | exact rfl | assumption) (by ktr_room) (by ktr_units) ?_; intro v9 tl9 h9 tk9 H9 F9 N9; (have hlt9 := H9.2); (replace H9 := H9.1); (try dsimp only at H9); (obtain ⟨l9, ta9, tb9, e9, e8, hg9⟩ := H9); (subst e9); (subst e8); (replace hlt9 := hlt9 _ (List.mem_singleton.mpr rfl)); (try dsimp only at hlt9); (try k_lt hlt9); (try simp only [List.cons_append, List.nil_append] at N9); (try dsimp only))
    | (refine (rev_con _ _ _ (by first | with_reducible assumption | assumption)).use (by k_asm) (by k_asm) (by k_asm) (by k_asm) (by k_asm) (by k_allIn) (by first | exact rfl | assumption) (by ktr_room) (by ktr_units) ?_; intro v9 tl9 h9 tk9 H9 F9 N9; (try dsimp only at H9); (obtain ⟨t9, e9, e8, hg9⟩ := H9); (subst e9); (subst e8); (try simp only [List.cons_append, List.nil_append] at N9); (try dsimp only))
    )
  refine wpAny_call ?_
  k_dflt (refine' code_defC ?k1 ?k2 ?k3 ?k4 ?k5 ?kA ?kF ?kK ?k6 ?k7 ?k8 ?k9 ?kB ?kD ?_ ?c2 ?c3 ?c4; (case kA => exact rfl); (case kF => exact rfl); (case kK => first | exact rfl | assumption); (case k1 => k_asm); (case k2 => k_asm); (case k3 => k_asm); (case k4 => k_asm); (case k5 => k_asm); (case k6 => k_is); (case k7 => k_is); (case k8 => ktr_room); (case k9 => exact BindsTo.of_eq rfl); (case kB => exact rfl); (case kD => decide +kernel); (case c2 => exact rfl); (case c3 => exact rfl); (case c4 => exact rfl); k_whole; intro g' L' h' tk' cells' FG' F' N' Y' B' X' T' l1; (try k_lt l1); k_cells Y'; (try simp only [List.cons_append, List.nil_append] at N'); (try dsimp only); (try k_lift B'); (try k_fold))
  have hlen := hg.len
  have gcat : Good (trO S T fl (Txt.slice text none (some place)) ++ trO S T fl (Txt.slice text (some place) none)) := by rw [hp.n1]; exact good_out hg hT.ok
  obtain ⟨p1, p2, gf, gb, p3, p4⟩ := hp
  have gl1 := (good_out (cs := S) (fl := fl) gf hT.ok).len
  have gl2 := (good_out (cs := S) (fl := fl) gb hT.ok).len
  (repeat' (first | (k_unfold; (try dsimp only)) | (k_end; kc_close) | walk1 | (dsimp only; walk1) | (leave1; walk_say "STEP leave1"; (try dsimp only))))
  refine Hold.mk ?_
  k_dflt (refine ListComp_T (F₀ := by k_asm) (by with_unfolding_all rfl) (by decide) (by rfl) (by decide) (by rfl) ?_)
  (repeat' (first | (k_unfold; (try dsimp only)) | (k_end; kc_close) | walk1 | (dsimp only; walk1) | (leave1; walk_say "STEP leave1"; (try dsimp only))))
  refine ⟨_, _, _, rfl, by rfl, by k_asm, led_drop (by assumption) (led_kp (led_tl1 (led_tl1 (led_tl1 fun _ h => h)))), ⟨_, by k_mem, rfl, _, rfl⟩, by (show 2 ≤ sizeLine; decide), ?_⟩
  rintro s₂ ⟨g, rfl⟩
  k_dflt (refine LCg.CompRest.succ ?_)
  intro v1 I1 oI1 C1 oC1 D1 m1 h1 tk1 E1 hP1 hC1 hx1 F1 N1 off1 ne1
  obtain rfl := Option.some.inj hP1
  (try k_sweep)
  (repeat' (first | (k_unfold; (try dsimp only)) | (k_end; kc_close) | walk1 | (dsimp only; walk1) | (leave1; walk_say "STEP leave1"; (try dsimp only))))
  refine cend (by k_asm) (by k_asm) ⟨by k_ne, by k_ne, by k_ne⟩ off1 ⟨_, by k_mem, rfl, _, rfl⟩ ?_
  k_dflt (refine LCg.CompRest.succ ?_)
  intro v2 I2 oI2 C2 oC2 D2 m2 h2 tk2 E2 hP2 hC2 hx2 F2 N2 off2 ne2
  obtain rfl := Option.some.inj hP2
  (try k_sweep)
  (repeat' (first | (k_unfold; (try dsimp only)) | (k_end; kc_close) | walk1 | (dsimp only; walk1) | (leave1; walk_say "STEP leave1"; (try dsimp only))))
  refine cend (by k_asm) (by k_asm) ⟨by k_ne, by k_ne, by k_ne⟩ off2 ⟨_, by k_mem, rfl, _, rfl⟩ ?_
  refine LCg.CompRest.zero ?_
  intro D3 h3 tk3 F3 N3 o3
  (try k_sweep)
  (repeat' (first | (k_unfold; (try dsimp only)) | (k_end; kc_close) | walk1 | (dsimp only; walk1) | (leave1; walk_say "STEP leave1"; (try dsimp only))))
  exact hret _ _ _ _ ⟨[], ⟨rfl, rfl⟩, rfl⟩ (by k_asm) (by tb_rel)
end Mine
/- LSpelt -/
namespace Mine
open PySem PySem.W PyProof.Rows
local macro_rules | `(tactic| tb_rel) => `(tactic| first | assumption | exact fun _ h => h | exact fun _ h => List.mem_append_left _ h | exact fun _ h => List.mem_append_right _ h | (refine led_drop (by assumption) ?_; tb_rel) | (refine led_kp ?_; tb_rel) | (refine led_tl1 ?_; tb_rel))
local macro_rules | `(tactic| units_room) => `(tactic| ktr_units)
local macro_rules | `(tactic| walk_at "subscriptTail Name Constant ref int") => `(tactic| k_extra "my item")
local macro_rules | `(tactic| walk_at "compareOp NotEq ref ref") => `(tactic| k_extra "my ne")
local macro_rules | `(tactic| walk_at "compareOp Eq ref ref") => `(tactic| k_extra "my eq")
local macro_rules | `(tactic| walk_at "call ref") => `(tactic| k_extra "my call")

structure Spell (text target : Str) (short low high : Int) (S Ts Tl L : List Int) : Prop where
  ml : (Txt.mul (Txt.item target (short - 1)) ((target.length : Int) - short)).length ≤ 4
  cs : Codes (Txt.slice target none (some short)) Ts
  cl : Codes (Txt.slice target none (some short) ++ Txt.mul (Txt.item target (short - 1)) ((target.length : Int) - short)) Tl
  f1 : trO S Ts (Str.ofString "") text = trO S Tl (Str.ofString "") text
  f2 : trN S Ts (Str.ofString "") text = trN S Tl (Str.ofString "") text
  c1 : Codes (Txt.slice (Str.ofString "abcdef") (some low) (some (high + 1))) L
  c2 : Codes (Txt.item (Str.ofString "abcdef") low ++ Str.ofString "-" ++ Txt.item (Str.ofString "abcdef") high) L
  g1 : trO [45, 97, 99] [117, 118, 119] (Str.ofString "") text = trO [97, 45, 99] [118, 117, 119] (Str.ofString "") text
  g2 : trN [45, 97, 99] [117, 118, 119] (Str.ofString "") text = trN [97, 45, 99] [118, 117, 119] (Str.ofString "") text
  g3 : trO [97, 99, 45] [118, 119, 117] (Str.ofString "") text = trO [97, 45, 99] [118, 117, 119] (Str.ofString "") text
  g4 : trN [97, 99, 45] [118, 119, 117] (Str.ofString "") text = trN [97, 45, 99] [118, 117, 119] (Str.ofString "") text
structure Fixed : Prop where
  n : Codes (Str.ofString "") []
  h : Codes (Str.ofString "#") [35]
  z1 : Codes (Str.ofString "uvwxyz") [117, 118, 119, 120, 121, 122]
  z2 : Codes (Str.ofString "u-z") [117, 118, 119, 120, 121, 122]
  b1 : Codes (Str.ofString "a\\-c") [97, 45, 99]
  b2 : Codes (Str.ofString "vuw") [118, 117, 119]
  b3 : Codes (Str.ofString "-ac") [45, 97, 99]
  b4 : Codes (Str.ofString "uvw") [117, 118, 119]
  b5 : Codes (Str.ofString "ac-") [97, 99, 45]
  b6 : Codes (Str.ofString "vwu") [118, 119, 117]
theorem spelt_con (w : World) (text source target : Str) (short low high : Int) (t0 t t2 t3 t4 t5 : Tok) (S T Ts Tl L : List Int) (hS : Codes source S) (hT : Codes target T)
   (hg : Good text) (h1 : 1 ≤ short) (h2 : short ≤ target.length) (h3 : 0 ≤ low) (h4 : low ≤ high) (h5 : high < 6) (hm : target.length ≤ 4)
   (hx : Fixed) (hp : Spell text target short low high S Ts Tl L) :
   RCon w 260 16 900 [.str text t0, .str source t, .str target t2, .int short t3, .int low t4, .int high t5] [] (fun v new => v = .bool true ∧ new = []) := by
  refine rcon_of fun rest => ?_
  unfold Con
  simp only [List.nil_append]
  intro mean mg mb dp un gd cn sc a ccd cl outer A₀ base h₀ L m s Q E B F X N T' hcs hd hu hret
  w_top off
  k_with_none
  k_with "my item" => (k_here; first | ((with_reducible show wpAny _ _ (subscriptTail _ _ (Value.ref _) (Value.int 0 _)) _ _ _); k_dflt (refine item_t2a (by k_asm) (by k_memK) ?_)) | ((with_reducible show wpAny _ _ (subscriptTail _ _ (Value.ref _) (Value.int 1 _)) _ _ _); k_dflt (refine item_t2b (by k_asm) (by k_memK) ?_)))
  k_with "my ne" => (k_here; (with_reducible show wpAny _ _ (compareOp CmpOp.NotEq (Value.ref _) (Value.ref _)) _ _ _); k_dflt (refine ne_tups (by k_asm) (by k_memK) (by k_memK) (by first | with_reducible assumption | assumption) (by first | with_reducible assumption | assumption) (by first | with_reducible rfl | with_reducible assumption | with_reducible exact Eq.symm (by assumption) | assumption | exact Eq.symm (by assumption)) (by first | with_reducible rfl | with_reducible assumption | with_reducible exact Eq.symm (by assumption) | omega) (by ktr_units) ?_))
  k_with "my eq" => (k_here; (with_reducible show wpAny _ _ (compareOp CmpOp.Eq (Value.ref _) (Value.ref _)) _ _ _); k_dflt (refine eq_tups (by k_asm) (by k_memK) (by k_memK) (by first | with_reducible assumption | assumption) (by first | with_reducible assumption | assumption) (by first | with_reducible rfl | with_reducible assumption | with_reducible exact Eq.symm (by assumption) | assumption | exact Eq.symm (by assumption)) (by first | with_reducible rfl | with_reducible assumption | with_reducible exact Eq.symm (by assumption) | omega) (by ktr_units) ?_))
  k_with "my call" => (
    k_here
    first
    | (refine (text_con' _ _ _ _ _ _ _ _ _ _ _ _ (by first | with_reducible assumption | assumption) (by first | with_reducible assumption | assumption) (by first | with_reducible assumption | assumption)).use (by k_asm) (by k_asm) (by k_asm) (by k_asm) (by k_asm) (by k_allIn) (by first | exact rfl | assumption) (by ktr_room) (by ktr_units) ?_; intro v9 tl9 h9 tk9 H9 F9 N9; (have hlt9 := H9.2); (replace H9 := H9.1); (try dsimp only at H9); (obtain ⟨l9, ta9, tb9, e9, e8, hg9⟩ := H9); (subst e9); (subst e8); (replace hlt9 := hlt9 _ (List.mem_singleton.mpr rfl)); (try dsimp only at hlt9); (try k_lt hlt9); (try simp only [List.cons_append, List.nil_append] at N9); (try dsimp only))
    )
  refine wpAny_call ?_
  k_dflt cell_enter
  have hlen := hg.len
  obtain ⟨ml, cs1, cl1, f1, f2, c1, c2, g1, g2, g3, g4⟩ := hp
  obtain ⟨x1, x2, x3, x4, x5, x6, x7, x8, x9, x10⟩ := hx
  (repeat' (first | (k_unfold; (try dsimp only)) | (k_end; kc_close) | walk1 | (dsimp only; walk1) | (leave1; walk_say "STEP leave1"; (try dsimp only))))
  exact hret _ _ _ _ ⟨[], ⟨rfl, rfl⟩, rfl⟩ (by k_asm) (by tb_rel)
end Mine
/- PSpell -/
namespace Mine
open PySem PySem.W PyProof.Rows
open KStt (codes txt)
def plainSg (l : List Int) : List (Int × Bool) := l.map fun c => (c, false)
theorem spread_plain : ∀ l : List Int, (∀ c ∈ l, c ≠ 45) → Spread (plainSg l) l
  | [], _ => .nil
  | c :: l, h => by
    refine .one (fun k b' sg' e => ?_) (spread_plain l fun d hd => h d (List.mem_cons_of_mem _ hd))
    cases l with
    | nil => cases e
    | cons d l =>
      have e1 : ((d, false) : Int × Bool) = (45, false) := by
        have := congrArg List.head? e
        exact Option.some.inj this
      exact h d (List.mem_cons_of_mem _ (List.mem_cons_self ..)) (congrArg Prod.fst e1)
theorem spelt_nobar : ∀ l : List Nat, (∀ c ∈ l, c ≠ 92) → Spelt l (plainSg (l.map fun (c : Nat) => (c : Int)))
  | [], _ => .nil
  | c :: l, h => .plain (h c (List.mem_cons_self ..)) (spelt_nobar l fun d hd => h d (List.mem_cons_of_mem _ hd))
theorem codes_by {x : Str} {cs : List Int} (hx : x.length ≤ 60) (hok : ∀ c ∈ codes x, c ≠ 92 ∧ c < 1114112) (hcs : cs.length ≤ 60) (hc : Ok cs) (h : Spread (plainSg (codes x)) cs) : Codes x cs := by
  refine ⟨by omega, hcs, hc, plainSg (codes x), ?_, h, ?_⟩
  · unfold KStt.codes
    refine spelt_nobar _ fun c hc e => ?_
    subst e
    exact (hok 92 (by unfold KStt.codes; exact List.mem_map.mpr ⟨92, hc, rfl⟩)).1 rfl
  · intro p hp
    unfold plainSg at hp
    obtain ⟨c, hc, rfl⟩ := List.mem_map.mp hp
    exact ⟨codes_nonneg hc, (hok c hc).2⟩
theorem codes_letters {x : Str} {cs : List Int} (e : codes x = cs) (hx : cs.length ≤ 60) (hok : ∀ c ∈ cs, c ≠ 92 ∧ c ≠ 45 ∧ c < 1114112) : Codes x cs := by
  subst e
  refine codes_by (by rw [← KStt.codes_length]; exact hx) (fun c hc => ⟨(hok c hc).1, (hok c hc).2.2⟩) hx (fun c hc => ⟨codes_nonneg hc, (hok c hc).2.2⟩) (spread_plain _ fun c hc => (hok c hc).2.1)
theorem rng_len (a b : Int) : (rng a b).length = (b + 1 - a).toNat := by unfold rng; exact rangeKs_length _ _
theorem rng_mem {a b c : Int} (h : c ∈ rng a b) : a ≤ c ∧ c ≤ b := by
  unfold rng rangeKs at h
  obtain ⟨i, hi, rfl⟩ := List.mem_map.mp h
  have := List.mem_range.mp hi
  omega
theorem codes_range {x : Str} {a b : Int} (e : codes x = [a, 45, b]) (h0 : 97 ≤ a) (hab : a ≤ b) (hb : b < 123) : Codes x (rng a b) := by
  refine codes_by (by rw [← KStt.codes_length, e]; show 3 ≤ 60; decide) (fun c hc => ?_) (by rw [rng_len]; omega) (fun c hc => by have := rng_mem hc; omega) ?_
  · rw [e] at hc
    simp only [List.mem_cons, List.not_mem_nil, or_false] at hc
    rcases hc with rfl | rfl | rfl <;> omega
  · rw [e]
    have := Spread.rng (b := false) (b' := false) (sg := []) (cs := []) hab .nil
    rw [List.append_nil] at this
    exact this
theorem fixed : Fixed where
  n := codes_nil
  h := codes_letters (by decide +kernel) (by decide) (by decide)
  z1 := codes_letters (by decide +kernel) (by decide) (by decide)
  z2 := by
    have := codes_range (x := Str.ofString "u-z") (a := 117) (b := 122) (by decide +kernel) (by decide) (by decide) (by decide)
    rw [show rng 117 122 = [117, 118, 119, 120, 121, 122] by decide +kernel] at this
    exact this
  b1 := by
    refine ⟨by decide +kernel, by decide, by decide, [(97, false), (45, true), (99, false)], ?_, ?_, by decide⟩
    · rw [show (Str.ofString "a\\-c").cps.toList = [97, 92, 45, 99] by decide +kernel]
      exact .plain (by decide) (.bar (.plain (by decide) .nil))
    · exact .one (by rintro l b sg h; cases h) (.one (by rintro l b sg h; cases h) (.one (by rintro l b sg h; cases h) .nil))
  b2 := codes_letters (by decide +kernel) (by decide) (by decide)
  b3 := codes_by (by decide +kernel) (by decide +kernel) (by decide) (by unfold Ok; decide) (by
    rw [show codes (Str.ofString "-ac") = [45, 97, 99] by decide +kernel]
    exact .one (by rintro l b sg h; cases h) (.one (by rintro l b sg h; cases h) (.one (by rintro l b sg h; cases h) .nil)))
  b4 := codes_letters (by decide +kernel) (by decide) (by decide)
  b5 := codes_by (by decide +kernel) (by decide +kernel) (by decide) (by unfold Ok; decide) (by
    rw [show codes (Str.ofString "ac-") = [97, 99, 45] by decide +kernel]
    exact .one (by rintro l b sg h; cases h) (.one (by rintro l b sg h; cases h) (.one (by rintro l b sg h; cases h) .nil)))
  b6 := codes_letters (by decide +kernel) (by decide) (by decide)
theorem abc_item {i : Int} (h0 : 0 ≤ i) (h1 : i < 6) : codes (Txt.item (Str.ofString "abcdef") i) = [97 + i] := by
  have : i = 0 ∨ i = 1 ∨ i = 2 ∨ i = 3 ∨ i = 4 ∨ i = 5 := by omega
  rcases this with rfl | rfl | rfl | rfl | rfl | rfl <;> decide +kernel
theorem codes_mid {x : Str} {i j : Int} (h0 : 0 ≤ i) (h1 : i ≤ j) (h2 : j ≤ x.length) : codes (Txt.slice x (some i) (some j)) = ((codes x).drop i.toNat).take (j - i).toNat := by
  rw [slice_eq h0 h1 h2, codes_mk]
  unfold KStt.codes
  rw [List.map_take, List.map_drop]
theorem abc_slice {a b : Int} (h0 : 0 ≤ a) (h1 : a ≤ b) (h2 : b < 6) : codes (Txt.slice (Str.ofString "abcdef") (some a) (some (b + 1))) = rng (97 + a) (97 + b) := by
  rw [codes_mid h0 (by omega) (by rw [show (Str.ofString "abcdef").length = 6 by decide +kernel]; omega), show codes (Str.ofString "abcdef") = [97, 98, 99, 100, 101, 102] by decide +kernel]
  have ha : a = 0 ∨ a = 1 ∨ a = 2 ∨ a = 3 ∨ a = 4 ∨ a = 5 := by omega
  have hb : b = 0 ∨ b = 1 ∨ b = 2 ∨ b = 3 ∨ b = 4 ∨ b = 5 := by omega
  rcases ha with rfl | rfl | rfl | rfl | rfl | rfl <;> rcases hb with rfl | rfl | rfl | rfl | rfl | rfl <;> first | omega | decide +kernel
theorem three_eq : trF [45, 97, 99] [117, 118, 119] false false = trF [97, 45, 99] [118, 117, 119] false false := by
  funext c
  rw [trF_plain, trF_plain]
  by_cases h1 : c = 45
  · subst h1; decide +kernel
  · by_cases h2 : c = 97
    · subst h2; decide +kernel
    · by_cases h3 : c = 99
      · subst h3; decide +kernel
      · rw [if_neg (by simp [h1, h2, h3]), if_neg (by simp [h1, h2, h3])]
theorem three_eq2 : trF [97, 99, 45] [118, 119, 117] false false = trF [97, 45, 99] [118, 117, 119] false false := by
  funext c
  rw [trF_plain, trF_plain]
  by_cases h1 : c = 45
  · subst h1; decide +kernel
  · by_cases h2 : c = 97
    · subst h2; decide +kernel
    · by_cases h3 : c = 99
      · subst h3; decide +kernel
      · rw [if_neg (by simp [h1, h2, h3]), if_neg (by simp [h1, h2, h3])]
/-- a short list goes on by its last sign -/
def longer (T : List Int) (k : Nat) : List Int := T.take k ++ List.replicate (T.length - k) (T.getD (k - 1) 0)
theorem short_eq {S T : List Int} {k : Nat} (hl : S.length = T.length) (h1 : 1 ≤ k) (h2 : k ≤ T.length) : trF S (T.take k) false false = trF S (longer T k) false false := by
  funext c
  rw [trF_plain, trF_plain]
  by_cases h : c ∈ S
  · rw [if_pos h, if_pos h]
    have hi : S.idxOf c < T.length := by rw [← hl]; exact List.idxOf_lt_length_iff.mpr h
    generalize S.idxOf c = i at hi
    have e1 : (T.take k).length = k := by rw [List.length_take]; omega
    have e2 : (longer T k).length = T.length := by unfold longer; rw [List.length_append, e1, List.length_replicate]; omega
    unfold pval
    rw [e1, e2, if_pos hi]
    by_cases hik : i < k
    · rw [if_pos hik]
      unfold longer
      rw [List.getD_eq_getElem?_getD, List.getD_eq_getElem?_getD, List.getElem?_append_left (by rw [e1]; exact hik)]
    · have hne : ¬ T.take k = [] := fun e => by rw [e] at e1; simp at e1; omega
      rw [if_neg hik, if_neg (show ¬ (false = true) by decide), if_neg hne]
      unfold longer
      rw [List.getD_eq_getElem?_getD, List.getD_eq_getElem?_getD, List.getElem?_append_right (by rw [e1]; omega), List.getElem?_replicate, e1, if_pos (by omega), List.getElem?_take_of_lt (by omega), List.getD_eq_getElem?_getD]
      rfl
  · rw [if_neg h, if_neg h]
theorem trO_congr {S T S' T' : List Int} {x : Str} (h : trF S T false false = trF S' T' false false) : trO S T (Str.ofString "") x = trO S' T' (Str.ofString "") x ∧ trN S T (Str.ofString "") x = trN S' T' (Str.ofString "") x := by
  unfold trO trN
  rw [he_c, he_d, he_s, h]
  exact ⟨rfl, rfl⟩
theorem codes_item {x : Str} {i : Int} (h0 : 0 ≤ i) (h1 : i < x.length) : ∃ n : Nat, Txt.item x i = ⟨#[n]⟩ ∧ (n : Int) = (codes x).getD i.toNat 0 := by
  refine ⟨x.cps.toList.getD i.toNat 0, item_eq h0 h1, ?_⟩
  unfold KStt.codes
  have hl := len_cps x
  rw [List.getD_eq_getElem?_getD, List.getD_eq_getElem?_getD, List.getElem?_map, List.getElem?_eq_getElem (by omega)]
  rfl
theorem spell_of {text target : Str} {short low high : Int} {S T : List Int} (eT : codes target = T) (hST : Pair S T) (hl4 : T.length ≤ 4) (hT : ∀ c ∈ T, 97 ≤ c ∧ c < 123)
    (h1 : 1 ≤ short) (h2 : short ≤ target.length) (h3 : 0 ≤ low) (h4 : low ≤ high) (h5 : high < 6) :
    Spell text target short low high S (T.take short.toNat) (longer T short.toNat) (rng (97 + low) (97 + high)) := by
  have hlen : target.length = T.length := by rw [← eT, KStt.codes_length]
  obtain ⟨n, en, en2⟩ := codes_item (x := target) (i := short - 1) (by omega) (by omega)
  have em : codes (Txt.mul (Txt.item target (short - 1)) ((target.length : Int) - short)) = List.replicate (T.length - short.toNat) (T.getD (short.toNat - 1) 0) := by
    unfold KStt.codes
    rw [en, mul_one_list, List.map_replicate, en2, eT, hlen]
    have e1 : ((T.length : Int) - short).toNat = T.length - short.toNat := by omega
    have e2 : (short - 1).toNat = short.toNat - 1 := by omega
    rw [e1, e2]
  have okTake : ∀ c ∈ T.take short.toNat, c ≠ 92 ∧ c ≠ 45 ∧ c < 1114112 := fun c hc => by have := hT c (List.mem_of_mem_take hc); omega
  have ecat : codes (Txt.slice target none (some short) ++ Txt.mul (Txt.item target (short - 1)) ((target.length : Int) - short)) = longer T short.toNat := by
    rw [codes_append, codes_take (by omega), eT, em]; rfl
  have hll : (longer T short.toNat).length = T.length := by
    unfold longer; rw [List.length_append, List.length_take, List.length_replicate]; omega
  have hs := trO_congr (x := text) (short_eq (S := S) hST.len (show 1 ≤ short.toNat by omega) (show short.toNat ≤ T.length by omega))
  have g := trO_congr (x := text) three_eq
  have g' := trO_congr (x := text) three_eq2
  refine ⟨?_, ?_, ?_, hs.1, hs.2, ?_, ?_, g.1, g.2, g'.1, g'.2⟩
  · rw [← KStt.codes_length, em, List.length_replicate]; omega
  · exact codes_letters (by rw [codes_take (by omega), eT]) (by rw [List.length_take]; omega) okTake
  · refine codes_letters ecat (by rw [hll]; omega) fun c hc => ?_
    unfold longer at hc
    rcases List.mem_append.mp hc with q | q
    · exact okTake c q
    · rw [(List.mem_replicate.mp q).2]
      have := hT _ (getD_in (S := T) (i := short.toNat - 1) (by omega))
      omega
  · exact codes_letters (abc_slice h3 h4 h5) (by rw [rng_len]; omega) fun c hc => by have := rng_mem hc; omega
  · refine codes_range ?_ (by omega) (by omega) (by omega)
    rw [codes_append, codes_append, abc_item h3 (by omega), abc_item (by omega) h5, show codes (Str.ofString "-") = [45] by decide +kernel]
    rfl
end Mine
/- LRound -/
namespace Mine
open PySem PySem.W PyProof.Rows
local macro_rules | `(tactic| walk_at "no such key") => `(tactic| fail "no such key")
local macro_rules | `(tactic| tb_rel) => `(tactic| first | assumption | exact fun _ h => h | exact fun _ h => List.mem_append_left _ h | exact fun _ h => List.mem_append_right _ h | (refine led_drop (by assumption) ?_; tb_rel) | (refine led_kp ?_; tb_rel) | (refine led_tl1 ?_; tb_rel))

local macro_rules | `(tactic| units_room) => `(tactic| ktr_units)
local macro_rules | `(tactic| walk_at "call ref") => `(tactic| (k_here; (with_reducible show wpAny _ _ (call (Value.ref 229) _) _ _ _); refine Hold.out ?_))
theorem perm32 {a b c d e : Addr × Obj} {l : Led} : ∀ p ∈ d :: e :: a :: b :: c :: l, p ∈ a :: b :: c :: d :: e :: l := by
  intro p hp
  simp only [List.mem_cons] at hp ⊢
  rcases hp with h | h | h | h | h | h <;> simp [h]
theorem off3 {lc ls n : Addr} {o1 o2 o3 : Obj} {rest : Led} (h1 : @LT.lt Nat _ lc n) (h2 : @LT.lt Nat _ ls n) (ho : OwnOff rest [lc, ls]) : OwnOff ((n + 1 + 1 + 1, o1) :: (n + 1 + 1, o2) :: (n + 1, o3) :: rest) [lc, ls] := by
  have key : ∀ b ∈ [lc, ls], @LT.lt Nat _ b n := by
    intro b hb
    rcases List.mem_cons.mp hb with rfl | hb
    · exact h1
    · rw [List.mem_singleton.mp hb]; exact h2
  intro p hp b hb
  have := key b hb
  rcases List.mem_cons.mp hp with rfl | hp
  · exact Nat.ne_of_gt (Nat.lt_succ_of_lt (Nat.lt_succ_of_lt (Nat.lt_succ_of_lt this)))
  · rcases List.mem_cons.mp hp with rfl | hp
    · exact Nat.ne_of_gt (Nat.lt_succ_of_lt (Nat.lt_succ_of_lt this))
    · rcases List.mem_cons.mp hp with rfl | hp
      · exact Nat.ne_of_gt (Nat.lt_succ_of_lt this)
      · exact ho p hp b hb
theorem perm12 {x y d : Addr × Obj} {l : Led} : ∀ p ∈ x :: y :: d :: l, p ∈ d :: x :: y :: l := by
  intro p hp
  simp only [List.mem_cons] at hp ⊢
  rcases hp with h | h | h | h <;> simp [h]
theorem off1 {lc ls n : Addr} {o1 : Obj} {rest : Led} (h1 : @LT.lt Nat _ lc n) (h2 : @LT.lt Nat _ ls n) (ho : OwnOff rest [lc, ls]) : OwnOff ((n, o1) :: rest) [lc, ls] := by
  intro p hp b hb
  rcases List.mem_cons.mp hp with rfl | hp
  · rcases List.mem_cons.mp hb with rfl | hb
    · exact Nat.ne_of_gt h1
    · rw [List.mem_singleton.mp hb]; exact Nat.ne_of_gt h2
  · exact ho p hp b hb
theorem offAbove {n : Addr} {rest : Led} (h : AllLt n rest) : OwnOff rest [n + 1 + 1 + 1, n + 1 + 1, n + 1] := by
  intro p hp b hb
  have h1 : @LT.lt Nat _ p.1 n := allLt_all h p hp
  rcases List.mem_cons.mp hb with rfl | hb
  · exact Nat.ne_of_lt (Nat.lt_succ_of_lt (Nat.lt_succ_of_lt (Nat.lt_succ_of_lt h1)))
  · rcases List.mem_cons.mp hb with rfl | hb
    · exact Nat.ne_of_lt (Nat.lt_succ_of_lt (Nat.lt_succ_of_lt h1))
    · rw [List.mem_singleton.mp hb]
      exact Nat.ne_of_lt (Nat.lt_succ_of_lt h1)
local macro_rules | `(tactic| walk_at "eval ListComp") => `(tactic| (k_here; refine Hold.out ?_))
local macro_rules | `(tactic| walk_at "CompSrc") => `(tactic| (k_here; refine Hold.out ?_))
/-- the texts of a round -/
def rtexts (letters : Str) (a g : Int) (n : Nat) : List Str := (List.range n).map fun (i : Nat) => Txt.item letters ((a + g * (i : Int)).fmod 6)
theorem rtexts_snoc {letters : Str} {a g : Int} {n : Nat} {ys : List Value} {t : Tok} {k9 : Int} (h : StrsAre ys (rtexts letters a g n)) (e : k9 = (n : Int)) : StrsAre (ys ++ [.str (Txt.item letters ((a + g * k9).fmod 6)) t]) (rtexts letters a g (n + 1)) := by
  unfold rtexts at h ⊢
  rw [List.range_succ, List.map_append, e]
  exact h.append' (.cons _ _ .nil)
local macro_rules | `(tactic| walk_at "subscriptTail") => `(tactic| (k_here; (with_reducible show wpAny _ _ (subscriptTail _ _ (Value.str _ _) (Value.int (Int.fmod _ _) _)) _ _ _); k_dflt (refine item_str_fmod (by decide) (by omega) (by omega) ?_); intro _))
noncomputable def roundS (letters : Str) (a b many : Int) : Str := Txt.join (Str.ofString "") (rtexts letters a ([1, 5].getD b.toNat 0) many.toNat)
theorem roundS_eq {letters : Str} {a b many : Int} {n : Nat} (h : n = many.toNat) : Txt.join (Str.ofString "") (rtexts letters a ([1, 5].getD b.toNat 0) n) = roundS letters a b many := by
  unfold roundS; rw [h]
theorem rt_fits {letters : Str} {a g : Int} {n : Nat} (h : n ≤ 100) : ((rtexts letters a g n).map (·.length)).sum + (rtexts letters a g n).length * 64 ≤ 16777216 := by
  have h1 : ∀ x ∈ rtexts letters a g n, x.length = 1 := by
    intro x hx
    unfold rtexts at hx
    obtain ⟨i, _, rfl⟩ := List.mem_map.mp hx
    rfl
  rw [sum_ones _ h1]
  unfold rtexts
  rw [List.length_map, List.length_range]
  omega
theorem round_con (w : World) (lc ls : Addr) (us : List Value) (ns : List Int) (k many : Int) (tk tm tl : Tok) (c1 c2 : Nat) (letters : Str) (rest : Led)
   (hi : IntsAre us ns) (hn : ns.length ≤ 40) (hk : 0 ≤ k) (hk2 : k < 990) (hm : 0 < many) (hm2 : many ≤ 4) (ho : OwnOff rest [lc, ls]) (hne : @Ne Nat lc ls) (hll : letters.length = 6) :
   Con w 234 4 100 [.ref lc, .str letters tl, .int many tm] ((lc, listOf #[.ref ls, .int k tk] c1) :: (ls, listOf us.toArray c2) :: rest)
     (fun v tl => ∃ a b t t', 0 ≤ a ∧ a < 6 ∧ 0 ≤ b ∧ b < 2 ∧ v = .str (roundS letters a b many) t ∧ tl = (lc, listOf #[.ref ls, .int (k+1+1) t'] c1) :: (ls, listOf us.toArray c2) :: rest) := by
  unfold Con
  intro mean mg mb dp un gd cn sc a ccd cl outer A₀ base h₀ L m s Q E B F X N T' hcs hd hu hret
  w_top off
  k_with_none
  refine wpAny_call ?_
  k_dflt (refine' code_defC ?k1 ?k2 ?k3 ?k4 ?k5 ?kA ?kF ?kK ?k6 ?k7 ?k8 ?k9 ?kB ?kD ?_ ?c2 ?c3 ?c4; (case kA => exact rfl); (case kF => exact rfl); (case kK => first | exact rfl | assumption); (case k1 => k_asm); (case k2 => k_asm); (case k3 => k_asm); (case k4 => k_asm); (case k5 => k_asm); (case k6 => k_is); (case k7 => k_is); (case k8 => ktr_room); (case k9 => exact BindsTo.of_eq rfl); (case kB => exact rfl); (case kD => decide +kernel); (case c2 => exact rfl); (case c3 => exact rfl); (case c4 => exact rfl); k_whole; intro g' L' h' tk' cells' FG' F' N' Y' B' X' T' l1; (try k_lt l1); k_cells Y'; (try simp only [List.cons_append, List.nil_append] at N'); (try dsimp only); (try k_lift B'); (try k_fold))
  have hoffc := offAbove l1.2.2
  (repeat' (first | (k_unfold; (try dsimp only)) | (k_end; kc_close) | walk1 | (dsimp only; walk1) | (leave1; walk_say "STEP leave1"; (try dsimp only))))
  refine Hold.mk ?_
  refine' (bead_con w lc ls us ns k 6 tk tk' c1 c2 ((L' + 1 + 1 + 1, _) :: (L' + 1 + 1, _) :: (L' + 1, _) :: rest) hi hn (by omega) (by omega) (by decide) (by decide) ?ho1 hne).use ?B1 ?F1 ?X1 ?N1 ?T1 ?k1 ?d1 ?u1 ?_
  case B1 => k_asm
  case F1 => k_asm
  case X1 => k_asm
  case N1 => exact led_drop (by assumption) perm32
  case ho1 => exact off3 (ltN (by omega)) (ltN (by omega)) ho
  case T1 => k_asm
  case k1 => exact rfl
  case d1 => ktr_room
  case u1 => ktr_units
  intro v1 tl1 h1 tk1 H1 F1 N1
  obtain ⟨b1, t1, s1, ev1, hb1, hc1, el1⟩ := H1
  subst ev1
  subst el1
  (try dsimp only)
  (try k_sweep)
  (repeat' (first | (k_unfold; (try dsimp only)) | (k_end; kc_close) | walk1 | (dsimp only; walk1) | (leave1; walk_say "STEP leave1"; (try dsimp only))))
  refine Hold.mk ?_
  refine' (bead_con w lc ls us ns (k+1) 2 s1 _ c1 c2 ((_, _) :: (L' + 1 + 1 + 1, _) :: (L' + 1 + 1, _) :: (L' + 1, _) :: rest) hi hn (by omega) (by omega) (by decide) (by decide) ?ho2 hne).use ?B2 ?F2 ?X2 ?N2 ?T2 ?k2 ?d2 ?u2 ?_
  case B2 => k_asm
  case F2 => k_asm
  case X2 => k_asm
  case N2 => exact led_drop (by assumption) perm12
  case ho2 => exact off1 (ltN (by omega)) (ltN (by omega)) (off3 (ltN (by omega)) (ltN (by omega)) ho)
  case T2 => k_asm
  case k2 => exact rfl
  case d2 => ktr_room
  case u2 => ktr_units
  intro v2 tl2 h2 tk2 H2 F2 N2
  obtain ⟨b2, t2, s2, ev2, hb2, hc2, el2⟩ := H2
  subst ev2
  subst el2
  (try dsimp only)
  (try k_sweep)
  (repeat' (first | (k_unfold; (try dsimp only)) | (k_end; kc_close) | walk1 | (dsimp only; walk1) | (leave1; walk_say "STEP leave1"; (try dsimp only))))
  refine Hold.mk ?_
  k_dflt (refine LCg.ListComp_U (F₀ := by k_asm) (by with_unfolding_all rfl) (by decide) (by rfl) (by decide) (by rfl) ?_)
  (repeat' (first | (k_unfold; (try dsimp only)) | (k_end; kc_close) | walk1 | (dsimp only; walk1) | (leave1; walk_say "STEP leave1"; (try dsimp only))))
  refine Hold.mk ?_
  k_dflt (refine LCg.CompSrc.range (by rfl) (by k_asm) (by k_asm) (by assumption) (by first | decide | exact small_one (by l_bnd) (by l_bnd) (by l_bnd) (by l_bnd)) (by first | exact rangeSize_nat _ _ | rfl) (by rw [PySem.sizeLine_eq]; omega) ?_)
  intro g9
  refine rest_ind (Inv := fun i ys nw => nw = _ ∧ StrsAre ys (rtexts letters b1 ([1, 5].getD b2.toNat 0) i)) ⟨rfl, .nil⟩ ?_ ?_
  · rintro i ys nw hlt ⟨enw, hys⟩ v I oI C oC D m₂ h9 tk9 E9 ⟨tv, ev⟩ hC hx F9 N9 off9 ne9
    subst enw
    subst ev
    (try k_sweep)
    (repeat' (first | (k_unfold; (try dsimp only)) | (k_end; kc_close) | walk1 | (dsimp only; walk1) | (leave1; walk_say "STEP leave1"; (try dsimp only))))
    refine cend0 (by k_asm) (by k_asm) off9 trivial ⟨rfl, ?_⟩
    exact rtexts_snoc hys (by omega)
  · rintro ys nw ⟨enw, hys⟩
    subst enw
    intro D h9 tk9 F9 N9 o9
    (try k_sweep)
    (repeat' (first | (k_unfold; (try dsimp only)) | (k_end; kc_close) | walk1 | (dsimp only; walk1) | (leave1; walk_say "STEP leave1"; (try dsimp only))))
    k_dflt (refine join_listC (News.isList (by k_asm) (.head _)) hys (by decide) (rt_fits (by omega)) ?_)
    intro tj kj
    (repeat' (first | (k_unfold; (try dsimp only)) | (k_end; kc_close) | walk1 | (dsimp only; walk1) | (leave1; walk_say "STEP leave1"; (try dsimp only))))
    exact hret _ _ _ _ ⟨b1, b2, _, _, hb1, hc1, hb2, hc2, by rw [← roundS_eq (show (many - 0).toNat = many.toNat by omega)], rfl⟩ (by k_asm) (by tb_rel)
end Mine
/- PRound -/
namespace Mine
open PySem PySem.W PyProof.Rows
open KStt (codes txt)
/-- the codes of a round of six letters from a on -/
def rcodes (base : Int) (a b many : Int) : List Int := (List.range many.toNat).map fun (i : Nat) => base + (a + [1, 5].getD b.toNat 0 * (i : Int)).fmod 6
theorem codes_txtjoin (ws : List Str) : codes (Txt.join (Str.ofString "") ws) = flat ws := by
  show codes (Builtin.Str.glued (Str.ofString "") ws) = flat ws
  rw [StrLaws.glued_eq_join, codes_join]
theorem round_codes {letters : Str} {base a b many : Int} (hl : codes letters = [base, base + 1, base + 2, base + 3, base + 4, base + 5]) : codes (roundS letters a b many) = rcodes base a b many := by
  have hlen : letters.length = 6 := by rw [← KStt.codes_length, hl]; rfl
  unfold roundS rcodes
  rw [codes_txtjoin]
  unfold rtexts flat
  rw [List.flatMap_map]
  generalize List.range many.toNat = l
  induction l with
  | nil => rfl
  | cons i l ih =>
    rw [List.flatMap_cons, List.map_cons, ih]
    have h0 := Int.fmod_nonneg_of_pos (a + [1, 5].getD b.toNat 0 * (i : Int)) (show (0 : Int) < 6 by decide)
    have h1 := Int.fmod_lt_of_pos (a + [1, 5].getD b.toNat 0 * (i : Int)) (show (0 : Int) < 6 by decide)
    generalize (a + [1, 5].getD b.toNat 0 * (i : Int)).fmod 6 = k at h0 h1
    obtain ⟨n, e1, e2⟩ := codes_item (x := letters) (i := k) h0 (by omega)
    rw [e1, codes_one, e2, hl]
    have hk : k = 0 ∨ k = 1 ∨ k = 2 ∨ k = 3 ∨ k = 4 ∨ k = 5 := by omega
    rcases hk with rfl | rfl | rfl | rfl | rfl | rfl <;> simp
theorem rcodes_props {base a b many : Int} (ha : 0 ≤ a) (ha2 : a < 6) (hb : 0 ≤ b) (hb2 : b < 2) (hm : 1 ≤ many) (hm2 : many ≤ 4) :
    (rcodes base a b many).Nodup ∧ (rcodes base a b many).length = many.toNat ∧ ∀ c ∈ rcodes base a b many, base ≤ c ∧ c ≤ base + 5 := by
  refine ⟨?_, by unfold rcodes; simp, fun c hc => ?_⟩
  · have h0 : (rcodes 0 a b many).Nodup := by
      have h1 : a = 0 ∨ a = 1 ∨ a = 2 ∨ a = 3 ∨ a = 4 ∨ a = 5 := by omega
      have h2 : b = 0 ∨ b = 1 := by omega
      have h3 : many = 1 ∨ many = 2 ∨ many = 3 ∨ many = 4 := by omega
      rcases h1 with rfl | rfl | rfl | rfl | rfl | rfl <;> rcases h2 with rfl | rfl <;> rcases h3 with rfl | rfl | rfl | rfl <;> decide +kernel
    have e : rcodes base a b many = (rcodes 0 a b many).map (base + ·) := by
      unfold rcodes; rw [List.map_map]; refine List.map_congr_left fun i _ => ?_
      simp only [Function.comp, Int.zero_add]
    rw [e]
    exact List.Pairwise.map _ (fun x y h => by omega) h0
  · unfold rcodes at hc
    obtain ⟨i, _, rfl⟩ := List.mem_map.mp hc
    have h0 := Int.fmod_nonneg_of_pos (a + [1, 5].getD b.toNat 0 * (i : Int)) (show (0 : Int) < 6 by decide)
    have h1 := Int.fmod_lt_of_pos (a + [1, 5].getD b.toNat 0 * (i : Int)) (show (0 : Int) < 6 by decide)
    omega
end Mine
/- PAll -/
namespace Mine
open PySem PySem.W PyProof.Rows
open KStt (codes txt)
theorem sum_one' : ∀ {xs : List Str}, (∀ x ∈ xs, x.length = 1) → (flat xs).length = xs.length
  | [], _ => rfl
  | x :: xs, h => by
    have ih := sum_one' (xs := xs) fun y hy => h y (List.mem_cons_of_mem _ hy)
    have h1 : (codes x).length = 1 := by rw [KStt.codes_length]; exact h x (List.mem_cons_self ..)
    unfold flat at ih ⊢
    rw [List.flatMap_cons, List.length_append, ih, h1, List.length_cons]; omega
def Picks (signs : Str) (xs : List Str) : Prop := ∀ x ∈ xs, ∃ b : Int, 0 ≤ b ∧ b < 9 ∧ x = Txt.item signs b
/-- the signs of a law's text -/
structure Texty (text : Str) : Prop where
  len : text.length ≤ 8
  cs : ∀ c ∈ codes text, (97 ≤ c ∧ c ≤ 102) ∨ c = 45 ∨ c = 32 ∨ c = 960
theorem sign_item {b : Int} (h0 : 0 ≤ b) (h1 : b < 9) : ∀ c ∈ codes (Txt.item (Str.ofString "abcdef- π") b), (97 ≤ c ∧ c ≤ 102) ∨ c = 45 ∨ c = 32 ∨ c = 960 := by
  have : b = 0 ∨ b = 1 ∨ b = 2 ∨ b = 3 ∨ b = 4 ∨ b = 5 ∨ b = 6 ∨ b = 7 ∨ b = 8 := by omega
  rcases this with rfl | rfl | rfl | rfl | rfl | rfl | rfl | rfl | rfl <;> decide +kernel
theorem texty_of {xs : List Str} (hp : Picks (Str.ofString "abcdef- π") xs) (hl : xs.length ≤ 8) : Texty (Txt.join (Str.ofString "") xs) := by
  constructor
  · rw [← KStt.codes_length, codes_txtjoin, sum_one' (fun x hx => by obtain ⟨b, _, _, rfl⟩ := hp x hx; rfl)]
    exact hl
  · intro c hc
    rw [codes_txtjoin] at hc
    unfold flat at hc
    obtain ⟨x, hx, hc⟩ := List.mem_flatMap.mp hc
    obtain ⟨b, h0, h9, rfl⟩ := hp x hx
    exact sign_item h0 h9 c hc
theorem Texty.good {x : Str} (h : Texty x) : Good x := ⟨Nat.le_trans h.len (by decide), fun c hc => by have := h.cs c hc; omega⟩
/-- all that the law's calls ask -/
structure Facts (text source target third : Str) (S T U : List Int) : Prop where
  hS : Codes source S
  hT : Codes target T
  hU : Codes third U
  hR : Codes (Txt.slice source (some 1) none ++ Txt.slice source none (some 1)) (rot S)
  hg : Good text
  und : Undone text source S T U (rot S)
  cnt : Counted text S T
  eT : codes target = T
  pair : Pair S T
  len : T.length ≤ 4
  low : ∀ c ∈ T, 97 ≤ c ∧ c < 123
  off : Off T (codes text)
  tlen : target.length = T.length
theorem facts_of {text source target third : Str} {many aP bP aQ bQ aR bR : Int} (ht : Texty text) (hm : 1 ≤ many) (hm2 : many ≤ 4)
    (hsrc : roundS (Str.ofString "abcdef") aP bP many = source) (htgt : roundS (Str.ofString "uvwxyz") aQ bQ many = target) (hthd : roundS (Str.ofString "ABCDEF") aR bR many = third)
    (h1 : 0 ≤ aP) (h2 : aP < 6) (h3 : 0 ≤ bP) (h4 : bP < 2) (h5 : 0 ≤ aQ) (h6 : aQ < 6) (h7 : 0 ≤ bQ) (h8 : bQ < 2) (h9 : 0 ≤ aR) (h10 : aR < 6) (h11 : 0 ≤ bR) (h12 : bR < 2) :
    Facts text source target third (rcodes 97 aP bP many) (rcodes 117 aQ bQ many) (rcodes 65 aR bR many) ∧ (target.length : Int) = many := by
  obtain ⟨nS, lS, bS⟩ := rcodes_props (base := 97) h1 h2 h3 h4 hm hm2
  obtain ⟨nT, lT, bT⟩ := rcodes_props (base := 117) h5 h6 h7 h8 hm hm2
  obtain ⟨nU, lU, bU⟩ := rcodes_props (base := 65) h9 h10 h11 h12 hm hm2
  have cS : codes source = rcodes 97 aP bP many := by rw [← hsrc]; exact round_codes (by decide +kernel)
  have cT : codes target = rcodes 117 aQ bQ many := by rw [← htgt]; exact round_codes (by decide +kernel)
  have cU : codes third = rcodes 65 aR bR many := by rw [← hthd]; exact round_codes (by decide +kernel)
  generalize rcodes 97 aP bP many = S at *
  generalize rcodes 117 aQ bQ many = T at *
  generalize rcodes 65 aR bR many = U at *
  have hSl : S.length ≤ 4 := by omega
  have okS : Ok S := fun c hc => by have := bS c hc; omega
  have okT : Ok T := fun c hc => by have := bT c hc; omega
  have okU : Ok U := fun c hc => by have := bU c hc; omega
  have off : Off T (codes text) := fun c hc h => by have := ht.cs c hc; have := bT c h; omega
  have pair : Pair S T := ⟨nS, nT, by omega⟩
  have hS : Codes source S := codes_letters cS (by omega) fun c hc => by have := bS c hc; omega
  have tl : target.length = T.length := by rw [← KStt.codes_length, cT]
  refine ⟨⟨hS, codes_letters cT (by omega) fun c hc => by have := bT c hc; omega, codes_letters cU (by omega) fun c hc => by have := bU c hc; omega, ?_, ht.good, ?_, ?_, cT, pair, by omega, fun c hc => by have := bT c hc; omega, off, tl⟩, by omega⟩
  · refine codes_letters ?_ (by rw [rot_len]; omega) fun c hc => ?_
    · rw [codes_append, codes_drop (by decide), codes_take (by decide), cS]; rfl
    · unfold rot at hc
      rcases List.mem_append.mp hc with q | q
      · have := bS c (List.mem_of_mem_drop q); omega
      · have := bS c (List.mem_of_mem_take q); omega
  · exact undone_of ht.good pair (by omega) okS okT okU off (by rw [← KStt.codes_length, cS])
  · exact counted_of ht.good pair hSl okS okT off (fun c hc h => by have := bS c hc; have := bT c h; omega) (fun c hc => by have := ht.cs c hc; omega) (fun h => by have := bS 35 h; omega)
      (fun c hc => by have := bT c hc; omega) (fun c hc => by have := ht.cs c hc; omega)
def FlagOk (fl : Str) : Prop := fl = Str.ofString "" ∨ fl = Str.ofString "d" ∨ fl = Str.ofString "s" ∨ fl = Str.ofString "c" ∨ fl = Str.ofString "cs" ∨ fl = Str.ofString "cd"
theorem parted_con (w : World) (text source target fl : Str) (place : Int) (t0 t t2 t3 t4 : Tok) (S T : List Int) (hS : Codes source S) (hT : Codes target T) (hg : Good text)
   (hf : FlagOk fl) (hp0 : 0 ≤ place) (hp9 : place < 9) (hne : T ≠ []) (hoff : Off T (codes text)) :
   RCon w 253 16 900 [.str text t0, .str source t, .str target t2, .str fl t3, .int place t4] [] (fun v new => v = .bool true ∧ new = []) := by
  have okT : Ok T := hT.ok
  rcases hf with rfl | rfl | rfl | rfl | rfl | rfl
  · exact partN_con w text source target _ place t0 t t2 t3 t4 S T hS hT codes_nil hg (by decide +kernel) hp0 hp9 (partN_of hg okT hp0 (by decide +kernel))
  · exact partN_con w text source target _ place t0 t t2 t3 t4 S T hS hT codes_nil hg (by decide +kernel) hp0 hp9 (partN_of hg okT hp0 (by decide +kernel))
  · exact partS_con w text source target _ (Str.ofString "") place t0 t t2 t3 t4 S T hS hT codes_nil hg (by decide +kernel) (by decide +kernel) (by decide +kernel)
      (partS_of hg hne okT hoff (by decide +kernel) (by decide +kernel) (by decide +kernel) (by decide +kernel) (by decide +kernel))
  · exact partN_con w text source target _ place t0 t t2 t3 t4 S T hS hT codes_nil hg (by decide +kernel) hp0 hp9 (partN_of hg okT hp0 (by decide +kernel))
  · exact partS_con w text source target _ (Str.ofString "c") place t0 t t2 t3 t4 S T hS hT codes_nil hg (by decide +kernel) (by decide +kernel) (by decide +kernel)
      (partS_of hg hne okT hoff (by decide +kernel) (by decide +kernel) (by decide +kernel) (by decide +kernel) (by decide +kernel))
  · exact partN_con w text source target _ place t0 t t2 t3 t4 S T hS hT codes_nil hg (by decide +kernel) hp0 hp9 (partN_of hg okT hp0 (by decide +kernel))
/-- the short list -/
theorem Facts.short {text source target third : Str} {S T U : List Int} (F : Facts text source target third S T U) {short : Int} (h1 : 1 ≤ short) (h2 : short ≤ (target.length : Int)) :
    Codes (Txt.slice target none (some short)) (T.take short.toNat) ∧ T.take short.toNat ≠ [] ∧ Off (T.take short.toNat) (codes text) := by
  have htl := F.tlen
  have hl := F.len
  have e1 : (T.take short.toNat).length = short.toNat := by rw [List.length_take]; omega
  refine ⟨codes_letters (by rw [codes_take (by omega), F.eT]) (by omega) fun c hc => by have := F.low c (List.mem_of_mem_take hc); omega, fun e => ?_, fun c hc h => F.off c hc (List.mem_of_mem_take h)⟩
  rw [e] at e1
  simp at e1
  omega
theorem Facts.spell {text source target third : Str} {S T U : List Int} (F : Facts text source target third S T U) {short low high : Int} (h1 : 1 ≤ short) (h2 : short ≤ (target.length : Int)) (h3 : 0 ≤ low) (h4 : low ≤ high) (h5 : high < 6) :
    Spell text target short low high S (T.take short.toNat) (longer T short.toNat) (rng (97 + low) (97 + high)) :=
  spell_of F.eT F.pair F.len F.low h1 h2 h3 h4 h5
end Mine
/- LLaw -/
namespace Mine
open PySem PySem.W PyProof.Rows
local macro_rules | `(tactic| tb_rel) => `(tactic| first | assumption | exact fun _ h => h | exact fun _ h => List.mem_append_left _ h | exact fun _ h => List.mem_append_right _ h | (refine led_drop (by assumption) ?_; tb_rel) | (refine led_kp ?_; tb_rel) | (refine led_tl1 ?_; tb_rel))
local macro_rules | `(tactic| units_room) => `(tactic| ktr_units)
local macro_rules | `(tactic| walk_at "call ref") => `(tactic| (k_here; refine Hold.out ?_))
local macro_rules | `(tactic| walk_at "eval ListComp") => `(tactic| (k_here; refine Hold.out ?_))
local macro_rules | `(tactic| walk_at "CompSrc") => `(tactic| (k_here; refine Hold.out ?_))
local macro_rules | `(tactic| walk_at "exec Assign cons ListComp") => `(tactic| (k_here; k_dflt (first | refine wpAny_Assign_Name ?_ | refine Assign_Tuple ?_)))
local macro_rules | `(tactic| walk_at "subscriptTail Name Call ref int") => `(tactic| (k_here; goal_lacks FlagOk; refine Hold.out ?_))
local macro_rules | `(tactic| walk_at "CompEnd") => `(tactic| (k_here; refine Hold.out ?_))
theorem own2 {lc ls : Addr} {p : Addr × Obj} {rest : Led} (h : (@Ne Nat p.1 lc) ∧ (@Ne Nat p.1 ls)) (ho : OwnOff rest [lc, ls]) : OwnOff (p :: rest) [lc, ls] := by
  intro q hq b hb
  rcases List.mem_cons.mp hq with rfl | hq
  · rcases List.mem_cons.mp hb with rfl | hb
    · exact h.1
    · rw [List.mem_singleton.mp hb]; exact h.2
  · exact ho q hq b hb
theorem own2_nil {lc ls : Addr} : OwnOff [] [lc, ls] := fun _ h => (nomatch h)
theorem own_off3 {I C D lc ls : Addr} {oI oC oD a b : Obj} {tl tl' : Led} (off : LCg.Off3 I C D ((lc, a) :: (ls, b) :: tl)) (ho : OwnOff tl' [lc, ls]) : OwnOff ((I, oI) :: (C, oC) :: (D, oD) :: tl') [lc, ls] :=
  own2 ⟨Ne.symm off.1.1, Ne.symm off.2.1.1⟩ (own2 ⟨Ne.symm off.1.2.1, Ne.symm off.2.1.2.1⟩ (own2 ⟨Ne.symm off.1.2.2, Ne.symm off.2.1.2.2⟩ ho))
theorem own_base3 {lc ls c1 c2 c3 : Addr} {o2 o3 o4 : Obj} (la : (ls < lc) ∧ (c3 < lc) ∧ (c2 < lc) ∧ (c1 < lc)) (lb : (c3 < ls) ∧ (c2 < ls) ∧ (c1 < ls)) : OwnOff [(c3, o2), (c2, o3), (c1, o4)] [lc, ls] :=
  own2 ⟨Nat.ne_of_lt la.2.1, Nat.ne_of_lt lb.1⟩ (own2 ⟨Nat.ne_of_lt la.2.2.1, Nat.ne_of_lt lb.2.1⟩ (own2 ⟨Nat.ne_of_lt la.2.2.2, Nat.ne_of_lt lb.2.2⟩ own2_nil))
theorem own_base {lc ls c1 c2 c3 d : Addr} {o1 o2 o3 o4 : Obj} {X : Prop} (ld : (lc < d) ∧ (ls < d) ∧ X) (la : (ls < lc) ∧ (c3 < lc) ∧ (c2 < lc) ∧ (c1 < lc)) (lb : (c3 < ls) ∧ (c2 < ls) ∧ (c1 < ls)) : OwnOff [(d, o1), (c3, o2), (c2, o3), (c1, o4)] [lc, ls] :=
  own2 ⟨Nat.ne_of_gt ld.1, Nat.ne_of_gt ld.2.1⟩ (own_base3 la lb)
theorem ne_base {lc ls : Addr} {X : Prop} (la : (ls < lc) ∧ X) : @Ne Nat lc ls := Nat.ne_of_gt la.1
theorem perm23 {x y a b c : Addr × Obj} {l : Led} : ∀ p ∈ x :: y :: a :: b :: c :: l, p ∈ a :: b :: c :: x :: y :: l := by
  intro p hp
  simp only [List.mem_cons] at hp ⊢
  rcases hp with h | h | h | h | h | h <;> simp [h]
theorem perm32' {x y a b c : Addr × Obj} {l : Led} : ∀ p ∈ a :: b :: c :: x :: y :: l, p ∈ x :: y :: a :: b :: c :: l := by
  intro p hp
  simp only [List.mem_cons] at hp ⊢
  rcases hp with h | h | h | h | h | h <;> simp [h]
def BInv (lc ls : Addr) (rest : Led) (k0 : Int) (signs : Str) (i : Nat) (ys : List Value) (nw : Led) : Prop :=
  ∃ (t : Tok) (k : Int) (xs : List Str), k = k0 + (i : Int) ∧ nw = (lc, listOf #[.ref ls, .int k t] 0) :: rest ∧ StrsAre ys xs ∧ xs.length = i ∧ Picks signs xs
theorem exN {h₀ h : Heap} {L lc ls : Addr} {v : Value} {c : Nat} {rest : Led} (_ : News h₀ L h ((lc, listOf #[.ref ls, v] c) :: rest)) : ∃ a b : Addr, a = lc ∧ b = ls := ⟨_, _, rfl, rfl⟩
theorem binv_step {lc ls : Addr} {rest : Led} {k0 k b : Int} {signs : Str} {i : Nat} {ys : List Value} {xs : List Str} {t t' : Tok} (hk : k = k0 + (i : Int)) (hys : StrsAre ys xs) (hl : xs.length = i) (hp : Picks signs xs) (h0 : 0 ≤ b) (h9 : b < 9) :
    BInv lc ls rest k0 signs (i + 1) (ys ++ [.str (Txt.item signs b) t]) ((lc, listOf #[.ref ls, .int (k + 1) t'] 0) :: rest) := by
  refine ⟨t', k + 1, xs ++ [Txt.item signs b], by omega, rfl, hys.append' (.cons _ _ .nil), by simp [hl], fun x hx => ?_⟩
  rcases List.mem_append.mp hx with h | h
  · exact hp x h
  · exact ⟨b, h0, h9, List.mem_singleton.mp h⟩
theorem picks_fits {signs : Str} {xs : List Str} (hp : Picks signs xs) (hl : xs.length ≤ 100) : (xs.map (·.length)).sum + xs.length * 64 ≤ 16777216 := by
  have h1 : ∀ x ∈ xs, x.length = 1 := by
    intro x hx
    obtain ⟨b, _, _, rfl⟩ := hp x hx
    rfl
  rw [sum_ones _ h1]
  omega
theorem via_same {prog : Program} {w : World} {A : Around} {t : Sem Value} {P : Value → Prop} {Q : Value → Shared → Prop} {E : Value → Shared → Prop} {s : Shared}
    (h : wpAny (model prog w) A t (fun v s' => s' = s ∧ P v) E s) (k : ∀ v, P v → Q v s) : wpAny (model prog w) A t Q E s :=
  wpAny_mono h (fun v s' hv => by obtain ⟨rfl, hp⟩ := hv; exact k v hp) (fun _ _ z => z)
theorem look_a : namesOk vw (looseW vw sg) (namesW vw sg) = true := by
  rw [Fast.te17448422675489707002, Fast.te821141287760084731]
  kernel_rfl
theorem look_b : importsNone vw = true := by
  rw [Fast.te2458874890965802552]
  kernel_rfl
-- the two looks at the view once more by name (else the walk makes a twin of the whole text: 4 MB)
local macro_rules | `(tactic| k_qdec) => `(tactic| first | exact look_a | exact look_b)
theorem law_holds : PySem.Challenge.rw_sa0531_01.Holds := by
  k_with_none
  refine hd ⟨left, ?_⟩
  k_go0
  (all_goals try k_fold)
  (rename Fr _ _ _ _ => F0)
  (rename News _ _ _ _ => N0)
  (rename Below _ _ _ _ => B0)
  (rename Top _ _ _ _ _ _ => T0)
  (rename Frag.In _ _ => KX0)
  (rename IntsAre _ _ => hI0)
  (rename ¬ (_ < _) => hc63)
  (rename Heap.IsList _ _ _ => hL0)
  (rename _ = Data.cell _ => e3)
  revert e3
  (rename _ = Data.cell _ => e2)
  revert e2
  (rename _ = Data.cell _ => e1)
  revert e1
  intro e1 e2 e3
  replace e1 : _ = Data.cell none := e1
  replace e2 : _ = Data.cell none := e2
  replace e3 : _ = Data.cell none := e3
  repeat (with_reducible rename Ground _ _ _ _ => z9; clear z9)
  repeat (with_reducible rename Hook.says _ _ _ => z9; clear z9)
  repeat (with_reducible rename Flt.MathXP _ _ _ => z9; clear z9)
  repeat (with_reducible rename LooseAre _ _ _ => z9; clear z9)
  repeat (with_reducible rename Glob _ _ _ _ _ _ _ _ => z9; clear z9)
  repeat (with_reducible rename Tables _ _ _ _ => z9; clear z9)
  repeat (with_reducible rename TopE _ _ _ _ => z9; clear z9)
  repeat (with_reducible rename TopW _ _ _ => z9; clear z9)
  repeat (with_reducible rename BMod _ _ _ _ _ => z9; clear z9)
  repeat (with_reducible rename Heap.CodeRec _ _ _ => z9; clear z9)
  repeat (with_reducible rename Well _ _ _ _ => z9; clear z9)
  repeat (with_reducible rename Reads _ _ _ _ => z9; clear z9)
  repeat (with_reducible rename ReadsAll _ _ _ _ => z9; clear z9)
  repeat (with_reducible rename ReadsAllW _ _ _ _ _ _ => z9; clear z9)
  repeat (with_reducible rename Dflts _ _ _ _ _ _ => z9; clear z9)
  repeat (with_reducible rename CellsAre _ _ _ => z9; clear z9)
  repeat (with_reducible rename True => z9; clear z9)
  repeat (with_reducible rename _ = true => z9; clear z9)
  repeat (with_reducible rename Heap.get? _ _ = some _ => z9; clear z9)
  (repeat' (first | (k_unfold; (try dsimp only)) | (k_end; kc_close) | walk1 | (dsimp only; walk1) | (leave1; walk_say "STEP leave1"; (try dsimp only))))
  refine Hold.mk ?_
  refine' (bead_con _ _ _ _ _ _ _ _ _ _ _ _ ?hiA ?hnA ?hkA ?hlA ?hmA ?hzA ?hoA ?hneA).use ?BA ?FA ?XA ?NA ?TA ?kA ?dA ?uA ?_
  case BA => k_asm
  case FA => k_asm
  case XA => k_asm
  case NA => k_asm
  case hiA => assumption
  case hnA => first | exact List.length_take_le _ _ | omega
  case hkA => omega
  case hlA => omega
  case hmA => omega
  case hzA => omega
  case hoA => exact own_base3 (by assumption) (by assumption)
  case hneA => first | assumption | exact ne_base (by assumption)
  case TA => k_asm
  case kA => first | exact rfl | assumption
  case dA => first | ktr_room | decide
  case uA => first | ktr_units | decide
  intro vA tlA hA tkA HA FA NA
  obtain ⟨bA, tA, sA, evA, hbA, hcA, elA⟩ := HA
  subst evA
  subst elA
  (try dsimp only)
  (try k_sweep)
  (repeat' (first | (k_unfold; (try dsimp only)) | (k_end; kc_close) | walk1 | (dsimp only; walk1) | (leave1; walk_say "STEP leave1"; (try dsimp only))))
  refine Hold.mk ?_
  k_dflt (refine ListComp_T (F₀ := by k_asm) (by with_unfolding_all rfl) (by decide) (by rfl) (by decide) (by rfl) ?_)
  (repeat' (first | (k_unfold; (try dsimp only)) | (k_end; kc_close) | walk1 | (dsimp only; walk1) | (leave1; walk_say "STEP leave1"; (try dsimp only))))
  refine ⟨_, _, _, rfl, by rfl, by k_asm, led_drop (by assumption) perm12, ⟨_, by k_mem, rfl, _, rfl⟩, by (show 3 ≤ sizeLine; decide), ?_⟩
  rintro s₂ ⟨g, rfl⟩
  k_dflt (refine LCg.CompRest.succ ?_)
  intro vP IP oIP CP oCP DP mP hP tkP EP hPP hCP hxP FP NP offP neP
  obtain rfl := Option.some.inj hPP
  (try k_sweep)
  (repeat' (first | (k_unfold; (try dsimp only)) | (k_end; kc_close) | walk1 | (dsimp only; walk1) | (leave1; walk_say "STEP leave1"; (try dsimp only))))
  refine Hold.mk ?_
  refine' (round_con _ _ _ _ _ _ _ _ _ _ _ _ _ [(_, _), (_, _), (_, _), (_, _), (_, _), (_, _), (_, _)] ?hiP ?hnP ?hkP ?hlP ?hmP ?hzP ?hoP ?hneP ?hllP).use ?BP ?FP ?XP ?NP ?TP ?kP ?dP ?uP ?_
  case BP => k_asm
  case FP => k_asm
  case XP => k_asm
  case NP => exact led_drop (by assumption) perm23
  case hiP => assumption
  case hnP => exact List.length_take_le _ _
  case hkP => omega
  case hlP => omega
  case hmP => omega
  case hzP => omega
  case hoP => exact own_off3 offP (own_base (by assumption) (by assumption) (by assumption))
  case hneP => exact ne_base (by assumption)
  case hllP => decide +kernel
  case TP => k_asm
  case kP => first | exact rfl | assumption
  case dP => first | ktr_room | decide
  case uP => first | ktr_units | decide
  intro vrP tlP hrP trP HP FP NP
  obtain ⟨raP, rbP, rtP, sP, haP, hbP, hcP, hdP, evP, elP⟩ := HP
  subst evP
  subst elP
  (try dsimp only)
  (try k_sweep)
  (repeat' (first | (k_unfold; (try dsimp only)) | (k_end; kc_close) | walk1 | (dsimp only; walk1) | (leave1; walk_say "STEP leave1"; (try dsimp only))))
  refine Hold.mk ?_
  refine LCg.CompEnd.intro (by k_asm) (by k_asm) [(_, _), (_, _), (_, _), (_, _), (_, _), (_, _)] perm32' (by exact offP) ⟨_, by k_mem, rfl, _, rfl⟩ ?_
  clear offP neP hPP hCP hxP
  k_dflt (refine LCg.CompRest.succ ?_)
  intro vQ IQ oIQ CQ oCQ DQ mQ hQ tkQ EQ hPQ hCQ hxQ FQ NQ offQ neQ
  obtain rfl := Option.some.inj hPQ
  (try k_sweep)
  (repeat' (first | (k_unfold; (try dsimp only)) | (k_end; kc_close) | walk1 | (dsimp only; walk1) | (leave1; walk_say "STEP leave1"; (try dsimp only))))
  refine Hold.mk ?_
  refine' (round_con _ _ _ _ _ _ _ _ _ _ _ _ _ [(_, _), (_, _), (_, _), (_, _), (_, _), (_, _), (_, _)] ?hiQ ?hnQ ?hkQ ?hlQ ?hmQ ?hzQ ?hoQ ?hneQ ?hllQ).use ?BQ ?FQ ?XQ ?NQ ?TQ ?kQ ?dQ ?uQ ?_
  case BQ => k_asm
  case FQ => k_asm
  case XQ => k_asm
  case NQ => exact led_drop (by assumption) perm23
  case hiQ => assumption
  case hnQ => exact List.length_take_le _ _
  case hkQ => omega
  case hlQ => omega
  case hmQ => omega
  case hzQ => omega
  case hoQ => exact own_off3 offQ (own_base (by assumption) (by assumption) (by assumption))
  case hneQ => exact ne_base (by assumption)
  case hllQ => decide +kernel
  case TQ => k_asm
  case kQ => first | exact rfl | assumption
  case dQ => first | ktr_room | decide
  case uQ => first | ktr_units | decide
  intro vrQ tlQ hrQ trQ HQ FQ NQ
  obtain ⟨raQ, rbQ, rtQ, sQ, haQ, hbQ, hcQ, hdQ, evQ, elQ⟩ := HQ
  subst evQ
  subst elQ
  (try dsimp only)
  (try k_sweep)
  (repeat' (first | (k_unfold; (try dsimp only)) | (k_end; kc_close) | walk1 | (dsimp only; walk1) | (leave1; walk_say "STEP leave1"; (try dsimp only))))
  refine Hold.mk ?_
  refine LCg.CompEnd.intro (by k_asm) (by k_asm) [(_, _), (_, _), (_, _), (_, _), (_, _), (_, _)] perm32' (by exact offQ) ⟨_, by k_mem, rfl, _, rfl⟩ ?_
  clear offQ neQ hPQ hCQ hxQ
  k_dflt (refine LCg.CompRest.succ ?_)
  intro vR IR oIR CR oCR DR mR hR tkR ER hPR hCR hxR FR NR offR neR
  obtain rfl := Option.some.inj hPR
  (try k_sweep)
  (repeat' (first | (k_unfold; (try dsimp only)) | (k_end; kc_close) | walk1 | (dsimp only; walk1) | (leave1; walk_say "STEP leave1"; (try dsimp only))))
  refine Hold.mk ?_
  refine' (round_con _ _ _ _ _ _ _ _ _ _ _ _ _ [(_, _), (_, _), (_, _), (_, _), (_, _), (_, _), (_, _)] ?hiR ?hnR ?hkR ?hlR ?hmR ?hzR ?hoR ?hneR ?hllR).use ?BR ?FR ?XR ?NR ?TR ?kR ?dR ?uR ?_
  case BR => k_asm
  case FR => k_asm
  case XR => k_asm
  case NR => exact led_drop (by assumption) perm23
  case hiR => assumption
  case hnR => exact List.length_take_le _ _
  case hkR => omega
  case hlR => omega
  case hmR => omega
  case hzR => omega
  case hoR => exact own_off3 offR (own_base (by assumption) (by assumption) (by assumption))
  case hneR => exact ne_base (by assumption)
  case hllR => decide +kernel
  case TR => k_asm
  case kR => first | exact rfl | assumption
  case dR => first | ktr_room | decide
  case uR => first | ktr_units | decide
  intro vrR tlR hrR trR HR FR NR
  obtain ⟨raR, rbR, rtR, sR, haR, hbR, hcR, hdR, evR, elR⟩ := HR
  subst evR
  subst elR
  (try dsimp only)
  (try k_sweep)
  (repeat' (first | (k_unfold; (try dsimp only)) | (k_end; kc_close) | walk1 | (dsimp only; walk1) | (leave1; walk_say "STEP leave1"; (try dsimp only))))
  refine Hold.mk ?_
  refine LCg.CompEnd.intro (by k_asm) (by k_asm) [(_, _), (_, _), (_, _), (_, _), (_, _), (_, _)] perm32' (by exact offR) ⟨_, by k_mem, rfl, _, rfl⟩ ?_
  clear offR neR hPR hCR hxR
  refine LCg.CompRest.zero ?_
  intro D3 h3 tk3 F3 N3 o3
  simp only [LCg.Off1, and_true] at o3
  (try simp only [List.cons_append, List.nil_append] at N3)
  (try k_sweep)
  (repeat' (first | (k_unfold; (try dsimp only)) | (k_end; kc_close) | walk1 | (dsimp only; walk1) | (leave1; walk_say "STEP leave1"; (try dsimp only))))
  repeat (with_reducible rename InElt _ _ => z9; clear z9)
  clear e1 e2 e3
  (rename News _ _ _ _ => N4)
  replace N4 := led_drop N4 (led_tl1 (led_kp (led_kp (led_tl1 fun _ h => h))))
  clear o3
  obtain ⟨lc, ls, elc, els⟩ := exN N4
  subst elc
  subst els
  generalize hsrc : roundS (Str.ofString "abcdef") raP rbP (1 + bA) = source at *
  generalize htgt : roundS (Str.ofString "uvwxyz") raQ rbQ (1 + bA) = target at *
  generalize hthd : roundS (Str.ofString "ABCDEF") raR rbR (1 + bA) = third at *
  refine Hold.mk ?_
  k_dflt (refine LCg.ListComp_U (F₀ := by k_asm) (by with_unfolding_all rfl) (by decide) (by rfl) (by decide) (by rfl) ?_)
  (repeat' (first | (k_unfold; (try dsimp only)) | (k_end; kc_close) | walk1 | (dsimp only; walk1) | (leave1; walk_say "STEP leave1"; (try dsimp only))))
  refine Hold.mk ?_
  refine' (bead_con _ _ _ _ _ _ _ _ _ _ _ _ ?hiB ?hnB ?hkB ?hlB ?hmB ?hzB ?hoB ?hneB).use ?BB ?FB ?XB ?NB ?TB ?kB ?dB ?uB ?_
  case BB => k_asm
  case FB => k_asm
  case XB => k_asm
  case NB => k_asm
  case hiB => assumption
  case hnB => first | exact List.length_take_le _ _ | omega
  case hkB => omega
  case hlB => omega
  case hmB => omega
  case hzB => omega
  case hoB => exact own_base3 (by assumption) (by assumption)
  case hneB => first | assumption | exact ne_base (by assumption)
  case TB => k_asm
  case kB => first | exact rfl | assumption
  case dB => first | ktr_room | decide
  case uB => first | ktr_units | decide
  intro vB tlB hB tkB HB FB NB
  obtain ⟨bB, tB, sB, evB, hbB, hcB, elB⟩ := HB
  subst evB
  subst elB
  (try dsimp only)
  (try k_sweep)
  (repeat' (first | (k_unfold; (try dsimp only)) | (k_end; kc_close) | walk1 | (dsimp only; walk1) | (leave1; walk_say "STEP leave1"; (try dsimp only))))
  refine Hold.mk ?_
  k_dflt (refine LCg.CompSrc.range (by rfl) (by k_asm) (by k_asm) (by assumption) (by first | decide | exact small_one (by l_bnd) (by l_bnd) (by l_bnd) (by l_bnd)) (by first | exact rangeSize_nat _ _ | rfl) (by rw [PySem.sizeLine_eq]; omega) ?_)
  intro g9
  refine rest_ind (Inv := BInv lc ls _ _ (Str.ofString "abcdef- π")) ⟨_, _, [], (Int.add_zero _).symm, rfl, .nil, rfl, fun _ h => nomatch h⟩ ?_ ?_
  · rintro i ys nw hlt ⟨tI, kI, xs, hkI, rfl, hys, hlx, hpx⟩ vI II oII CI oCI DI mI hI tkI EI ⟨tv, rfl⟩ hCI hxI FI NI offI neI
    (try k_sweep)
    (repeat' (first | (k_unfold; (try dsimp only)) | (k_end; kc_close) | walk1 | (dsimp only; walk1) | (leave1; walk_say "STEP leave1"; (try dsimp only))))
    refine Hold.mk ?_
    refine' (bead_con _ _ _ _ _ _ _ _ _ _ _ [(_, _), (_, _), (_, _), (_, _), (_, _), (_, _)] ?hiK ?hnK ?hkK ?hlK ?hmK ?hzK ?hoK ?hneK).use ?BK ?FK ?XK ?NK ?TK ?kK ?dK ?uK ?_
    case BK => k_asm
    case FK => k_asm
    case XK => k_asm
    case NK => exact led_drop (by assumption) perm23
    case hiK => assumption
    case hnK => first | exact List.length_take_le _ _ | omega
    case hkK => omega
    case hlK => omega
    case hmK => omega
    case hzK => omega
    case hoK => exact own_off3 offI (own_base3 (by assumption) (by assumption))
    case hneK => first | assumption | exact ne_base (by assumption)
    case TK => k_asm
    case kK => first | exact rfl | assumption
    case dK => first | ktr_room | decide
    case uK => first | ktr_units | decide
    intro vK tlK hK tkK HK FK NK
    obtain ⟨bK, tK, sK, evK, hbK, hcK, elK⟩ := HK
    subst evK
    subst elK
    (try dsimp only)
    (try k_sweep)
    (repeat' (first | (k_unfold; (try dsimp only)) | (k_end; kc_close) | walk1 | (dsimp only; walk1) | (leave1; walk_say "STEP leave1"; (try dsimp only))))
    refine Hold.mk ?_
    refine LCg.CompEnd.intro (by k_asm) (by k_asm) [(_, _), (_, _), (_, _), (_, _), (_, _)] perm32' (by exact offI) trivial (binv_step hkI hys hlx hpx hbK hcK)
  · rintro ys nw ⟨tI, kI, xs, hkI, rfl, hys, hlx, hpx⟩
    intro D9 h9 tk9 F9 N9 o9
    (try k_sweep)
    (repeat' (first | (k_unfold; (try dsimp only)) | (k_end; kc_close) | walk1 | (dsimp only; walk1) | (leave1; walk_say "STEP leave1"; (try dsimp only))))
    k_dflt (refine join_listC (News.isList (by k_asm) (.head _)) hys (by decide) (picks_fits hpx (by omega)) ?_)
    intro tj kj
    (rename News _ _ _ _ => N6)
    replace N6 := led_drop N6 (led_tl1 fun _ h => h)
    generalize htxt : Txt.join (Str.ofString "") xs = text at *
    clear o9
    (repeat' (first | (k_unfold; (try dsimp only)) | (k_end; kc_close) | walk1 | (dsimp only; walk1) | (leave1; walk_say "STEP leave1"; (try dsimp only))))
    refine Hold.mk ?_
    refine' (bead_con _ _ _ _ _ _ _ _ _ _ _ _ ?hiC ?hnC ?hkC ?hlC ?hmC ?hzC ?hoC ?hneC).use ?BC ?FC ?XC ?NC ?TC ?kC ?dC ?uC ?_
    case BC => k_asm
    case FC => k_asm
    case XC => k_asm
    case NC => k_asm
    case hiC => assumption
    case hnC => first | exact List.length_take_le _ _ | omega
    case hkC => omega
    case hlC => omega
    case hmC => omega
    case hzC => omega
    case hoC => exact own_base3 (by assumption) (by assumption)
    case hneC => first | assumption | exact ne_base (by assumption)
    case TC => k_asm
    case kC => first | exact rfl | assumption
    case dC => first | ktr_room | decide
    case uC => first | ktr_units | decide
    intro vC tlC hC tkC HC FC NC
    obtain ⟨bC, tC, sC, evC, hbC, hcC, elC⟩ := HC
    subst evC
    subst elC
    (try dsimp only)
    (try k_sweep)
    (repeat' (first | (k_unfold; (try dsimp only)) | (k_end; kc_close) | walk1 | (dsimp only; walk1) | (leave1; walk_say "STEP leave1"; (try dsimp only))))
    refine Hold.mk ?_
    refine via_same (P := fun v => ∃ fl t, v = Value.str fl t ∧ FlagOk fl) ?flg (fun v hv => ?_)
    case flg =>
      (repeat' (first | (k_unfold; (try dsimp only)) | (k_end; kc_close) | walk1 | (dsimp only; walk1) | (leave1; walk_say "STEP leave1"; (try dsimp only))))
      all_goals (unfold FlagOk; simp)
    obtain ⟨fl, tf, ev, hfl⟩ := hv
    subst ev
    (try dsimp only)
    (repeat' (first | (k_unfold; (try dsimp only)) | (k_end; kc_close) | walk1 | (dsimp only; walk1) | (leave1; walk_say "STEP leave1"; (try dsimp only))))
    refine Hold.mk ?_
    refine' (bead_con _ _ _ _ _ _ _ _ _ _ _ _ ?hiD ?hnD ?hkD ?hlD ?hmD ?hzD ?hoD ?hneD).use ?BD ?FD ?XD ?ND ?TD ?kD ?dD ?uD ?_
    case BD => k_asm
    case FD => k_asm
    case XD => k_asm
    case ND => k_asm
    case hiD => assumption
    case hnD => first | exact List.length_take_le _ _ | omega
    case hkD => omega
    case hlD => omega
    case hmD => omega
    case hzD => omega
    case hoD => exact own_base3 (by assumption) (by assumption)
    case hneD => first | assumption | exact ne_base (by assumption)
    case TD => k_asm
    case kD => first | exact rfl | assumption
    case dD => first | ktr_room | decide
    case uD => first | ktr_units | decide
    intro vD tlD hD tkD HD FD ND
    obtain ⟨bD, tD, sD, evD, hbD, hcD, elD⟩ := HD
    subst evD
    subst elD
    (try dsimp only)
    (try k_sweep)
    (repeat' (first | (k_unfold; (try dsimp only)) | (k_end; kc_close) | walk1 | (dsimp only; walk1) | (leave1; walk_say "STEP leave1"; (try dsimp only))))
    refine Hold.mk ?_
    refine' (bead_con _ _ _ _ _ _ _ _ _ _ _ _ ?hiG ?hnG ?hkG ?hlG ?hmG ?hzG ?hoG ?hneG).use ?BG ?FG ?XG ?NG ?TG ?kG ?dG ?uG ?_
    case BG => k_asm
    case FG => k_asm
    case XG => k_asm
    case NG => k_asm
    case hiG => assumption
    case hnG => first | exact List.length_take_le _ _ | omega
    case hkG => omega
    case hlG => omega
    case hmG => omega
    case hzG => omega
    case hoG => exact own_base3 (by assumption) (by assumption)
    case hneG => first | assumption | exact ne_base (by assumption)
    case TG => k_asm
    case kG => first | exact rfl | assumption
    case dG => first | ktr_room | decide
    case uG => first | ktr_units | decide
    intro vG tlG hG tkG HG FG NG
    obtain ⟨bG, tG, sG, evG, hbG, hcG, elG⟩ := HG
    subst evG
    subst elG
    (try dsimp only)
    (try k_sweep)
    (repeat' (first | (k_unfold; (try dsimp only)) | (k_end; kc_close) | walk1 | (dsimp only; walk1) | (leave1; walk_say "STEP leave1"; (try dsimp only))))
    refine Hold.mk ?_
    refine' (bead_con _ _ _ _ _ _ _ _ _ _ _ _ ?hiJ ?hnJ ?hkJ ?hlJ ?hmJ ?hzJ ?hoJ ?hneJ).use ?BJ ?FJ ?XJ ?NJ ?TJ ?kJ ?dJ ?uJ ?_
    case BJ => k_asm
    case FJ => k_asm
    case XJ => k_asm
    case NJ => k_asm
    case hiJ => assumption
    case hnJ => first | exact List.length_take_le _ _ | omega
    case hkJ => omega
    case hlJ => omega
    case hmJ => omega
    case hzJ => omega
    case hoJ => exact own_base3 (by assumption) (by assumption)
    case hneJ => first | assumption | exact ne_base (by assumption)
    case TJ => k_asm
    case kJ => first | exact rfl | assumption
    case dJ => first | ktr_room | decide
    case uJ => first | ktr_units | decide
    intro vJ tlJ hJ tkJ HJ FJ NJ
    obtain ⟨bJ, tJ, sJ, evJ, hbJ, hcJ, elJ⟩ := HJ
    subst evJ
    subst elJ
    (try dsimp only)
    (try k_sweep)
    have htx : Texty text := htxt ▸ texty_of hpx (by omega)
    obtain ⟨fc, htl⟩ := facts_of htx (by omega) (by omega) hsrc htgt hthd haP hbP hcP hdP haQ hbQ hcQ hdQ haR hbR hcR hdR
    generalize rcodes 97 raP rbP (1 + bA) = S at fc
    generalize rcodes 117 raQ rbQ (1 + bA) = T at fc
    generalize rcodes 65 raR rbR (1 + bA) = U at fc
    clear hsrc htgt hthd hys hpx htxt haP hbP hcP hdP haQ hbQ hcQ hdQ haR hbR hcR hdR
    have htl4 : target.length ≤ 4 := by omega
    have hxl : text.length ≤ 8 := htx.len
    (repeat' (first | (k_unfold; (try dsimp only)) | (k_end; kc_close) | walk1 | (dsimp only; walk1) | (leave1; walk_say "STEP leave1"; (try dsimp only))))
    refine Hold.mk ?_
    refine' (undone_con _ text source target third _ _ _ _ S T U (rot S) fc.hS fc.hT fc.hU fc.hR codes_nil fc.hg fc.und).use ?BA1 ?FA1 ?XA1 ?NA1 ?TA1 ?mA1 ?kA1 ?dA1 ?uA1 ?_
    case BA1 => k_asm
    case FA1 => k_asm
    case XA1 => k_asm
    case NA1 => k_asm
    case TA1 => k_asm
    case mA1 => exact fun _ h => nomatch h
    case kA1 => first | exact rfl | assumption
    case dA1 => first | ktr_room | decide
    case uA1 => first | ktr_units | decide
    intro vA1 tlA1 hA1 tkA1 HA1 FA1 NA1
    obtain ⟨e9, e8⟩ := HA1
    subst e9
    subst e8
    (try simp only [List.nil_append] at NA1)
    (try dsimp only)
    (try k_sweep)
    (repeat' (first | (k_unfold; (try dsimp only)) | (k_end; kc_close) | walk1 | (dsimp only; walk1) | (leave1; walk_say "STEP leave1"; (try dsimp only))))
    refine Hold.mk ?_
    refine' (counted_con _ text source target _ _ _ S T fc.hS fc.hT codes_nil fixed.h fc.hg fc.cnt).use ?BA2 ?FA2 ?XA2 ?NA2 ?TA2 ?mA2 ?kA2 ?dA2 ?uA2 ?_
    case BA2 => k_asm
    case FA2 => k_asm
    case XA2 => k_asm
    case NA2 => k_asm
    case TA2 => k_asm
    case mA2 => exact fun _ h => nomatch h
    case kA2 => first | exact rfl | assumption
    case dA2 => first | ktr_room | decide
    case uA2 => first | ktr_units | decide
    intro vA2 tlA2 hA2 tkA2 HA2 FA2 NA2
    obtain ⟨e9, e8⟩ := HA2
    subst e9
    subst e8
    (try simp only [List.nil_append] at NA2)
    (try dsimp only)
    (try k_sweep)
    (repeat' (first | (k_unfold; (try dsimp only)) | (k_end; kc_close) | walk1 | (dsimp only; walk1) | (leave1; walk_say "STEP leave1"; (try dsimp only))))
    have sh := fc.short (short := 1 + bG) (by omega) (by omega)
    refine Hold.mk ?_
    refine' (parted_con _ text source (Txt.slice target none (some (1 + bG))) fl bD _ _ _ _ _ S (T.take (1 + bG).toNat) fc.hS sh.1 fc.hg hfl hbD hcD sh.2.1 sh.2.2).use ?BA3 ?FA3 ?XA3 ?NA3 ?TA3 ?mA3 ?kA3 ?dA3 ?uA3 ?_
    case BA3 => k_asm
    case FA3 => k_asm
    case XA3 => k_asm
    case NA3 => k_asm
    case TA3 => k_asm
    case mA3 => exact fun _ h => nomatch h
    case kA3 => first | exact rfl | assumption
    case dA3 => first | ktr_room | decide
    case uA3 => first | ktr_units | decide
    intro vA3 tlA3 hA3 tkA3 HA3 FA3 NA3
    obtain ⟨e9, e8⟩ := HA3
    subst e9
    subst e8
    (try simp only [List.nil_append] at NA3)
    (try dsimp only)
    (try k_sweep)
    (repeat' (first | (k_unfold; (try dsimp only)) | (k_end; kc_close) | walk1 | (dsimp only; walk1) | (leave1; walk_say "STEP leave1"; (try dsimp only))))
    have hTn : T ≠ [] := fun e => by have h8 := fc.tlen; rw [e] at h8; simp at h8; omega
    refine Hold.mk ?_
    refine' (parted_con _ text source target (Str.ofString "s") 0 _ _ _ _ _ S T fc.hS fc.hT fc.hg (by unfold FlagOk; simp) (by decide) (by decide) hTn fc.off).use ?BA4 ?FA4 ?XA4 ?NA4 ?TA4 ?mA4 ?kA4 ?dA4 ?uA4 ?_
    case BA4 => k_asm
    case FA4 => k_asm
    case XA4 => k_asm
    case NA4 => k_asm
    case TA4 => k_asm
    case mA4 => exact fun _ h => nomatch h
    case kA4 => first | exact rfl | assumption
    case dA4 => first | ktr_room | decide
    case uA4 => first | ktr_units | decide
    intro vA4 tlA4 hA4 tkA4 HA4 FA4 NA4
    obtain ⟨e9, e8⟩ := HA4
    subst e9
    subst e8
    (try simp only [List.nil_append] at NA4)
    (try dsimp only)
    (try k_sweep)
    replace NA4 := led_drop NA4 (led_tl1 fun _ h => h)
    (repeat' (first | (k_unfold; (try dsimp only)) | (k_end; kc_close) | walk1 | (dsimp only; walk1) | (leave1; walk_say "STEP leave1"; (try dsimp only))))
    refine Hold.mk ?_
    refine' (bead_con _ _ _ _ _ _ _ _ _ _ _ _ ?hiV ?hnV ?hkV ?hlV ?hmV ?hzV ?hoV ?hneV).use ?BV ?FV ?XV ?NV ?TV ?kV ?dV ?uV ?_
    case BV => k_asm
    case FV => k_asm
    case XV => k_asm
    case NV => k_asm
    case hiV => assumption
    case hnV => first | exact List.length_take_le _ _ | omega
    case hkV => omega
    case hlV => omega
    case hmV => omega
    case hzV => omega
    case hoV => exact own_base3 (by assumption) (by assumption)
    case hneV => first | assumption | exact ne_base (by assumption)
    case TV => k_asm
    case kV => first | exact rfl | assumption
    case dV => first | ktr_room | decide
    case uV => first | ktr_units | decide
    intro vV tlV hV tkV HV FV NV
    obtain ⟨bV, tV, sV, evV, hbV, hcV, elV⟩ := HV
    subst evV
    subst elV
    (try dsimp only)
    (try k_sweep)
    (repeat' (first | (k_unfold; (try dsimp only)) | (k_end; kc_close) | walk1 | (dsimp only; walk1) | (leave1; walk_say "STEP leave1"; (try dsimp only))))
    refine Hold.mk ?_
    refine' (spelt_con _ text source target (1 + bG) bJ (bJ + bV) _ _ _ _ _ _ S T _ _ _ fc.hS fc.hT fc.hg (by omega) (by omega) hbJ (by omega) (by omega) htl4 fixed (fc.spell (by omega) (by omega) hbJ (by omega) (by omega))).use ?BA5 ?FA5 ?XA5 ?NA5 ?TA5 ?mA5 ?kA5 ?dA5 ?uA5 ?_
    case BA5 => k_asm
    case FA5 => k_asm
    case XA5 => k_asm
    case NA5 => k_asm
    case TA5 => k_asm
    case mA5 => exact fun _ h => nomatch h
    case kA5 => first | exact rfl | assumption
    case dA5 => first | ktr_room | decide
    case uA5 => first | ktr_units | decide
    intro vA5 tlA5 hA5 tkA5 HA5 FA5 NA5
    obtain ⟨e9, e8⟩ := HA5
    subst e9
    subst e8
    (try simp only [List.nil_append] at NA5)
    (try dsimp only)
    (try k_sweep)
    (repeat' (first | (k_unfold; (try dsimp only)) | (k_end; kc_close) | walk1 | (dsimp only; walk1) | (leave1; walk_say "STEP leave1"; (try dsimp only))))
end Mine
theorem PySem.Challenge.cw_sa0531_01_holds : PySem.Challenge.rw_sa0531_01.Holds :=
  Mine.law_holds
