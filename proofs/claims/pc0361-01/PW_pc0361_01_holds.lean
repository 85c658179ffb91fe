import PyProof.Rows.All
import Wide.All
import OpenK.AllK
import Wide.FinOn
import PySem.Challenge.RW_pc0361_01
open PySem PySem.W PyProof.Rows
set_option Elab.async false
set_option linter.unusedVariables false
namespace Mine
set_option maxRecDepth 100000 in
set_option maxHeartbeats 8000000 in
open_top hd for PySem.Challenge.rw_pc0361_01
end Mine
section
-- part JN
namespace Mine
open PySem.Spec PySem.Calls PyProof.V
def Stop (P : Prop) : Prop := P
theorem stop_of {P : Prop} (h : Stop P) : P := h

abbrev srcD (dg st : Int) : List (PyData × PyData) := [(.str (Str.ofString "digits"), .int dg), (.str (Str.ofString "stir"), .int st)]
abbrev ownD (r mo g t : Int) : List (PyData × PyData) := [(.str (Str.ofString "rate"), .int r), (.str (Str.ofString "most"), .int mo), (.str (Str.ofString "grains"), .int g), (.str (Str.ofString "time"), .int t)]

abbrev bktO (w : World) (k1 k2 k3 k4 tr tb tg tt : Tok) (r b g t : Int) : Obj :=
  dictOf [⟨PyData.keyHash w.params (Str.ofString "rate"), .str (Str.ofString "rate") k1, .int r tr⟩, ⟨PyData.keyHash w.params (Str.ofString "burst"), .str (Str.ofString "burst") k2, .int b tb⟩,
    ⟨PyData.keyHash w.params (Str.ofString "grains"), .str (Str.ofString "grains") k3, .int g tg⟩, ⟨PyData.keyHash w.params (Str.ofString "time"), .str (Str.ofString "time") k4, .int t tt⟩] 4

theorem ne_len {l : List Int} (h : decide (l = []) = false) : 0 < (l.length : Int) := by
  cases l with
  | nil => simp at h
  | cons a r => simp only [List.length_cons]; omega
theorem nn_fdiv {a b : Int} (ha : 0 ≤ a) (hb : 0 < b) : 0 ≤ a.fdiv b := Int.fdiv_nonneg ha (Int.le_of_lt hb)
theorem nn_fmod {a b : Int} (hb : 0 < b) : 0 ≤ a.fmod b := Int.fmod_nonneg_of_pos a hb
theorem lt_fmod {a b : Int} (hb : 0 < b) : a.fmod b < b := Int.fmod_lt_of_pos a hb
def fT (t now : Int) : Int := if t < now then now else t
def fZ (r g t now : Int) : Int := g + r * (fT t now - t)
def fG (r mo g t now : Int) : Int := if mo < fZ r g t now then mo else fZ r g t now
def fX (r mo g t now : Int) : Int := fZ r g t now - fG r mo g t now
theorem fT_ge (t now : Int) : t ≤ fT t now ∧ now ≤ fT t now ∧ (fT t now = t ∨ fT t now = now) := by
  unfold fT; split <;> omega
theorem fG_le (r mo g t now : Int) : fG r mo g t now ≤ mo := by
  unfold fG; split <;> omega
/-- between the turns of the law's own filling: z the whole so far -/
def Fil (r mo g t now lost g1 t1 : Int) : Prop :=
  t ≤ t1 ∧ (t1 ≤ now ∨ t1 = t) ∧ g1 = (if mo < g + r * (t1 - t) then mo else g + r * (t1 - t)) ∧ lost = g + r * (t1 - t) - g1
theorem fil_start {r mo g t now : Int} (h : g ≤ mo) : Fil r mo g t now 0 g t := by
  have e : g + r * (t - t) = g := by rw [Int.sub_self, Int.mul_zero, Int.add_zero]
  refine ⟨by omega, by omega, ?_, by rw [e]; omega⟩
  rw [e, if_neg (by omega)]
theorem fil_grow {r t t1 : Int} : r * (t1 + 1 - t) = r * (t1 - t) + r := by
  rw [show t1 + 1 - t = (t1 - t) + 1 from by omega, Int.mul_add, Int.mul_one]
theorem fil_over {r mo g t now lost g1 t1 : Int} (hr : 0 ≤ r) (h : Fil r mo g t now lost g1 t1) (hn : t1 < now) (ho : mo < g1 + r) : Fil r mo g t now (lost + (g1 + r) - mo) mo (t1 + 1) := by
  obtain ⟨a, b, c, e⟩ := h
  refine ⟨by omega, by omega, ?_, ?_⟩ <;> rw [fil_grow]
  · generalize r * (t1 - t) = y at *
    by_cases hm : mo < g + y
    · rw [if_pos (by omega)]
    · rw [if_neg hm] at c; rw [if_pos (by omega)]
  · omega
theorem fil_under {r mo g t now lost g1 t1 : Int} (hr : 0 ≤ r) (h : Fil r mo g t now lost g1 t1) (hn : t1 < now) (ho : ¬ mo < g1 + r) : Fil r mo g t now lost (g1 + r) (t1 + 1) := by
  obtain ⟨a, b, c, e⟩ := h
  refine ⟨by omega, by omega, ?_, ?_⟩ <;> rw [fil_grow]
  · generalize r * (t1 - t) = y at *
    by_cases hm : mo < g + y
    · rw [if_pos hm] at c
      have hr0 : r = 0 := by omega
      rw [if_pos (by omega)]; omega
    · rw [if_neg hm] at c; rw [if_neg (by omega)]; omega
  · omega
theorem fil_end {r mo g t now lost g1 t1 : Int} (h : Fil r mo g t now lost g1 t1) (hn : ¬ t1 < now) : lost = fX r mo g t now ∧ g1 = fG r mo g t now ∧ t1 = fT t now := by
  obtain ⟨a, b, c, e⟩ := h
  have h1 : t1 = fT t now := by unfold fT; split <;> omega
  subst h1
  refine ⟨?_, c, rfl⟩
  unfold fX fG fZ
  rw [← c]; exact e
/-- the bucket's own filling -/
theorem fill_idle {r mo g t now : Int} (h : g ≤ mo) (hn : now ≤ t) : 0 = fX r mo g t now ∧ g = fG r mo g t now ∧ t = fT t now := fil_end (fil_start h) (by omega)
theorem fill_runs {r mo g t now : Int} (hn : ¬ now ≤ t) : now = fT t now ∧ g + r * (now - t) = fZ r g t now := by
  have e : fT t now = now := by unfold fT; rw [if_pos (by omega)]
  unfold fZ
  rw [e]; exact ⟨rfl, rfl⟩
end Mine

end
section
-- part S1
namespace Mine
open PySem.Spec PySem.Calls PyProof.V
set_option maxRecDepth 100000 in
set_option maxHeartbeats 4000000 in
theorem next_spec (w : World) : ∀ (mean : ExcName → Option Value) (mg mb : Str → Option Value) (dp un : Nat) (gd : Option (List Code)) (cn : Str) (cs : Scope) (a : Addr) (ccd : Value) (cl : List (Str × Addr)) (outer : List Env) (A₀ : Around) (base h₀ : Heap) (L : Addr) (m : Str → Option Value) (s : Shared) (Q E : Value → Shared → Prop) (d : Addr) (o : Obj) (kvs : List (Str × Value)) (dg st top : Int) (tt : Tok) (rest : List (Addr × Obj)),
    Below A₀ base outer h₀ → Fr h₀ L s.heap m → (hd.heap_39 w.params).In h₀ → News h₀ L s.heap ((d, o) :: rest) → OwnOff rest [d] → Top hd.view_39 (looseW hd.view_39 [Str.ofString "SettingError"]) mean mg mb h₀ → cs.kind = .function → dp + 1 < recursionLimit → un + 8 < cLine → 
    (d == sysModules) = false → o.IsDictOf (strKind PySem.Challenge.rw_pc0361_01.row.prog w) kvs → FlatPairs PyData.str kvs (srcD dg st) → 0 ≤ dg → 0 ≤ st → 0 < top → top < 1000 →
    (∀ (x : Int) (t : Tok) (o : Obj) (kvs : List (Str × Value)) (dg st : Int) (h : Heap) (tk : Nat), Fr h₀ L h m → News h₀ L h ((d, o) :: rest) →
      o.IsDictOf (strKind PySem.Challenge.rw_pc0361_01.row.prog w) kvs → FlatPairs PyData.str kvs (srcD dg st) → 0 ≤ dg → 0 ≤ st → 0 ≤ x → x < top → Q (.int x t) { s with heap := h, toks := tk }) →
    wpAny (model PySem.Challenge.rw_pc0361_01.row.prog w) (ktrTop dp un gd cn cs L a ccd cl outer) (call (.ref 180) [.ref d, .int top tt]) Q E s := by
  w_on
  k_fill
  intro mean mg mb dp un gd cn cs a ccd cl outer A₀ base h₀ L m s Q E d o kvs dg st top tt rest B F X N off T hk hdp hun sm hd' hf h0 h1 ht ht2 ret
  have hmark : KstMark := kstMark
  refine wpAny_call ?_
  k_dflt cell_enter
  repeat' (first | (k_unfold; (try dsimp only)) | (k_end; wrow_close) | ((with_reducible show wpAny _ _ (PySem.binaryOp Operator.FloorDiv (Value.int _ _) (Value.int _ _)) _ _ _); first | with_reducible (k_here; (with_reducible refine floordiv_int ?_ ?_ (Or.inl (PyProof.noPylong_small (by omega)))); (focus omega)) | (k_here; (with_reducible refine floordiv_int ?_ ?_ (Or.inl (PyProof.noPylong_small (by omega)))); (focus omega))) | walk1 | (dsimp only; walk1) | (leave1; walk_say "STEP leave1"; try dsimp only) | fail "no step")
  all_goals (refine ret _ _ _ _ _ _ _ _ (by k_asm) (cb_drop (by k_asm) (by kcj_all)) (by assumption) (by with_unfolding_all assumption) ?_ ?_ ?_ ?_)
  all_goals first | exact nn_fdiv h0 ht | exact h1 | exact h0 | exact nn_fmod ht | exact lt_fmod ht | exact nn_fmod (by decide)
end Mine

end
section
-- part S2
namespace Mine
open PySem.Spec PySem.Calls PyProof.V
theorem news_split {h₀ h : Heap} {L d : Addr} {o : Obj} {pre post : List (Addr × Obj)} (N : News h₀ L h (pre ++ (d, o) :: post)) : News h₀ L h ((d, o) :: (pre ++ post)) := fun p hp => by
  refine N p ?_
  simp only [List.mem_cons, List.mem_append] at hp ⊢
  rcases hp with h | h | h <;> simp [h]
theorem news_join {h₀ h : Heap} {L d : Addr} {o : Obj} {pre post : List (Addr × Obj)} (N : News h₀ L h ((d, o) :: (pre ++ post))) : News h₀ L h (pre ++ (d, o) :: post) := fun p hp => by
  refine N p ?_
  simp only [List.mem_cons, List.mem_append] at hp ⊢
  rcases hp with h | h | h <;> simp [h]
theorem off_one {pre post : List (Addr × Obj)} {d : Addr} (a : ∀ p ∈ pre, p.1 ≠ d) (b : ∀ p ∈ post, p.1 ≠ d) : OwnOff (pre ++ post) [d] := fun p hp q hq => by
  rw [List.mem_singleton.mp hq]
  rcases List.mem_append.mp hp with h | h
  · exact a p h
  · exact b p h
theorem next_use {w : World} {mean : ExcName → Option Value} {mg mb : Str → Option Value} {dp un : Nat} {gd : Option (List Code)} {cn : Str} {cs : Scope} {a : Addr} {ccd : Value} {cl : List (Str × Addr)} {outer : List Env} {A₀ : Around} {base h₀ : Heap} {L : Addr} {m : Str → Option Value} {s : Shared} {Q E : Value → Shared → Prop} {d : Addr} {o : Obj} {kvs : List (Str × Value)} {dg st top : Int} {tt : Tok} {news : List (Addr × Obj)} {g : Obj → List (Addr × Obj)}
    (B : Below A₀ base outer h₀) (F : Fr h₀ L s.heap m) (X : (hd.heap_39 w.params).In h₀) (N : News h₀ L s.heap news) (T : Top hd.view_39 (looseW hd.view_39 [Str.ofString "SettingError"]) mean mg mb h₀) (hk : cs.kind = .function) (hdp : dp + 1 < recursionLimit) (hun : un + 8 < cLine) (U : UpdF d o news g) (sm : (d == sysModules) = false) (hd' : o.IsDictOf (strKind PySem.Challenge.rw_pc0361_01.row.prog w) kvs) (hf : FlatPairs PyData.str kvs (srcD dg st)) (h0 : 0 ≤ dg) (h1 : 0 ≤ st) (ht : 0 < top) (ht2 : top < 1000)
    (ret : (∀ (x : Int) (t : Tok) (o : Obj) (kvs : List (Str × Value)) (dg st : Int) (h : Heap) (tk : Nat), Fr h₀ L h m → News h₀ L h (g o) →
      o.IsDictOf (strKind PySem.Challenge.rw_pc0361_01.row.prog w) kvs → FlatPairs PyData.str kvs (srcD dg st) → 0 ≤ dg → 0 ≤ st → 0 ≤ x → x < top → Q (.int x t) { s with heap := h, toks := tk })) :
    wpAny (model PySem.Challenge.rw_pc0361_01.row.prog w) (ktrTop dp un gd cn cs L a ccd cl outer) (call (.ref 180) [.ref d, .int top tt]) Q E s := by
  obtain ⟨pre, post, rfl, hg, a', b'⟩ := U.split
  refine next_spec w _ _ _ _ _ _ _ _ _ _ _ _ _ _ _ _ _ _ Q E d o kvs dg st top tt (pre ++ post) B F X (news_split N) (off_one a' b') T hk hdp hun sm hd' hf h0 h1 ht ht2 ?_
  intro x t o' kvs' dg' st' h tk F' N' hd2 hf2 p1 p2 q1 q2
  exact ret x t o' kvs' dg' st' h tk F' (by rw [hg]; exact news_join N') hd2 hf2 p1 p2 q1 q2
theorem item_any {prog : Program} {w : World} {A : Around} {E : Value → Shared → Prop} {s : Shared} {h₀ : Heap} {L l : Addr} {news : List (Addr × Obj)} {value slice : PySem.Expr} {vs : List Value} {ns : List Int} {c : Nat} {k : Int} {u : Tok} {Q : Value → Shared → Prop}
    (N : News h₀ L s.heap news) (hm : (l, listOf vs.toArray c) ∈ news) (hi : IntsAre vs ns) (h0 : 0 ≤ k) (h1 : k < (ns.length : Int)) (hfit : k < 2 ^ 63) (h : ∀ x t, x ∈ ns → Q (.int x t) s)
    (hs : subscripted slice false (.ref l) (.int k u) = operate [.ref l, .int k u] (getItem (.ref l) (.int k u)) := by with_unfolding_all rfl) :
    wpAny (model prog w) A (subscriptTail value slice (.ref l) (.int k u)) Q E s := by
  have hl : s.heap.IsList l vs.toArray := ⟨_, (N _ hm).1, rfl, c, rfl⟩
  have hk : k.toNat < ns.length := by omega
  obtain ⟨t, hx⟩ := hi.get k.toNat ns[k.toNat] (List.getElem?_eq_getElem hk)
  exact tail_any hl.typeIs slot_list_getitem.lookup (wpAny_getItem_list hl h0 hfit (by simpa using hx) (h _ t (List.getElem_mem hk))) hs
set_option maxRecDepth 100000 in
set_option maxHeartbeats 4000000 in
theorem pick_spec (w : World) : ∀ (mean : ExcName → Option Value) (mg mb : Str → Option Value) (dp un : Nat) (gd : Option (List Code)) (cn : Str) (cs : Scope) (a : Addr) (ccd : Value) (cl : List (Str × Addr)) (outer : List Env) (A₀ : Around) (base h₀ : Heap) (L : Addr) (m : Str → Option Value) (s : Shared) (Q E : Value → Shared → Prop) (d l : Addr) (o : Obj) (kvs : List (Str × Value)) (dg st : Int) (vs : List Value) (ns : List Int) (c : Nat) (rest : List (Addr × Obj)),
    Below A₀ base outer h₀ → Fr h₀ L s.heap m → (hd.heap_39 w.params).In h₀ → News h₀ L s.heap ((d, o) :: (l, listOf vs.toArray c) :: rest) → OwnOff rest [d, l] → Top hd.view_39 (looseW hd.view_39 [Str.ofString "SettingError"]) mean mg mb h₀ → cs.kind = .function → dp + 2 < recursionLimit → un + 16 < cLine → 
    @Ne Nat d l → IntsAre vs ns → 0 < (ns.length : Int) → (ns.length : Int) < 1000 → (d == sysModules) = false → o.IsDictOf (strKind PySem.Challenge.rw_pc0361_01.row.prog w) kvs → FlatPairs PyData.str kvs (srcD dg st) → 0 ≤ dg → 0 ≤ st → 
    (∀ (x : Int) (t : Tok) (o : Obj) (kvs : List (Str × Value)) (dg st : Int) (h : Heap) (tk : Nat), Fr h₀ L h m → News h₀ L h ((d, o) :: (l, listOf vs.toArray c) :: rest) →
      o.IsDictOf (strKind PySem.Challenge.rw_pc0361_01.row.prog w) kvs → FlatPairs PyData.str kvs (srcD dg st) → 0 ≤ dg → 0 ≤ st → x ∈ ns → Q (.int x t) { s with heap := h, toks := tk }) →
    wpAny (model PySem.Challenge.rw_pc0361_01.row.prog w) (ktrTop dp un gd cn cs L a ccd cl outer) (call (.ref 187) [.ref d, .ref l]) Q E s := by
  w_on
  k_fill
  intro mean mg mb dp un gd cn cs a ccd cl outer A₀ base h₀ L m s Q E d l o kvs dg st vs ns c rest B F X N off T hk hdp hun hne hi hl0 hl1 sm hd' hf h0 h1 ret
  have hmark : KstMark := kstMark
  refine wpAny_call ?_
  k_dflt cell_enter
  repeat' (first | (k_unfold; (try dsimp only)) | (k_end; wrow_close) | ((with_reducible show wpAny _ _ (PySem.call _ _) _ _ _); first | with_reducible (k_here; (with_reducible show wpAny _ _ (PySem.call (Value.ref 180) [Value.ref _, Value.int _ _]) _ _ _); k_dflt (refine' Mine.next_use ?zzB ?zzF ?zzX ?zzN ?zzT ?zzk ?zzp ?zzq ?zzU ?zzsm ?zzd ?zzf ?zzx0 ?zzx1 ?zzx2 ?zzx3 ?_; (case zzB => k_asm); (case zzF => k_asm); (case zzX => k_asm); (case zzN => k_asm); (case zzT => k_asm); (case zzk => first | exact rfl | assumption); (case zzp => ktr_room); (case zzq => ktr_units); (case zzU => k_updF); (case zzsm => assumption); (case zzd => assumption); (case zzf => assumption); (case zzx0 => assumption); (case zzx1 => assumption); (case zzx2 => (first | decide | omega)); (case zzx3 => (first | decide | omega))); intro x' t' o' kvs' dg' st' h' tk' F' N' hd' hf' p1 p2 q1 q2; (try simp only [List.nil_append, List.cons_append, List.append_nil] at N'); (try dsimp only at N'); (try k_sweep); (try dsimp only); (try k_fold); walk_say "USED next")) | (with_reducible (k_here; (with_reducible show wpAny _ _ (subscriptTail _ _ (Value.ref _) (Value.int _ _)) _ _ _); k_dflt (refine' Mine.item_any ?zzN ?zzm ?zzi ?zza ?zzb ?zzc ?_; (case zzN => k_asm); (case zzm => k_mem); (case zzi => assumption); (case zza => omega); (case zzb => omega); (case zzc => omega)); intro xi ti hxi)) | walk1 | (dsimp only; walk1) | (leave1; walk_say "STEP leave1"; try dsimp only) | fail "no step")
  all_goals exact ret _ _ _ _ _ _ _ _ (by k_asm) (cb_drop (by k_asm) (by kcj_all)) (by assumption) (by assumption) (by assumption) (by assumption) (by assumption)
end Mine

end
section
-- part S3
namespace Mine
open PySem.Spec PySem.Calls PyProof.V
set_option maxRecDepth 100000 in
set_option maxHeartbeats 1000000 in
theorem filled_spec (w : World) : ∀ (mean : ExcName → Option Value) (mg mb : Str → Option Value) (dp un : Nat) (gd : Option (List Code)) (cn : Str) (cs : Scope) (a : Addr) (ccd : Value) (cl : List (Str × Addr)) (outer : List Env) (A₀ : Around) (base h₀ : Heap) (L : Addr) (m : Str → Option Value) (s : Shared) (Q E : Value → Shared → Prop) (d : Addr) (o : Obj) (kvs : List (Str × Value)) (r mo g t now : Int) (tt : Tok) (rest : List (Addr × Obj)),
    Below A₀ base outer h₀ → Fr h₀ L s.heap m → (hd.heap_39 w.params).In h₀ → News h₀ L s.heap ((d, o) :: rest) → OwnOff rest [d] → Top hd.view_39 (looseW hd.view_39 [Str.ofString "SettingError"]) mean mg mb h₀ → cs.kind = .function → dp + 1 < recursionLimit → un + 8 < cLine → 
    (d == sysModules) = false → o.IsDictOf (strKind PySem.Challenge.rw_pc0361_01.row.prog w) kvs → FlatPairs PyData.str kvs (ownD r mo g t) →  0 ≤ r → g ≤ mo →
    (∀ (tx : Tok) (o : Obj) (kvs : List (Str × Value)) (h : Heap) (tk : Nat), Fr h₀ L h m → News h₀ L h ((d, o) :: rest) →
      o.IsDictOf (strKind PySem.Challenge.rw_pc0361_01.row.prog w) kvs → FlatPairs PyData.str kvs (ownD r mo (fG r mo g t now) (fT t now)) →  Q (.int (fX r mo g t now) tx) { s with heap := h, toks := tk }) →
    wpAny (model PySem.Challenge.rw_pc0361_01.row.prog w) (ktrTop dp un gd cn cs L a ccd cl outer) (call (.ref 194) [.ref d, .int now tt]) Q E s := by
  w_on
  k_fill
  intro mean mg mb dp un gd cn cs a ccd cl outer A₀ base h₀ L m s Q E d o kvs r mo g t now tt rest B F X N off T hk hdp hun sm hd' hf hr hg ret
  have hmark : KstMark := kstMark
  refine wpAny_call ?_
  k_dflt cell_enter
  repeat' (first | (k_unfold; (try dsimp only)) | (k_end; wrow_close) | ((with_reducible show KswEnd _ _ _ _ _ _ _ _ _ _ _ _); first | with_reducible (refine Mine.stop_of ?_) | (refine Mine.stop_of ?_)) | ((with_reducible show wpAny _ _ (PySem.exec (Stmt.While _ _ _ _) _) _ _ _); first | with_reducible (refine Mine.stop_of ?_) | (refine Mine.stop_of ?_)) | walk1 | (dsimp only; walk1) | (leave1; walk_say "STEP leave1"; try dsimp only) | fail "no step")
  unfold Stop
  (rename Fr _ _ _ _ => lF); (rename News _ _ _ _ => lN)
  refine ksw_while (σ := Obj × List (Str × Value) × Int × Tok × Int × Int) (fun c => (d, c.1) :: rest) (fun c => [(Str.ofString "lost", .int c.2.2.1 c.2.2.2.1)])
    (fun c => c.1.IsDictOf (strKind PySem.Challenge.rw_pc0361_01.row.prog w) c.2.1 ∧ FlatPairs PyData.str c.2.1 (ownD r mo c.2.2.2.2.1 c.2.2.2.2.2)) [] (fun c => Fil r mo g t now c.2.2.1 c.2.2.2.2.1 c.2.2.2.2.2) (fun c => (now - c.2.2.2.2.2).toNat) (o, kvs, 0, _, g, t) lF lN ⟨hd', hf⟩ (fun p hp => by rw [List.mem_singleton.mp hp]; with_unfolding_all rfl) (fil_start hg) ?_
  rintro ⟨o1, kvs1, lost, tl, g1, t1⟩ u h1 tk1 ⟨hd1, hf1⟩ hP F1 N1
  clear lF lN
  dsimp only [kstB] at F1 N1 hP hf1 hd1 ⊢
  k_fold
  repeat' (first | (k_unfold; (try dsimp only)) | (k_end; wrow_close) | ((with_reducible show KswEnd _ _ _ _ _ _ _ _ _ _ _ _); first | with_reducible (refine Mine.stop_of ?_) | (refine Mine.stop_of ?_)) | ((with_reducible show wpAny _ _ (PySem.exec (Stmt.While _ _ _ _) _) _ _ _); first | with_reducible (refine Mine.stop_of ?_) | (refine Mine.stop_of ?_)) | walk1 | (dsimp only; walk1) | (leave1; walk_say "STEP leave1"; try dsimp only) | fail "no step")
  all_goals first
    | (obtain ⟨e1, e2, e3⟩ := fil_end hP (by assumption)
       subst e1 e2 e3
       exact ret _ _ _ _ _ (by k_asm) (cb_drop (by k_asm) (by kcj_all)) (by assumption) (by assumption))
    | (unfold Stop
       refine ksw_end (_, _, _, _, _, _) (by k_asm) (cb_drop (by k_asm) (by kcj_all)) (fun p hp => hp) ⟨by assumption, by with_unfolding_all assumption⟩ (fun p hp => by rw [List.mem_singleton.mp hp]; with_unfolding_all rfl) (by ksw_same) ?_ ?_
       · first | exact fil_over hr hP (by assumption) (by assumption) | exact fil_under hr hP (by assumption) (by assumption)
       · (dsimp only; omega))
end Mine

end
section
-- part S4
namespace Mine
open PySem.Spec PySem.Calls PyProof.V
set_option maxRecDepth 100000 in
set_option maxHeartbeats 2000000 in
theorem fill_spec (w : World) : ∀ (mean : ExcName → Option Value) (mg mb : Str → Option Value) (dp un : Nat) (gd : Option (List Code)) (cn : Str) (cs : Scope) (a : Addr) (ccd : Value) (cl : List (Str × Addr)) (outer : List Env) (A₀ : Around) (base h₀ : Heap) (L : Addr) (m : Str → Option Value) (s : Shared) (Q E : Value → Shared → Prop) (x dx : Addr) (k1 k2 k3 k4 tr tb tg tt : Tok) (r b g t now : Int) (tn : Tok) (rest : List (Addr × Obj)),
    Below A₀ base outer h₀ → Fr h₀ L s.heap m → (hd.heap_39 w.params).In h₀ → News h₀ L s.heap ((x, instObj 120 dx) :: (dx, bktO w k1 k2 k3 k4 tr tb tg tt r b g t) :: rest) → OwnOff rest [x, dx] → Top hd.view_39 (looseW hd.view_39 [Str.ofString "SettingError"]) mean mg mb h₀ → cs.kind = .function → dp + 2 < recursionLimit → un + 16 < cLine → 
    @Ne Nat x dx → 0 ≤ r → r ≤ 1000 → g ≤ b * 100 →
    (∀ (tx tg tt : Tok) (h : Heap) (tk : Nat), Fr h₀ L h m → News h₀ L h ((x, instObj 120 dx) :: (dx, bktO w k1 k2 k3 k4 tr tb tg tt r b (fG r (b * 100) g t now) (fT t now)) :: rest) →
      Q (.int (fX r (b * 100) g t now) tx) { s with heap := h, toks := tk }) →
    wpAny (model PySem.Challenge.rw_pc0361_01.row.prog w) (ktrTop dp un gd cn cs L a ccd cl outer) (call (.ref 75) [.ref x, .int now tn]) Q E s := by
  w_on
  k_fill
  intro mean mg mb dp un gd cn cs a ccd cl outer A₀ base h₀ L m s Q E x dx k1 k2 k3 k4 tr tb tg tt r b g t now tn rest B F X N off T hk hdp hun hne hr hr2 hg ret
  have hmark : KstMark := kstMark
  refine wpAny_call ?_
  k_dflt cell_enter
  repeat' (first | (k_unfold; (try dsimp only)) | (k_end; wrow_close) | ((with_reducible show wpAny _ _ (PySem.binaryOp Operator.Mult (Value.int _ _) (Value.int _ _)) _ _ _); first | with_reducible (k_here; (with_reducible refine mul_int ?_ (IntMulOk.of_left (intBits_le_iff.mpr (by omega))))) | (k_here; (with_reducible refine mul_int ?_ (IntMulOk.of_left (intBits_le_iff.mpr (by omega)))))) | walk1 | (dsimp only; walk1) | (leave1; walk_say "STEP leave1"; try dsimp only) | fail "no step")
  all_goals first
    | (obtain ⟨e1, e2, e3⟩ := fill_idle (r := r) hg (show now ≤ t by assumption)
       rw [← e1, ← e2, ← e3] at ret
       exact ret _ _ _ _ _ (by k_asm) (cb_drop (by k_asm) (by kcj_all)))
    | (obtain ⟨e1, e2⟩ := fill_runs (r := r) (mo := 0) (g := g) (show ¬ now ≤ t by assumption)
       simp only [fX, fG] at ret
       rw [← e1, ← e2] at ret
       exact ret _ _ _ _ _ (by k_asm) (cb_drop (by k_asm) (by kcj_all)))
set_option maxRecDepth 100000 in
set_option maxHeartbeats 2000000 in
theorem fill_still (w : World) : ∀ (mean : ExcName → Option Value) (mg mb : Str → Option Value) (dp un : Nat) (gd : Option (List Code)) (cn : Str) (cs : Scope) (a : Addr) (ccd : Value) (cl : List (Str × Addr)) (outer : List Env) (A₀ : Around) (base h₀ : Heap) (L : Addr) (m : Str → Option Value) (s : Shared) (Q E : Value → Shared → Prop) (x dx : Addr) (k1 k2 k3 k4 tr tb tg tt : Tok) (r b g t now : Int) (tn : Tok) (rest : List (Addr × Obj)),
    Below A₀ base outer h₀ → Fr h₀ L s.heap m → (hd.heap_39 w.params).In h₀ → News h₀ L s.heap ((x, instObj 120 dx) :: (dx, bktO w k1 k2 k3 k4 tr tb tg tt r b g t) :: rest) → OwnOff rest [x, dx] → Top hd.view_39 (looseW hd.view_39 [Str.ofString "SettingError"]) mean mg mb h₀ → cs.kind = .function → dp + 2 < recursionLimit → un + 16 < cLine → 
    @Ne Nat x dx → now ≤ t →
    (∀ (tx : Tok) (h : Heap) (tk : Nat), Fr h₀ L h m → News h₀ L h ((x, instObj 120 dx) :: (dx, bktO w k1 k2 k3 k4 tr tb tg tt r b g t) :: rest) →
      Q (.int 0 tx) { s with heap := h, toks := tk }) →
    wpAny (model PySem.Challenge.rw_pc0361_01.row.prog w) (ktrTop dp un gd cn cs L a ccd cl outer) (call (.ref 75) [.ref x, .int now tn]) Q E s := by
  w_on
  k_fill
  intro mean mg mb dp un gd cn cs a ccd cl outer A₀ base h₀ L m s Q E x dx k1 k2 k3 k4 tr tb tg tt r b g t now tn rest B F X N off T hk hdp hun hne hnow ret
  have hmark : KstMark := kstMark
  refine wpAny_call ?_
  k_dflt cell_enter
  repeat' (first | (k_unfold; (try dsimp only)) | (k_end; wrow_close) | ((with_reducible show wpAny _ _ (PySem.binaryOp Operator.Mult (Value.int _ _) (Value.int _ _)) _ _ _); first | with_reducible (k_here; (with_reducible refine mul_int ?_ (IntMulOk.of_left (intBits_le_iff.mpr (by omega))))) | (k_here; (with_reducible refine mul_int ?_ (IntMulOk.of_left (intBits_le_iff.mpr (by omega)))))) | walk1 | (dsimp only; walk1) | (leave1; walk_say "STEP leave1"; try dsimp only) | fail "no step")
  all_goals first
    | exact ret _ _ _ (by k_asm) (cb_drop (by k_asm) (by kcj_all))
    | (exfalso; omega)
end Mine

end
section
-- part S5
namespace Mine
open PySem.Spec PySem.Calls PyProof.V
theorem two_split {h₀ h : Heap} {L x dx : Addr} {o ox : Obj} {news : List (Addr × Obj)} {g : Obj → List (Addr × Obj)} (N : News h₀ L h news) (U : UpdF dx o news g) (hx : (x, ox) ∈ news) (hne : @Ne Nat x dx) :
    ∃ rest, OwnOff rest [x, dx] ∧ News h₀ L h ((x, ox) :: (dx, o) :: rest) ∧ ∀ h' o', News h₀ L h' ((x, ox) :: (dx, o') :: rest) → News h₀ L h' (g o') := by
  obtain ⟨pre, post, rfl, hg, a, b⟩ := U.split
  refine ⟨(pre ++ post).filter (fun p => decide (@Ne Nat p.1 x)), ?_, ?_, ?_⟩
  · intro p hp q hq
    obtain ⟨h1, h2⟩ := List.mem_filter.mp hp
    rcases List.mem_cons.mp hq with rfl | hq
    · exact of_decide_eq_true h2
    · rw [List.mem_singleton.mp hq]
      rcases List.mem_append.mp h1 with h | h
      · exact a p h
      · exact b p h
  · intro p hp
    rcases List.mem_cons.mp hp with rfl | hp
    · exact N _ hx
    · rcases List.mem_cons.mp hp with rfl | hp
      · exact N _ (List.mem_append_right _ (.head _))
      · refine N p ?_
        rcases List.mem_append.mp (List.mem_filter.mp hp).1 with h | h
        · exact List.mem_append_left _ h
        · exact List.mem_append_right _ (.tail _ h)
  · intro h' o' N' p hp
    rw [hg] at hp
    have old : ∀ q, q ∈ pre ++ post → h'.get? q.1 = some q.2 ∧ q.1 ≠ L ∧ h₀.get? q.1 = none := by
      intro q hq
      by_cases e : @Eq Nat q.1 x
      · have h1 : (q.1, q.2) = (x, ox) := by
          have e1 : h.get? q.1 = some q.2 := (N q (by rcases List.mem_append.mp hq with h | h; exact List.mem_append_left _ h; exact List.mem_append_right _ (.tail _ h))).1
          have e2 : h.get? x = some ox := (N _ hx).1
          have e' : q.1 = x := e
          rw [e'] at e1
          rw [e1] at e2
          rw [e', Option.some.inj e2]
        have h2 : q = (x, ox) := h1
        rw [h2]
        exact N' _ (.head _)
      · exact N' q (.tail _ (.tail _ (List.mem_filter.mpr ⟨hq, decide_eq_true e⟩)))
    rcases List.mem_append.mp hp with h | h
    · exact old p (List.mem_append_left _ h)
    · rcases List.mem_cons.mp h with rfl | h
      · exact N' _ (.tail _ (.head _))
      · exact old p (List.mem_append_right _ h)
theorem pick_use {w : World} {mean : ExcName → Option Value} {mg mb : Str → Option Value} {dp un : Nat} {gd : Option (List Code)} {cn : Str} {cs : Scope} {a : Addr} {ccd : Value} {cl : List (Str × Addr)} {outer : List Env} {A₀ : Around} {base h₀ : Heap} {L : Addr} {m : Str → Option Value} {s : Shared} {Q E : Value → Shared → Prop} {d l : Addr} {o : Obj} {kvs : List (Str × Value)} {dg st : Int} {vs : List Value} {c : Nat} {news : List (Addr × Obj)} {g : Obj → List (Addr × Obj)} (ns : List Int) (lo hi : Int)
    (B : Below A₀ base outer h₀) (F : Fr h₀ L s.heap m) (X : (hd.heap_39 w.params).In h₀) (N : News h₀ L s.heap news) (T : Top hd.view_39 (looseW hd.view_39 [Str.ofString "SettingError"]) mean mg mb h₀) (hk : cs.kind = .function) (hdp : dp + 2 < recursionLimit) (hun : un + 16 < cLine) (U : UpdF d o news g) (hm : (l, listOf vs.toArray c) ∈ news) (hne : @Ne Nat l d) (hi' : IntsAre vs ns) (hl0 : 0 < (ns.length : Int)) (hl1 : (ns.length : Int) < 1000) (sm : (d == sysModules) = false) (hd' : o.IsDictOf (strKind PySem.Challenge.rw_pc0361_01.row.prog w) kvs) (hf : FlatPairs PyData.str kvs (srcD dg st)) (h0 : 0 ≤ dg) (h1 : 0 ≤ st) (hb : ∀ x ∈ ns, lo ≤ x ∧ x ≤ hi)
    (ret : (∀ (x : Int) (t : Tok) (o : Obj) (kvs : List (Str × Value)) (dg st : Int) (h : Heap) (tk : Nat), Fr h₀ L h m → News h₀ L h (g o) →
      o.IsDictOf (strKind PySem.Challenge.rw_pc0361_01.row.prog w) kvs → FlatPairs PyData.str kvs (srcD dg st) → 0 ≤ dg → 0 ≤ st → lo ≤ x → x ≤ hi → Q (.int x t) { s with heap := h, toks := tk })) :
    wpAny (model PySem.Challenge.rw_pc0361_01.row.prog w) (ktrTop dp un gd cn cs L a ccd cl outer) (call (.ref 187) [.ref d, .ref l]) Q E s := by
  obtain ⟨rest, off, N1, back⟩ := two_split N U hm hne
  refine pick_spec w _ _ _ _ _ _ _ _ _ _ _ _ _ _ _ _ _ _ Q E d l o kvs dg st vs ns c rest B F X (fun p hp => N1 p ?_) ?_ T hk hdp hun (Ne.symm hne) hi' hl0 hl1 sm hd' hf h0 h1 ?_
  · simp only [List.mem_cons] at hp ⊢
    rcases hp with h | h | h <;> simp [h]
  · intro p hp q hq
    refine off p hp q ?_
    simp only [List.mem_cons, List.not_mem_nil, or_false] at hq ⊢
    rcases hq with h | h <;> simp [h]
  · intro x t o' kvs' dg' st' h tk F' N' hd2 hf2 p1 p2 hx
    refine ret x t o' kvs' dg' st' h tk F' (back h o' fun p hp => N' p ?_) hd2 hf2 p1 p2 (hb x hx).1 (hb x hx).2
    simp only [List.mem_cons] at hp ⊢
    rcases hp with h | h | h <;> simp [h]
theorem filled_use {w : World} {mean : ExcName → Option Value} {mg mb : Str → Option Value} {dp un : Nat} {gd : Option (List Code)} {cn : Str} {cs : Scope} {a : Addr} {ccd : Value} {cl : List (Str × Addr)} {outer : List Env} {A₀ : Around} {base h₀ : Heap} {L : Addr} {m : Str → Option Value} {s : Shared} {Q E : Value → Shared → Prop} {d : Addr} {o : Obj} {kvs : List (Str × Value)} {r mo gr t now : Int} {tt : Tok} {news : List (Addr × Obj)} {g : Obj → List (Addr × Obj)}
    (B : Below A₀ base outer h₀) (F : Fr h₀ L s.heap m) (X : (hd.heap_39 w.params).In h₀) (N : News h₀ L s.heap news) (T : Top hd.view_39 (looseW hd.view_39 [Str.ofString "SettingError"]) mean mg mb h₀) (hk : cs.kind = .function) (hdp : dp + 1 < recursionLimit) (hun : un + 8 < cLine) (U : UpdF d o news g) (sm : (d == sysModules) = false) (hd' : o.IsDictOf (strKind PySem.Challenge.rw_pc0361_01.row.prog w) kvs) (hf : FlatPairs PyData.str kvs (ownD r mo gr t)) (hr : 0 ≤ r) (hg : gr ≤ mo)
    (ret : ∀ (tx : Tok) (o : Obj) (kvs : List (Str × Value)) (h : Heap) (tk : Nat), Fr h₀ L h m → News h₀ L h (g o) →
      o.IsDictOf (strKind PySem.Challenge.rw_pc0361_01.row.prog w) kvs → FlatPairs PyData.str kvs (ownD r mo (fG r mo gr t now) (fT t now)) →  t ≤ fT t now → now ≤ fT t now → fG r mo gr t now ≤ mo → Q (.int (fX r mo gr t now) tx) { s with heap := h, toks := tk }) :
    wpAny (model PySem.Challenge.rw_pc0361_01.row.prog w) (ktrTop dp un gd cn cs L a ccd cl outer) (call (.ref 194) [.ref d, .int now tt]) Q E s := by
  obtain ⟨pre, post, rfl, hg', a', b'⟩ := U.split
  refine filled_spec w _ _ _ _ _ _ _ _ _ _ _ _ _ _ _ _ _ _ Q E d o kvs r mo gr t now tt (pre ++ post) B F X (news_split N) (off_one a' b') T hk hdp hun sm hd' hf hr hg ?_
  intro tx o' kvs' h tk F' N' hd2 hf2
  exact ret tx o' kvs' h tk F' (by rw [hg']; exact news_join N') hd2 hf2 (fT_ge t now).1 (fT_ge t now).2.1 (fG_le r mo gr t now)
theorem fill_use {w : World} {mean : ExcName → Option Value} {mg mb : Str → Option Value} {dp un : Nat} {gd : Option (List Code)} {cn : Str} {cs : Scope} {a : Addr} {ccd : Value} {cl : List (Str × Addr)} {outer : List Env} {A₀ : Around} {base h₀ : Heap} {L : Addr} {m : Str → Option Value} {s : Shared} {Q E : Value → Shared → Prop} {x dx : Addr} {k1 k2 k3 k4 tr tb tg tt : Tok} {r b gr t now : Int} {tn : Tok} {news : List (Addr × Obj)} {g : Obj → List (Addr × Obj)}
    (B : Below A₀ base outer h₀) (F : Fr h₀ L s.heap m) (X : (hd.heap_39 w.params).In h₀) (N : News h₀ L s.heap news) (T : Top hd.view_39 (looseW hd.view_39 [Str.ofString "SettingError"]) mean mg mb h₀) (hk : cs.kind = .function) (hdp : dp + 2 < recursionLimit) (hun : un + 16 < cLine) (U : UpdF dx (bktO w k1 k2 k3 k4 tr tb tg tt r b gr t) news g) (hm : (x, instObj 120 dx) ∈ news) (hne : @Ne Nat x dx) (hr : 0 ≤ r) (hr2 : r ≤ 1000) (hg : gr ≤ 100 * b)
    (ret : ∀ (tx tg tt : Tok) (h : Heap) (tk : Nat), Fr h₀ L h m → News h₀ L h (g (bktO w k1 k2 k3 k4 tr tb tg tt r b (fG r (100 * b) gr t now) (fT t now))) → t ≤ fT t now → now ≤ fT t now → fG r (100 * b) gr t now ≤ 100 * b → Q (.int (fX r (100 * b) gr t now) tx) { s with heap := h, toks := tk }) :
    wpAny (model PySem.Challenge.rw_pc0361_01.row.prog w) (ktrTop dp un gd cn cs L a ccd cl outer) (call (.ref 75) [.ref x, .int now tn]) Q E s := by
  obtain ⟨rest, off, N1, back⟩ := two_split N U hm hne
  rw [Int.mul_comm] at hg
  refine fill_spec w _ _ _ _ _ _ _ _ _ _ _ _ _ _ _ _ _ _ Q E x dx k1 k2 k3 k4 tr tb tg tt r b gr t now tn rest B F X N1 off T hk hdp hun hne hr hr2 hg ?_
  rw [Int.mul_comm b 100]
  intro tx tg tt h tk F' N'
  exact ret tx tg tt h tk F' (back _ _ N') (fT_ge t now).1 (fT_ge t now).2.1 (fG_le r (100 * b) gr t now)
theorem still_use {w : World} {mean : ExcName → Option Value} {mg mb : Str → Option Value} {dp un : Nat} {gd : Option (List Code)} {cn : Str} {cs : Scope} {a : Addr} {ccd : Value} {cl : List (Str × Addr)} {outer : List Env} {A₀ : Around} {base h₀ : Heap} {L : Addr} {m : Str → Option Value} {s : Shared} {Q E : Value → Shared → Prop} {x dx : Addr} {k1 k2 k3 k4 tr tb tg tt : Tok} {r b gr t now : Int} {tn : Tok} {news : List (Addr × Obj)} {g : Obj → List (Addr × Obj)}
    (B : Below A₀ base outer h₀) (F : Fr h₀ L s.heap m) (X : (hd.heap_39 w.params).In h₀) (N : News h₀ L s.heap news) (T : Top hd.view_39 (looseW hd.view_39 [Str.ofString "SettingError"]) mean mg mb h₀) (hk : cs.kind = .function) (hdp : dp + 2 < recursionLimit) (hun : un + 16 < cLine) (U : UpdF dx (bktO w k1 k2 k3 k4 tr tb tg tt r b gr t) news g) (hm : (x, instObj 120 dx) ∈ news) (hne : @Ne Nat x dx) (hnow : now ≤ t)
    (ret : ∀ (tx : Tok) (h : Heap) (tk : Nat), Fr h₀ L h m → News h₀ L h (g (bktO w k1 k2 k3 k4 tr tb tg tt r b gr t)) → Q (.int 0 tx) { s with heap := h, toks := tk }) :
    wpAny (model PySem.Challenge.rw_pc0361_01.row.prog w) (ktrTop dp un gd cn cs L a ccd cl outer) (call (.ref 75) [.ref x, .int now tn]) Q E s := by
  obtain ⟨rest, off, N1, back⟩ := two_split N U hm hne
  refine fill_still w _ _ _ _ _ _ _ _ _ _ _ _ _ _ _ _ _ _ Q E x dx k1 k2 k3 k4 tr tb tg tt r b gr t now tn rest B F X N1 off T hk hdp hun hne hnow ?_
  intro tx h tk F' N'
  exact ret tx h tk F' (back _ _ N')
theorem ints4 {a b c d : Int} {ta tb tc td : Tok} : IntsAre [.int a ta, .int b tb, .int c tc, .int d td] [a, b, c, d] := (.cons _ _ (.cons _ _ (.cons _ _ (.cons _ _ .nil))))
theorem ints6 {a b c d e f : Int} {ta tb tc td te tf : Tok} : IntsAre [.int a ta, .int b tb, .int c tc, .int d td, .int e te, .int f tf] [a, b, c, d, e, f] := (.cons _ _ (.cons _ _ (.cons _ _ (.cons _ _ (.cons _ _ (.cons _ _ .nil))))))
theorem ints7 {a b c d e f g : Int} {ta tb tc td te tf tg : Tok} : IntsAre [.int a ta, .int b tb, .int c tc, .int d td, .int e te, .int f tf, .int g tg] [a, b, c, d, e, f, g] := (.cons _ _ (.cons _ _ (.cons _ _ (.cons _ _ (.cons _ _ (.cons _ _ (.cons _ _ .nil)))))))
theorem size_bounds {b : Int} (h1 : 1 ≤ b) (h2 : b ≤ 64) : ∀ x ∈ [0, 1, 7, 20, 64, (100 * b).fdiv 100, (100 * b).fdiv 100 + 1], 0 ≤ x ∧ x ≤ 65 := by
  have e : (100 * b).fdiv 100 = b := Int.mul_fdiv_cancel_left b (by decide)
  rw [e]
  intro x hx
  simp only [List.mem_cons, List.not_mem_nil, or_false] at hx
  omega
end Mine

end
section
-- part E1
set_option maxRecDepth 100000
namespace Mine
open PySem.Spec PySem.Calls PyProof.V
abbrev bmS : List Value := [.ref 31, .type "Exception", .type "BaseException", .type "object"]
abbrev clsS : Obj := excClassObj (Str.ofString "SettingError") (Str.ofString "SettingError") 52 51 [.ref 31] bmS true [] [] false none none (some (.ref 35)) none (some (.str (Str.ofString "SettingError") 218)) (some (.str (Str.ofString "SettingError") 226)) (some (.bool true)) "Exception.__new__"
theorem cls_at {p : Params} {h : Heap} (X : (hd.heap_39 p).In h) : h.get? 52 = some clsS := X 52 _ (by kernel_rfl)
section
variable {prog : Program} {w : World} {A : Around} {R : Result → Shared → Prop} {h : Heap} {g : Array GenState} {d : Drawn} {t : Nat} {os : OsState}
theorem s_checkNew {M : Model} {E : Value → Shared → Prop} {v : Value} {Q : Unit → Shared → Prop} (hC : h.get? 52 = some clsS) (hq : Q () ⟨h, g, d, t, os⟩) :
    wpAny M A (checkBuiltinCall "Exception.__new__" ⟨[.ref 52, v], []⟩) Q E ⟨h, g, d, t, os⟩ := by
  have hin : (Value.ref 52 :: bmS).contains (.type "Exception") = true := by decide +kernel
  simp only [checkBuiltinCall, PySem.F.excBase_Exception.newKind, PySem.F.excBase_Exception.newSplit, PySem.F.excBase_Exception.newRow]
  have hstar := PySem.F.excBase_Exception.noStar
  repeat (first | refine wpAny_loadPart_at hC ?_ | (refine wpAny_isSubtype_exc hC ?_; rw [hin]) | refine wpAny_staticBase_exc hC ?_ | refine wpAny_madeBy_exc hC ?_ | simp only [bne_self_eq_false, Bool.false_eq_true, if_false] | wp_step)
  exact hq
theorem s_new {v : Value} (hC : h.get? 52 = some clsS)
    (hq : R (.ok (.ret (.ref (h.objs.size + 1)))) ⟨(h.push { cls := .type "tuple", data := .seq #[v] }).push { cls := .ref 52, data := .fields #[.ref h.objs.size, .none, .none, .none, .bool false, .none] }, g, d, t, os⟩) :
    codeAny (model prog w) A (.builtin "Exception.__new__" ⟨[.ref 52, v], []⟩) R ⟨h, g, d, t, os⟩ := by
  have FB := PySem.F.excBase_Exception
  have hends := FB.ends
  have hrest : [v].length ≤ sizeLine := by rw [sizeLine_eq, List.length_singleton]; decide
  have i1 : (Value.ref 52 :: bmS).contains (.type "Exception") = true := by decide +kernel
  have i2 : (Value.ref 52 :: bmS).contains (.type "AttributeError") = false := by decide +kernel
  have i3 : (Value.ref 52 :: bmS).contains (.type "NameError") = false := by decide +kernel
  refine PySem.codeAny_builtinAt FB.entry ?_
  unfold Builtin.«BaseException.__new__»
  refine PySem.wpAt_bind ?_
  show PySem.wpAt _ _ _ (stack >>= _) _ _ _
  refine PySem.wpAt_bind (PySem.wpAt_stack fun p below => PySem.wpAt_of_wpAny ?_)
  wp_walk
  refine PySem.wpAt_of_wpAny ?_
  rw [FB.owner]
  repeat (first | with_reducible refine wpAny_madeHere_exc FB.canon hC ?_ | with_reducible refine wpAny_loadPart_at hC ?_ | (with_reducible refine wpAny_isSubtype_exc hC ?_; first | rw [i1] | rw [i2] | rw [i3]) | wp_step)
  show R _ _
  rw [Heap.size_push]
  exact hq
theorem s_typeCall {v : Value} {E : Value → Shared → Prop} {Q : PySem.Fin → Shared → Prop} (X : (hd.heap_39 w.params).In h)
    (hq : codeAny (model prog w) A (.call (.ref 49) ⟨[.ref (h.objs.size + 1), v], []⟩) (fun r s' => match r with
        | .ok (.ret u) => u = .none ∧ Q (.done (.ret (.ref (h.objs.size + 1)))) s'
        | .ok _ => False
        | .error e => E e s')
      ⟨(h.push { cls := .type "tuple", data := .seq #[v] }).push { cls := .ref 52, data := .fields #[.ref h.objs.size, .none, .none, .none, .bool false, .none] }, g, d, t, os⟩) :
    wpAny (model prog w) A (Builtin.«type.__call__» ⟨[.ref 52, v], []⟩) Q E ⟨h, g, d, t, os⟩ := by
  have hC := cls_at X
  repeat (first | with_reducible refine wpAny_loadPart_at hC ?_ | with_reducible refine wpAny_madeBy_exc hC ?_ | wp_step)
  refine PySem.codeAny_call_builtin_code (Code.quiet_builtin _ PySem.F.excBase_Exception.quiet) (s_checkNew hC ?_)
  refine s_new hC ?_
  show wpAny _ _ _ _ _ _
  have k : ∀ b o, h.get? b = some o → ((h.push { cls := .type "tuple", data := .seq #[v] }).push { cls := .ref 52, data := .fields #[.ref h.objs.size, .none, .none, .none, .bool false, .none] }).get? b = some o := fun b o e => Heap.get?_push_of_some _ (Heap.get?_push_of_some _ e)
  have X2 := X.keeps k
  have hx : ((h.push { cls := .type "tuple", data := .seq #[v] }).push { cls := .ref 52, data := .fields #[.ref h.objs.size, .none, .none, .none, .bool false, .none] }).get? (h.objs.size + 1) = some { cls := .ref 52, data := .fields #[.ref h.objs.size, .none, .none, .none, .bool false, .none] } := by heap_get
  have t1 : Looks (model prog w) _ (typeOf (.ref (h.objs.size + 1))) (.ref 52) := (Looks.ld hx).andThen .now
  have s1 : Looks (model prog w) _ (isSubtype (.ref 52) (.ref 52)) true := looks_mroIn X2 (by kernel_rfl)
  have i1 : Looks (model prog w) _ (typeLookup (.ref 52) "__init__") (some (.ref 49)) := looks_findIn X2 (by kernel_rfl)
  have b1 : Looks (model prog w) _ (bindSpecial (.ref 49) (.ref (h.objs.size + 1))) (.ref 49, [.ref (h.objs.size + 1)]) := bind_fn X2 _ (by kernel_rfl)
  unfold isInstance callSpecial? specialOf
  repeat (first | with_reducible refine wpAny_call ?_ | lk)
  refine codeAny_mono hq fun r s' z => ?_
  rcases r with e | (v | _ | _ | _) <;> first | exact z | exact z.elim | skip
  obtain ⟨rfl, z⟩ := z
  exact wpAny_pure (wpAny_pure z)
theorem exc_make {v : Value} (X : (hd.heap_39 w.params).In h)
    (hq : codeAny (model prog w) (A.under (.builtin "type.__call__" ⟨[.ref 52, v], []⟩)) (.call (.ref 49) ⟨[.ref (h.objs.size + 1), v], []⟩) (InitBack (h.objs.size + 1) R)
      ⟨(h.push { cls := .type "tuple", data := .seq #[v] }).push { cls := .ref 52, data := .fields #[.ref h.objs.size, .none, .none, .none, .bool false, .none] }, g, d, t, os⟩) :
    codeAny (model prog w) A (.call (.ref 52) ⟨[v], []⟩) R ⟨h, g, d, t, os⟩ := by
  have hC := cls_at X
  have f1 := tc_lookup
  have f2 := tc_bind (.ref 52)
  have hT : (⟨h, g, d, t, os⟩ : Shared).TypeIs (.ref 52) "type" := ⟨_, hC, rfl⟩
  refine PySem.codeAny_of_tree ?_
  show wpAny _ _ (callAny (.ref 52) _) _ _ _
  repeat (any_goals (first | assumption | with_reducible refine wpAny_loadPart_at hC ?_ | wp_step))
  refine ⟨rfl, ?_⟩
  refine PySem.codeAny_call_builtin_at (Code.quiet_builtin _ (by decide +kernel)) entry_typeCall (wpAny_check_type_call_sub hC (s_typeCall X ?_))
  refine codeAny_mono hq fun r s' z => ?_
  rcases r with e | (u | _ | _ | _) <;> first | exact z | exact z.elim
end
end Mine

end
section
-- part E2
set_option maxRecDepth 100000
namespace Mine
open PySem.Spec PySem.Calls PyProof.V
abbrev excO (t : Addr) (dx : Option Addr) : Obj := { cls := .ref 52, dict := dx, data := .fields #[.ref t, .none, .none, .none, .bool false, .none] }
abbrev tupO (vs : List Value) : Obj := { cls := .type "tuple", data := .seq vs.toArray }
theorem make_exc {prog : Program} {w : World} {A : Around} {R : Result → Shared → Prop} {s : Shared} {h₀ : Heap} {L : Addr} {m : Str → Option Value} {news : List (Addr × Obj)} {v : Value}
    (F : Fr h₀ L s.heap m) (N : News h₀ L s.heap news) (X : (hd.heap_39 w.params).In h₀)
    (k : ∀ x t h', Fr h₀ L h' m → News h₀ L h' ((x, excO t none) :: (t, tupO [v]) :: news) → (∀ p ∈ news, p.1 < t) → t < x →
      codeAny (model prog w) (A.under (.builtin "type.__call__" ⟨[.ref 52, v], []⟩)) (.call (.ref 49) ⟨[.ref x, v], []⟩) (InitBack x R) { s with heap := h' }) :
    codeAny (model prog w) A (.call (.ref 52) ⟨[v], []⟩) R s := by
  obtain ⟨hh, g, d, t, os⟩ := s
  refine exc_make (X.keeps F.keep) (k _ hh.objs.size _ ((F.push _).push _) ?_ (fun p hp => Heap.lt_size (N p hp).1) (Nat.lt_succ_self _))
  have := (N.push F (tupO [v])).push (F.push _) (excO hh.objs.size none)
  rwa [Heap.size_push] at this
theorem call_exc {prog : Program} {w : World} {A : Around} {E : Value → Shared → Prop} {Q : Value → Shared → Prop} {s : Shared} {h₀ : Heap} {L : Addr} {m : Str → Option Value} {news : List (Addr × Obj)} {v : Value}
    (F : Fr h₀ L s.heap m) (N : News h₀ L s.heap news) (X : (hd.heap_39 w.params).In h₀)
    (k : ∀ x t h', Fr h₀ L h' m → News h₀ L h' ((x, excO t none) :: (t, tupO [v]) :: news) → (∀ p ∈ news, p.1 < t) → t < x →
      codeAny (model prog w) (A.under (.builtin "type.__call__" ⟨[.ref 52, v], []⟩)) (.call (.ref 49) ⟨[.ref x, v], []⟩) (InitBack x fun r s' => match r with | .ok (.ret v) => Q v s' | .ok _ => False | .error e => E e s') { s with heap := h' }) :
    wpAny (model prog w) A (call (.ref 52) [v]) Q E s := wpAny_call (make_exc F N X k)
/-- what a raise wants of the object that it throws -/
def RaisesIt (E : Value → Shared → Prop) (v : Value) (s : Shared) : Prop :=
  ∃ e oe t, v = .ref e ∧ s.heap.get? 52 = some clsS ∧ s.heap.get? e = some oe ∧ oe.cls = .ref 52 ∧ oe.data = .fields #[.ref t, .none, .none, .none, .bool false, .none] ∧ E (.ref e) s
section
variable {M : Model} {A : Around} {E : Value → Shared → Prop} {s : Shared} {env : Env}
theorem raise_own {ex : Expr} {pos : Pos} {Q : Flow → Shared → Prop} (hh : A.handled = none)
    (h : wpAny M A (eval ex env) (RaisesIt E) E s) : wpAny M A (exec (.Raise (some ex) none pos) env) Q E s := by
  show wpAny M A (do standAt pos; raiseStmt env (some (do let v ← eval ex env; standAt pos; pure v)) none) Q E s
  refine wpAny_bind (wpAny_standAt ?_)
  unfold raiseStmt
  dsimp only
  refine wpAny_bind (wpAny_bind (wpAny_mono h (fun v s₁ h₁ => wpAny_bind (wpAny_standAt (wpAny_pure ?_))) fun _ _ x => x))
  obtain ⟨e, oe, t, rfl, hC, he, hc, hdt, hE⟩ := h₁
  obtain ⟨hp, g, d, tk, os⟩ := s₁
  have hcB : (Value.ref 52 :: bmS).contains (.type "BaseException") = true := by decide +kernel
  obtain ⟨oc, od, odt, osl⟩ := oe
  dsimp only at hc hdt
  subst hc hdt
  repeat (first | with_reducible refine wpAny_loadPart_at he ?_ | with_reducible refine wpAny_loadPart_at hC ?_ | (with_reducible refine wpAny_isSubtype_exc hC ?_; rw [hcB]) | wp_step)
  exact wpAny_raiseNew_none hh hE
end
theorem ff_hide {base h g : Heap} {as : List Addr} : ∀ {l : List Env}, h.FunFrames base l → (∀ env ∈ l, ∀ a, env.frame = some a → a ∈ as) → h.FunFrames (hideAll g as) l
  | [], _, _ => trivial
  | env :: _, ⟨hk, ⟨L, o, hf, _, ho, hd⟩, hr⟩, hin => ⟨hk, ⟨L, o, hf, hideAll_none _ (hin env (.head _) L hf), ho, hd⟩, ff_hide hr fun e he => hin e (.tail _ he)⟩
theorem leave_exc {M : Model} {A : Around} {E : Value → Shared → Prop} {s' : Shared} {base g : Heap} {outer : List Env} {L a e t : Addr} {m : Str → Option Value} {name : Str} {scope : Scope} {cd : Value} {Q : Unit → Shared → Prop} {news : List (Addr × Obj)} {od : Option Addr} {vs : List Value}
    (K : Below A base outer g) (F : Fr g L s'.heap m) (N : News g L s'.heap news) (he : (e, excO t od) ∈ news) (ht : (t, tupO vs) ∈ news)
    (hQ : ∀ h', RaisedS base g outer e (.ref 52) t vs [] h' → RaisedK base outer e (.ref 52) t vs [] h' → g.UpToSlots h' → Q () { s' with heap := h' }) (hk : scope.kind = .function := by rfl) :
    wpAny M (A.deeper (envOf name scope L a cd)) (leaving (envOf name scope L a cd) (.ref e)) Q E s' := by
  have K' := K.push (name := name) (a := a) (cd := cd) F hk
  let fs := (envOf name scope L a cd :: outer).filterMap (·.frame)
  have hin : ∀ env ∈ (envOf name scope L a cd :: outer), ∀ b, env.frame = some b → b ∈ fs := fun env he b hb => List.mem_filterMap.mpr ⟨env, he, hb⟩
  have lacks : ∀ {b}, g.get? b = none → (hideAll g fs).get? b = none := fun {b} hb => by
    cases hq : (hideAll g fs).get? b with
    | none => rfl
    | some o => have := of_hideAll _ hq; rw [hb] at this; cases this
  have sg : ∀ b o, g.get? b = some o → b ∉ outer.filterMap (·.frame) → (hideAll g fs).get? b = some o := fun b o q nm => hideAll_get _ q fun hm => by
    rcases kts_mem hm with z | z
    · rw [z, kts_self F] at q
      cases q
    · exact nm z
  have st : base.StaysIn (hideAll g fs) := fun b o q => hideAll_get _ (K.stays b o q) fun hm => by
    rw [(K'.frames.mem hm).1] at q; cases q
  refine wpAny_leaving_firstW (base := hideAll g fs) (a0 := .ref t) K'.stack (ff_hide K'.frames hin) rfl (N _ he).1 (fun b o q => F.keep b o (of_hideAll _ q)) (lacks (N _ he).2.2) rfl rfl rfl fun h' hL => ?_
  obtain ⟨k1, ⟨_, _, k2⟩, k3, k4⟩ := hL
  have R : RaisedS base g outer e (.ref 52) t vs [] h' := ⟨⟨hideAll g fs, st, sg, (fun _ q => nomatch q), ⟨k1, lacks (N _ he).2.2, k2, k3⟩, lacks (N _ ht).2.2⟩, Heap.TupAt.of_slots ⟨_, _, (N _ ht).1, rfl, rfl⟩ k4⟩
  exact hQ h' R R.toK ((Heap.UpToSlots.of_keeps F.keep).trans k4)
end Mine

end
section
-- part E4
set_option maxRecDepth 100000
namespace Mine
open PySem.Spec PySem.Calls PyProof.V
open PySem.Builtin PySem.Builtin.ObjectAttr
theorem pass52 (self : Value) : refuseLoop self "__setattr__" (.ref 52 :: bmS) = pure () := by
  rw [refuseLoop_ref, refuseLoop_ref]; exact PySem.F.store_Exception.passes self
section
variable {prog : Program} {w : World} {A : Around} {E : Value → Shared → Prop} {s : Shared} {h₀ : Heap} {L x t : Addr} {m : Str → Option Value} {news : List (Addr × Obj)} {R : Result → Shared → Prop}
theorem own_type {M : Model} {h : Heap} {dx : Option Addr} (hx : h.get? x = some (excO t dx)) : Looks M h (typeOf (.ref x)) (.ref 52) := (Looks.ld hx).andThen .now
theorem own_data {M : Model} {h : Heap} (hC : h.get? 52 = some clsS) : ∃ cd, Looks M h (classData 52) cd ∧ cd.hasDict = true ∧ cd.mro = .ref 52 :: bmS := ⟨_, (Looks.ld (part := none) hC).andThen .now, rfl, rfl⟩
theorem osa_own {dx : Option Addr} {name : Str} {tk : Tok} {v : Value} (X : (hd.heap_39 w.params).In s.heap) (hx : s.heap.get? x = some (excO t dx)) (ht : findIn (hd.heap_39 w.params) (.ref 52) name = some none)
    (h : wpAny (model prog w) A.in1 (storeInOwnDict (.ref x) (.ref 52) (.str name tk) name v false)
      (fun fin s' => match fin with | .done f => R (.ok f) s' | .again c' => c'.quiet = true ∧ codeAny (model prog w) A c' R s') (fun e s' => R (.error e) s') s) :
    codeAny (model prog w) A (.call (.builtin "object.__setattr__") ⟨[.ref x, .str name tk, v], []⟩) R s := by
  have SF := PySem.F.store_object
  have t1 : Looks (model prog w) s.heap (typeOf (.ref x)) (.ref 52) := own_type hx
  have sub : Looks (model prog w) s.heap (isInstance (.ref x) (.type "object")) true := t1.andThen (looks_mroIn X (by kernel_rfl))
  refine codeAny_call_builtin SF.slot.plain SF.entry (@check_slot (model prog w) _ _ s "object.__setattr__" "object" "__setattr__" (.ref x) [.str name tk, v] [] _ SF.kind SF.split sub (SF.args (.ref x) (.str name tk) v) ?_)
  obtain ⟨cd, hc, -, he⟩ := own_data (M := model prog w) (cls_at X)
  have hm : Looks (model prog w) s.heap (mroOf (.ref 52)) (.ref 52 :: bmS) := he ▸ hc.andThen .now
  rw [osa_eq, refuse_eq]
  refine wpAny_bind (wpAny_bind (t1.here (wpAny_bind (hm.here ?_))))
  rw [pass52]
  refine wpAny_pure (wpAny_bind (t1.here (wpAny_bind ((looks_findIn X ht).here (wpAny_bind (wpAny_pure ?_))))))
  exact h
theorem two_news {h : Heap} {news : List (Addr × Obj)} {p q : Addr × Obj} (N : News h₀ L h news) (h1 : p ∈ news) (h2 : q ∈ news) : News h₀ L h [p, q] := by
  intro r hr
  rcases List.mem_cons.mp hr with rfl | hr
  · exact N _ h1
  · obtain rfl := List.mem_singleton.mp hr
    exact N _ h2
theorem x_ne_t {h : Heap} {dx : Option Addr} {vs : List Value} (h1 : h.get? x = some (excO t dx)) (h2 : h.get? t = some (tupO vs)) : t ≠ x := by
  rintro rfl
  rw [h1] at h2
  have := congrArg (fun o : Option Obj => o.map (·.cls)) h2
  simp only [Option.map_some] at this
  cases this
theorem x_ne_d {h : Heap} {d : Addr} {es : List DictEntry} {n : Nat} {dx : Option Addr} (h1 : h.get? x = some (excO t dx)) (h2 : h.get? d = some (dictOf es n)) : x ≠ d := by
  rintro rfl
  rw [h1] at h2
  have := congrArg (fun o : Option Obj => o.map (·.cls)) h2
  simp only [Option.map_some] at this
  cases this
theorem t_ne_d {h : Heap} {d : Addr} {es : List DictEntry} {n : Nat} {vs : List Value} (h1 : h.get? t = some (tupO vs)) (h2 : h.get? d = some (dictOf es n)) : t ≠ d := by
  rintro rfl
  rw [h1] at h2
  have := congrArg (fun o : Option Obj => o.map (·.cls)) h2
  simp only [Option.map_some] at this
  injection this with this; injection this with this; exact absurd this (by decide)
theorem store_in {d : Addr} {name : Str} {tk : Tok} {v : Value} {es : List DictEntry} {n : Nat} {P : PySem.Fin → Shared → Prop} {E' : Value → Shared → Prop} (D : s.heap.get? d = some (dictOf es n))
    (hno : (es.any fun e => e.refKey) = false) (hz : (putL name (PyData.keyHash w.params name) (.str name s.toks) v es).length ≤ 1000)
    (h : P (.done (.ret .none)) { s with heap := s.heap.update d (Obj.putName name (PyData.keyHash w.params name) (.str name s.toks) v), toks := s.toks + 1 }) :
    wpAny (model prog w) A (storeInDict d (.str name tk) name v) P E' s := by
  unfold storeInDict newKeyGuard nsSet
  refine wpAny_bind (wpAny_pure (wpAny_bind ?_))
  refine wpAny_bind (wpAny_bind (wpAny_askSetting (wpAny_pure (wpAny_bind (wpAny_mkText (wpAny_bind (wpAny_loadPart D ?_)))))))
  dsimp only
  have c : (!es.toArray.any (·.key.isStr name) && es.toArray.any (·.refKey)) = false := by
    rw [show es.toArray.any (·.refKey) = false from by rw [← Array.any_toList]; exact hno, Bool.and_false]
  rw [aRefKeyMayBeTheName_at, c]
  refine wpAny_updatePart D ?_
  have D' : (s.heap.update d (Obj.putName name (PyData.keyHash w.params name) (.str name s.toks) v)).get? d = some (dictOf (putL name (PyData.keyHash w.params name) (.str name s.toks) v es) (putN name es n)) := by
    rw [← putName_dict]; exact Heap.get?_update_self _ D (by rw [putName_dict]; rfl)
  refine wpAny_bind (wpAny_lookBehind D' (pastItsLine_dict (by rw [List.size_toArray, sizeLine_eq]; omega)) ?_)
  exact wpAny_pure h
theorem setattr52 {p : Params} : findIn (hd.heap_39 p) (.ref 52) "__setattr__" = some (some (.builtin "object.__setattr__")) := by kernel_rfl
theorem set_first {name : Str} {v : Value} {vs : List Value} {Q : Unit → Shared → Prop} (F : Fr h₀ L s.heap m) (X₀ : (hd.heap_39 w.params).In h₀) (N : News h₀ L s.heap news) (mx : (x, excO t none) ∈ news) (mt : (t, tupO vs) ∈ news)
    (ht : findIn (hd.heap_39 w.params) (.ref 52) name = some none)
    (h : ∀ d h' tk', Fr h₀ L h' m → News h₀ L h' [(x, excO t (some d)), (t, tupO vs), (d, dictOf [⟨PyData.keyHash w.params name, .str name tk', v⟩] 1)] → Q () { s with heap := h', toks := s.toks + 2 }) :
    wpAny (model prog w) A (setAttr (.ref x) name v) Q E s := by
  have X := X₀.keeps F.keep
  have hx := (N _ mx).1
  have hC := cls_at X
  refine set_plain X (C := 52) (od := none) ⟨hx, rfl, rfl, trivial⟩ setattr52 (osa_own (s := { s with toks := s.toks + 1 }) X hx ht ?_)
  obtain ⟨cd, hc, hh, -⟩ := own_data (M := model prog w) (h := s.heap) hC
  refine wpAny_bind (wpAny_pure (wpAny_bind (wpAny_bind (wpAny_loadPart hx (wpAny_bind (hc _ _ _ _ (fun _ _ e => e) ?_))))))
  rw [hh]
  dsimp only
  have N1 := N.push F (dictOf [] 0)
  have F1 := F.push (dictOf [] 0)
  have hlt : x < s.heap.objs.size := Heap.lt_size hx
  have hlt2 : t < s.heap.objs.size := Heap.lt_size (N _ mt).1
  have hne := x_ne_t hx (N _ mt).1
  have N2 : News h₀ L (s.heap.push (dictOf [] 0)) ([] ++ (x, excO t none) :: [(t, tupO vs), (s.heap.objs.size, dictOf [] 0)]) := by
    intro p hp
    simp only [List.nil_append, List.mem_cons, List.not_mem_nil, or_false] at hp
    rcases hp with rfl | rfl | rfl
    · exact N1 _ (.tail _ mx)
    · exact N1 _ (.tail _ mt)
    · exact N1 _ (.head _)
  obtain ⟨F3, N3⟩ := news_upd (o' := excO t (some s.heap.objs.size)) (f := fun o => { o with dict := some s.heap.objs.size }) F1 N2 (fun _ hp => nomatch hp) (fun p hp => by
    simp only [List.mem_cons, List.not_mem_nil, or_false] at hp
    rcases hp with rfl | rfl
    · exact hne
    · exact Nat.ne_of_gt hlt) rfl rfl
  refine wpAny_bind (wpAny_alloc ?_)
  refine wpAny_bind (wpAny_update' (N1 _ (.tail _ mx)).1 ?_)
  refine wpAny_pure (a := some s.heap.objs.size) ?_
  have D3 : ((s.heap.push (dictOf [] 0)).update x fun o => { o with dict := some s.heap.objs.size }).get? s.heap.objs.size = some (dictOf [] 0) := (N3 (s.heap.objs.size, dictOf [] 0) (by simp)).1
  refine store_in (s := { s with heap := (s.heap.push (dictOf [] 0)).update x fun o => { o with dict := some s.heap.objs.size }, toks := s.toks + 1 }) (es := []) (n := 0) D3 rfl (by simp [putL]) ?_
  have N4 : News h₀ L ((s.heap.push (dictOf [] 0)).update x fun o => { o with dict := some s.heap.objs.size }) ([(x, excO t (some s.heap.objs.size)), (t, tupO vs)] ++ (s.heap.objs.size, dictOf [] 0) :: []) := N3
  obtain ⟨F5, N5⟩ := news_upd (o' := dictOf [⟨PyData.keyHash w.params name, .str name (s.toks + 1), v⟩] 1) (f := Obj.putName name (PyData.keyHash w.params name) (.str name (s.toks + 1)) v) F3 N4 (fun p hp => by
    simp only [List.mem_cons, List.not_mem_nil, or_false] at hp
    rcases hp with rfl | rfl
    · exact Nat.ne_of_lt hlt
    · exact Nat.ne_of_lt hlt2) (fun _ hp => nomatch hp) (by rw [putName_dict]; rfl) rfl
  exact h _ _ _ F5 N5
theorem set_next {name n1 : Str} {v v1 : Value} {k1 : Tok} {d : Addr} {vs : List Value} {Q : Unit → Shared → Prop} (F : Fr h₀ L s.heap m) (X₀ : (hd.heap_39 w.params).In h₀) (N : News h₀ L s.heap news) (mx : (x, excO t (some d)) ∈ news) (mt : (t, tupO vs) ∈ news)
    (md : (d, dictOf [⟨PyData.keyHash w.params n1, .str n1 k1, v1⟩] 1) ∈ news)
    (ht : findIn (hd.heap_39 w.params) (.ref 52) name = some none)
    (h : ∀ od h', Fr h₀ L h' m → News h₀ L h' [(x, excO t (some d)), (t, tupO vs), (d, od)] → Q () { s with heap := h', toks := s.toks + 2 }) :
    wpAny (model prog w) A (setAttr (.ref x) name v) Q E s := by
  have X := X₀.keeps F.keep
  have hx := (N _ mx).1
  have D := (N _ md).1
  have hC := cls_at X
  refine set_plain X (C := 52) (od := some _) ⟨hx, rfl, rfl, D⟩ setattr52 (osa_own (s := { s with toks := s.toks + 1 }) X hx ht ?_)
  obtain ⟨cd, hc, hh, -⟩ := own_data (M := model prog w) (h := s.heap) hC
  refine wpAny_bind (wpAny_pure (wpAny_bind (wpAny_bind (wpAny_loadPart hx (wpAny_bind (hc _ _ _ _ (fun _ _ e => e) ?_))))))
  rw [hh]
  refine wpAny_pure (a := some d) ?_
  have N2 : News h₀ L s.heap ([(x, excO t (some d)), (t, tupO vs)] ++ (d, dictOf [⟨PyData.keyHash w.params n1, .str n1 k1, v1⟩] 1) :: []) := by
    intro p hp
    simp only [List.cons_append, List.nil_append, List.mem_cons, List.not_mem_nil, or_false] at hp
    rcases hp with rfl | rfl | rfl
    · exact N _ mx
    · exact N _ mt
    · exact N _ md
  have hl : (putL name (PyData.keyHash w.params name) (.str name (s.toks + 1)) v [⟨PyData.keyHash w.params n1, .str n1 k1, v1⟩]).length ≤ 1000 := by
    unfold putL; split <;> simp [putL]
  refine store_in (s := { s with toks := s.toks + 1 }) D rfl hl ?_
  obtain ⟨F5, N5⟩ := news_upd (o' := dictOf (putL name (PyData.keyHash w.params name) (.str name (s.toks + 1)) v [⟨PyData.keyHash w.params n1, .str n1 k1, v1⟩]) (putN name [⟨PyData.keyHash w.params n1, .str n1 k1, v1⟩] 1)) (f := Obj.putName name (PyData.keyHash w.params name) (.str name (s.toks + 1)) v) F N2 (fun p hp => by
    simp only [List.mem_cons, List.not_mem_nil, or_false] at hp
    rcases hp with rfl | rfl
    · exact x_ne_d hx D
    · exact t_ne_d (N _ mt).1 D) (fun _ hp => nomatch hp) (by rw [putName_dict]) rfl
  exact h _ _ F5 N5
theorem init_check {M : Model} {dx : Option Addr} {v : Value} {Q : Unit → Shared → Prop} {h : Heap} {g : Array GenState} {d : Drawn} {tk : Nat} {os : OsState} (hC : h.get? 52 = some clsS) (hx : h.get? x = some (excO t dx)) (hq : Q () ⟨h, g, d, tk, os⟩) :
    wpAny M A (checkBuiltinCall "Exception.__init__" ⟨[.ref x, v], []⟩) Q E ⟨h, g, d, tk, os⟩ := by
  have hcB : (Value.ref 52 :: bmS).contains (.type "Exception") = true := by decide +kernel
  have hcls : (excO t dx).cls = .ref 52 := rfl
  have hshort := PySem.F.excBase_Exception.noStar
  simp only [checkBuiltinCall, PySem.F.excBase_Exception.initKind, PySem.F.excBase_Exception.initSplit, PySem.F.excBase_Exception.initRow]
  repeat (first | (with_reducible refine wpAny_loadPart_at hx ?_; rw [hcls]) | with_reducible refine wpAny_loadPart_at hC ?_ | (with_reducible refine wpAny_isSubtype_exc hC ?_; rw [hcB]) | wp_step)
  exact hq
theorem init_own {v : Value} {Q : Value → Shared → Prop} (F : Fr h₀ L s.heap m) (X₀ : (hd.heap_39 w.params).In h₀) (N : News h₀ L s.heap news) (mx : (x, excO t none) ∈ news)
    (h : ∀ t' h', Fr h₀ L h' m → News h₀ L h' [(x, excO t' none), (t', tupO [v])] → Q .none { s with heap := h' }) :
    wpAny (model prog w) A (call (.builtin "Exception.__init__") [.ref x, v]) Q E s := by
  have X := X₀.keeps F.keep
  have hx := (N _ mx).1
  have FB := PySem.F.excBase_Exception
  have N1 := N.push F (tupO [v])
  have F1 := F.push (tupO [v])
  have hlt : x < s.heap.objs.size := Heap.lt_size hx
  have N2 : News h₀ L (s.heap.push (tupO [v])) ([] ++ (x, excO t none) :: [(s.heap.objs.size, tupO [v])]) := two_news N1 (.tail _ mx) (.head _)
  obtain ⟨F3, N3⟩ := news_upd (o' := excO s.heap.objs.size none) (f := Obj.mapFields (·.setIfInBounds 0 (.ref s.heap.objs.size))) F1 N2 (fun _ hp => nomatch hp) (fun p hp => by
    obtain rfl := List.mem_singleton.mp hp
    exact Nat.ne_of_gt hlt) rfl rfl
  refine wpAny_call (codeAny_call_builtin FB.init.plain FB.initEntry ?_)
  obtain ⟨hh, g, d, tk, os⟩ := s
  refine init_check (cls_at X) hx ?_
  unfold Builtin.«BaseException.__init__»
  dsimp only
  rw [if_neg (by simp)]
  unfold newTuple Builtin.BaseException.bexcPut
  have he₁ := (N1 _ (.tail _ mx)).1
  refine wpAny_bind (wpAny_newObj_type (wpAny_bind (wpAny_bind (wpAny_field he₁ rfl rfl (wpAny_bind (wpAny_setField he₁ rfl (Nat.zero_lt_succ _) ?_))))) (by show ([v] : List Value).toArray.size ≤ sizeLine; rw [List.size_toArray, sizeLine_eq, List.length_singleton]; decide))
  exact wpAny_letGo (wpAny_pure (h _ _ F3 N3))
theorem exc_getm {pl : Sem Bool} {Q : Value × List Value → Shared → Prop} (F : Fr h₀ L s.heap m) (X₀ : (hd.heap_39 w.params).In h₀)
    (h : Q (.builtin "Exception.__init__", []) { s with toks := s.toks + 1 }) :
    wpAny (model prog w) A (getMethod (.type "Exception") (Str.ofString "__init__") pl) Q E s := by
  have X := X₀.keeps F.keep
  have hstub : opaqueClassAbove (.type "Exception") = pure none := by unfold opaqueClassAbove; dsimp only; rw [show Manifest.isStub "Exception" = false by decide +kernel]; rfl
  have ht : typeOf (.type "Exception") = pure (.type "type") := by first | rfl | kernel_rfl
  have L0 : Looks (model prog w) s.heap (typeOf (.type "Exception")) (.type "type") := Looks.of_pure ht
  have hg : findIn (hd.heap_39 w.params) (.type "type") "__getattribute__" = some (some (.builtin "type.__getattribute__")) := type_tga
  have e : findCls (hd.heap_39 w.params) (.type "Exception") (.type "type") (Str.ofString "__init__") = some (.val (.builtin "Exception.__init__")) := by kernel_rfl
  unfold getMethod specialOf
  refine wpAny_bind (wpAny_bind (L0.here ((looks_findIn X hg).here ?_)))
  dsimp only
  rw [if_pos (show (Manifest.canonical "type.__getattribute__" != "object.__getattribute__") = true by decide +kernel)]
  refine wpAny_bind (wpAny_mono (Q := fun v => Q (v, [])) (E := E) ?_ (fun _ _ z => wpAny_pure z) fun _ _ z => z)
  have LO : Looks (model prog w) s.heap (opaqueClassAbove (.type "Exception")) none := Looks.of_pure hstub
  refine cls_open X LO L0 hg (looks_hook X (r := none) (by rfl)) (by show subIn _ _ _ = _; rfl) e ?_
  exact wpAny_pure (handed_on rfl h)
end
end Mine

end
section
-- part E3
namespace Mine
open PySem.Spec PySem.Calls PyProof.V
set_option maxRecDepth 100000 in
set_option maxHeartbeats 2000000 in
theorem exc_spec (w : World) : ∀ (mean : ExcName → Option Value) (mg mb : Str → Option Value) (dp un : Nat) (gd : Option (List Code)) (cn : Str) (cs : Scope) (a : Addr) (ccd : Value) (cl : List (Str × Addr)) (outer : List Env) (A₀ : Around) (base h₀ : Heap) (L : Addr) (m : Str → Option Value) (s : Shared) (Q E : Value → Shared → Prop) (v : Str) (tk : Tok) (news : List (Addr × Obj)), Below A₀ base outer h₀ → Fr h₀ L s.heap m → (hd.heap_39 w.params).In h₀ → News h₀ L s.heap news → Top hd.view_39 (looseW hd.view_39 [Str.ofString "SettingError"]) mean mg mb h₀ → cs.kind = .function → dp + 8 < recursionLimit → 
    (∀ (x t d : Addr) (od : Obj) (h : Heap) (tk' : Nat), Fr h₀ L h m → News h₀ L h ((x, excO t (some d)) :: (t, tupO [.str v tk]) :: (d, od) :: []) → Q (.ref x) { s with heap := h, toks := tk' }) →
    wpAny (model PySem.Challenge.rw_pc0361_01.row.prog w) (ktrTop dp un gd cn cs L a ccd cl outer) (call (.ref 52) [.str v tk]) Q E s := by
  w_on
  k_fill
  intro mean mg mb dp un gd cn cs a ccd cl outer A₀ base h₀ L m s Q E v tk news B F X N T hk hdp ret
  have hmark : KstMark := kstMark
  repeat' (first | (k_unfold; (try dsimp only)) | (k_end; wrow_close) | (((with_reducible show wpAny _ _ (PySem.setAttr (Value.ref _) _ _) _ _ _); first | with_reducible (k_here; k_dflt (refine' Mine.set_next ?zzkF ?zzkX ?zzkN ?zzkm ?zzkt ?zzkd ?zzkn ?_; (case zzkF => k_asm); (case zzkX => k_asm); (case zzkN => k_asm); (case zzkm => exact .head _); (case zzkt => exact .tail _ (.head _)); (case zzkd => exact .tail _ (.tail _ (.head _))); (case zzkn => k_is); k_whole; intro od' h' F' N')) | (k_here; k_dflt (refine' Mine.set_next ?zzkF ?zzkX ?zzkN ?zzkm ?zzkt ?zzkd ?zzkn ?_; (case zzkF => k_asm); (case zzkX => k_asm); (case zzkN => k_asm); (case zzkm => exact .head _); (case zzkt => exact .tail _ (.head _)); (case zzkd => exact .tail _ (.tail _ (.head _))); (case zzkn => k_is); k_whole; intro od' h' F' N'))) <;> (try dsimp only)) | (((with_reducible show wpAny _ _ (PySem.setAttr (Value.ref _) _ _) _ _ _); first | with_reducible (k_here; k_dflt (refine' Mine.set_first ?zzkF ?zzkX ?zzkN ?zzkm ?zzkt ?zzkn ?_; (case zzkF => k_asm); (case zzkX => k_asm); (case zzkN => k_asm); (case zzkm => exact .head _); (case zzkt => exact .tail _ (.head _)); (case zzkn => k_is); k_whole; intro d' h' tk' F' N')) | (k_here; k_dflt (refine' Mine.set_first ?zzkF ?zzkX ?zzkN ?zzkm ?zzkt ?zzkn ?_; (case zzkF => k_asm); (case zzkX => k_asm); (case zzkN => k_asm); (case zzkm => exact .head _); (case zzkt => exact .tail _ (.head _)); (case zzkn => k_is); k_whole; intro d' h' tk' F' N'))) <;> (try dsimp only)) | (((with_reducible show wpAny _ _ (PySem.call (Value.builtin _) _) _ _ _); first | with_reducible (k_here; k_dflt (refine' Mine.init_own ?zzkF ?zzkX ?zzkN ?zzkm ?_; (case zzkF => k_asm); (case zzkX => k_asm); (case zzkN => k_asm); (case zzkm => k_mem); k_whole; intro t' h' F' N')) | (k_here; k_dflt (refine' Mine.init_own ?zzkF ?zzkX ?zzkN ?zzkm ?_; (case zzkF => k_asm); (case zzkX => k_asm); (case zzkN => k_asm); (case zzkm => k_mem); k_whole; intro t' h' F' N'))) <;> (try dsimp only)) | (((with_reducible show wpAny _ _ (PySem.getMethod _ _ _) _ _ _); first | with_reducible (k_here; k_dflt (refine' Mine.exc_getm ?zzkF ?zzkX ?_; (case zzkF => k_asm); (case zzkX => k_asm); k_whole)) | (k_here; k_dflt (refine' Mine.exc_getm ?zzkF ?zzkX ?_; (case zzkF => k_asm); (case zzkX => k_asm); k_whole))) <;> (try dsimp only)) | (((with_reducible show wpAny _ _ (PySem.call _ _) _ _ _); first | with_reducible (k_here; (with_reducible show wpAny _ _ (PySem.call (Value.ref 52) [Value.str _ _]) _ _ _); k_dflt (refine' Mine.call_exc ?zzF ?zzN ?zzX ?_; (case zzF => k_asm); (case zzN => k_asm); (case zzX => k_asm); k_whole; intro x' t' h' F' N' l1 l2; (try k_lt l1); (try k_lt2 l2); refine' code_def ?zzk1 ?zzk2 ?zzk3 ?zzk4 ?zzk5 ?zzkA ?zzkF ?zzkK ?zzk6 ?zzk7 ?zzk8 ?zzk9 ?zzkB ?_ ?zzc2 ?zzc3 ?zzc4 ?zzc5; (case zzkA => exact rfl); (case zzkF => exact rfl); (case zzkK => first | exact rfl | assumption); (case zzk1 => k_asm); (case zzk2 => k_asm); (case zzk3 => k_asm); (case zzk4 => k_asm); (case zzk5 => k_asm); (case zzk6 => k_is); (case zzk7 => k_is); (case zzk8 => ktr_room); (case zzk9 => first | exact BindsTo.of_eq rfl | exact binds_K (by k_in) rfl (by k_is) rfl rfl rfl); (case zzc5 => decide); (case zzkB => exact locs rfl); (case zzc2 => exact rfl); (case zzc3 => exact rfl); (case zzc4 => exact rfl); k_whole; intro g' L' h' FG' F' N' B' X' T'; (try dsimp only); (try k_lift B'); (try k_fold)); walk_say "USED exc") | with_reducible (k_here; (with_reducible show wpAny _ _ (PySem.call (Value.ref _) _) _ _ _); refine wpAny_call ?_; k_dflt (refine' code_def ?zzk1 ?zzk2 ?zzk3 ?zzk4 ?zzk5 ?zzkA ?zzkF ?zzkK ?zzk6 ?zzk7 ?zzk8 ?zzk9 ?zzkB ?_ ?zzc2 ?zzc3 ?zzc4 ?zzc5; (case zzkA => exact rfl); (case zzkF => exact rfl); (case zzkK => first | exact rfl | assumption); (case zzk1 => k_asm); (case zzk2 => k_asm); (case zzk3 => k_asm); (case zzk4 => k_asm); (case zzk5 => k_asm); (case zzk6 => k_is); (case zzk7 => k_is); (case zzk8 => ktr_room); (case zzk9 => first | exact BindsTo.of_eq rfl | exact binds_K (by k_in) rfl (by k_is) rfl rfl rfl); (case zzc5 => decide); (case zzkB => exact locs rfl); (case zzc2 => exact rfl); (case zzc3 => exact rfl); (case zzc4 => exact rfl); k_whole; intro g' L' h' FG' F' N' B' X' T'; (try dsimp only); (try k_lift B'); (try k_fold)))) <;> (try dsimp only)) | (walk1 <;> (try dsimp only)) | (leave1; walk_say "STEP leave1"; try dsimp only) | fail "no step")
  all_goals (k_dflt (refine' ret _ _ _ _ _ _ ?ra ?rb; (case rb => k_asm); (case ra => k_asm)))
theorem exc_use {w : World} {mean : ExcName → Option Value} {mg mb : Str → Option Value} {dp un : Nat} {gd : Option (List Code)} {cn : Str} {cs : Scope} {a : Addr} {ccd : Value} {cl : List (Str × Addr)} {outer : List Env} {A₀ : Around} {base h₀ : Heap} {L : Addr} {m : Str → Option Value} {s : Shared} {Q E : Value → Shared → Prop} {v : Str} {tk : Tok} {news : List (Addr × Obj)}
    (B : Below A₀ base outer h₀) (F : Fr h₀ L s.heap m) (X : (hd.heap_39 w.params).In h₀) (N : News h₀ L s.heap news) (T : Top hd.view_39 (looseW hd.view_39 [Str.ofString "SettingError"]) mean mg mb h₀) (hk : cs.kind = .function) (hdp : dp + 8 < recursionLimit)
    (ret : ∀ (x t d : Addr) (od : Obj) (h : Heap) (tk' : Nat), Fr h₀ L h m → News h₀ L h [(x, excO t (some d)), (t, tupO [.str v tk]), (d, od)] → Q (.ref x) { s with heap := h, toks := tk' }) :
    wpAny (model PySem.Challenge.rw_pc0361_01.row.prog w) (ktrTop dp un gd cn cs L a ccd cl outer) (call (.ref 52) [.str v tk]) Q E s := exc_spec w _ _ _ _ _ _ _ _ _ _ _ _ _ _ _ _ _ _ Q E v tk news B F X N T hk hdp ret
theorem raises_of {w : World} {s : Shared} {E : Value → Shared → Prop} {h₀ : Heap} {L x t : Addr} {m : Str → Option Value} {dx : Option Addr} {news : List (Addr × Obj)} (F : Fr h₀ L s.heap m) (X : (hd.heap_39 w.params).In h₀) (N : News h₀ L s.heap news) (mx : (x, excO t dx) ∈ news) (h : E (.ref x) s) : RaisesIt E (.ref x) s :=
  ⟨x, excO t dx, t, rfl, cls_at (X.keeps F.keep), (N _ mx).1, rfl, rfl, h⟩
end Mine

end
section
-- part E5
namespace Mine
open PySem.Spec PySem.Calls PyProof.V
set_option maxRecDepth 100000 in
set_option maxHeartbeats 2000000 in
theorem refused_spec (w : World) : ∀ (mean : ExcName → Option Value) (mg mb : Str → Option Value) (dp un : Nat) (gd : Option (List Code)) (cn : Str) (cs : Scope) (a : Addr) (ccd : Value) (A₀ : Around) (base h₀ : Heap) (L : Addr) (m : Str → Option Value) (s : Shared) (Q E : Value → Shared → Prop) (r b : Int) (tr tb : Tok) (bv : Bool), Below A₀ base [] h₀ → Fr h₀ L s.heap m → (hd.heap_39 w.params).In h₀ → News h₀ L s.heap [] → Top hd.view_39 (looseW hd.view_39 [Str.ofString "SettingError"]) mean mg mb h₀ → (hd.heap_39 w.params).In base → Top hd.view_39 (looseW hd.view_39 [Str.ofString "SettingError"]) mean mg mb base → cs.kind = .function → dp + 16 < recursionLimit → (bv = true ↔ (r < 0 ∨ b < 1)) →  (∀ (h : Heap) (tk : Nat), Fr h₀ L h m → Q (.bool bv) { s with heap := h, toks := tk }) → 
    wpAny (model PySem.Challenge.rw_pc0361_01.row.prog w) { handled := none, depth := dp, frames := some [envOf cn cs L a ccd], guards := gd, units := un } (call (.ref 215) [.int r tr, .int b tb]) Q E s := by
  w_on
  k_fill
  intro mean mg mb dp un gd cn cs a ccd A₀ base h₀ L m s Q E r b tr tb bv B F X N T XB TB hk hdp hb ret
  have hmark : KstMark := kstMark
  refine wpAny_call ?_
  k_dflt (refine' code_defS0 ?k1 ?k2 ?k3 ?k4 ?k5 ?kA ?k6 ?k7 ?k8 ?k9 ?kB ?_ ?cK ?c2 ?c3 ?c4 ?c5; (case kA => exact rfl); (case k2 => k_asm); (case k1 => k_asm); (case k3 => k_asm); (case k4 => k_asm); (case k5 => k_asm); (case k6 => k_is); (case k7 => k_is); (case k8 => ktr_room); (case k9 => exact BindsTo.of_eq rfl); (case kB => exact locs rfl); (case cK => assumption); (case c2 => exact rfl); (case c3 => exact rfl); (case c4 => exact rfl); (case c5 => decide); k_whole; intro g' L' h' FG' F' N' B' X' T' D'; (try dsimp only); (try k_lift B'); (try k_fold))
  repeat' (first | (k_unfold; (try dsimp only)) | (k_end; wrow_close) | (((with_reducible show InitBack _ _ _ _); first | with_reducible (dsimp only [InitBack]; walk_say "USED initback") | (dsimp only [InitBack]; walk_say "USED initback")) <;> (try dsimp only)) | (((with_reducible show wpAny _ _ (PySem.leaving _ (Value.ref _)) _ _ _); first | with_reducible (k_here; refine' Mine.leave_exc ?zzlvK ?zzlvF ?zzlvN ?zzlvE ?zzlvT ?_; (case zzlvK => assumption); (case zzlvF => assumption); (case zzlvN => assumption); (case zzlvE => exact .head _); (case zzlvT => exact .tail _ (.head _)); k_whole; intro h' S' R' U'; (try dsimp only at S' R' U' ⊢); walk_say "USED leave") | (k_here; refine' Mine.leave_exc ?zzlvK ?zzlvF ?zzlvN ?zzlvE ?zzlvT ?_; (case zzlvK => assumption); (case zzlvF => assumption); (case zzlvN => assumption); (case zzlvE => exact .head _); (case zzlvT => exact .tail _ (.head _)); k_whole; intro h' S' R' U'; (try dsimp only at S' R' U' ⊢); walk_say "USED leave")) <;> (try dsimp only)) | (((with_reducible show Mine.RaisesIt _ _ _); first | with_reducible (refine' Mine.raises_of ?zzrsF ?zzrsX ?zzrsN ?zzrsM ?_; (case zzrsF => k_asm); (case zzrsX => k_asm); (case zzrsN => k_asm); (case zzrsM => exact .head _); walk_say "USED raises") | (refine' Mine.raises_of ?zzrsF ?zzrsX ?zzrsN ?zzrsM ?_; (case zzrsF => k_asm); (case zzrsX => k_asm); (case zzrsN => k_asm); (case zzrsM => exact .head _); walk_say "USED raises")) <;> (try dsimp only)) | (((with_reducible show wpAny _ _ (PySem.exec (Stmt.Raise _ _ _) _) _ _ _); first | with_reducible (k_here; refine Mine.raise_own rfl ?_) | (k_here; refine Mine.raise_own rfl ?_)) <;> (try dsimp only)) | (((with_reducible show wpAny _ _ (PySem.call _ _) _ _ _); first | with_reducible (k_here; (with_reducible show wpAny _ _ (PySem.call (Value.ref 52) [Value.str _ _]) _ _ _); k_dflt (refine' Mine.exc_use ?zzexcB ?zzexcF ?zzexcX ?zzexcN ?zzexcT ?zzexcK ?zzexcP ?_; (case zzexcB => k_asm); (case zzexcF => k_asm); (case zzexcX => k_asm); (case zzexcN => k_asm); (case zzexcT => k_asm); (case zzexcK => first | exact rfl | assumption); (case zzexcP => ktr_room)); intro x' t' d' od' h' tk' F' N'; walk_say "USED exc") | with_reducible (k_here; k_dflt (refine' call_cls ?zzk1 ?zzk2 ?zzk3 ?zzk4 ?zzk5 ?zzk6 ?_; (case zzk1 => k_asm); (case zzk2 => k_asm); (case zzk3 => k_asm); (case zzk4 => k_is); (case zzk5 => k_is); (case zzk6 => k_is); k_whole; intro x' d' h' F' N' l1 l2; (try k_lt l1); (try k_lt2 l2); (try k_sweep); refine' code_def ?zzk1 ?zzk2 ?zzk3 ?zzk4 ?zzk5 ?zzkA ?zzkF ?zzkK ?zzk6 ?zzk7 ?zzk8 ?zzk9 ?zzkB ?_ ?zzc2 ?zzc3 ?zzc4 ?zzc5; (case zzkA => exact rfl); (case zzkF => exact rfl); (case zzkK => first | exact rfl | assumption); (case zzk1 => k_asm); (case zzk2 => k_asm); (case zzk3 => k_asm); (case zzk4 => k_asm); (case zzk5 => k_asm); (case zzk6 => k_is); (case zzk7 => k_is); (case zzk8 => ktr_room); (case zzk9 => exact BindsTo.of_eq rfl); (case zzc5 => decide); (case zzkB => exact locs rfl); (case zzc2 => exact rfl); (case zzc3 => exact rfl); (case zzc4 => exact rfl); k_whole; intro g' L' h' FG' F' N' B' X' T'; (try dsimp only); (try k_lift B'); (try k_fold)))) <;> (try dsimp only)) | (walk1 <;> (try dsimp only)) | (leave1; walk_say "STEP leave1"; try dsimp only) | fail "no step")
  all_goals first
    | (have e : bv = true := hb.mpr (by omega); clear hb; subst e; k_dflt (refine' ret _ _ ?rtF; (case rtF => k_asm)))
    | (have e : bv = false := Bool.eq_false_iff.mpr (fun e => by have := hb.mp e; omega); clear hb; subst e; k_dflt (refine' ret _ _ ?rtF; (case rtF => k_asm)))
theorem refused_use {w : World} {mean : ExcName → Option Value} {mg mb : Str → Option Value} {dp un : Nat} {gd : Option (List Code)} {cn : Str} {cs : Scope} {a : Addr} {ccd : Value} {A₀ : Around} {base h₀ : Heap} {L : Addr} {m : Str → Option Value} {s : Shared} {Q E : Value → Shared → Prop} {r b : Int} {tr tb : Tok} {bv : Bool}
    (B : Below A₀ base [] h₀) (F : Fr h₀ L s.heap m) (X : (hd.heap_39 w.params).In h₀) (T : Top hd.view_39 (looseW hd.view_39 [Str.ofString "SettingError"]) mean mg mb h₀) (XB : (hd.heap_39 w.params).In base) (TB : Top hd.view_39 (looseW hd.view_39 [Str.ofString "SettingError"]) mean mg mb base)
    (hk : cs.kind = .function) (hdp : dp + 16 < recursionLimit) (hb : bv = true ↔ (r < 0 ∨ b < 1))
    (ret : ∀ (h : Heap) (tk : Nat), Fr h₀ L h m → News h₀ L h [] → Q (.bool bv) { s with heap := h, toks := tk }) :
    wpAny (model PySem.Challenge.rw_pc0361_01.row.prog w) { handled := none, depth := dp, frames := some [envOf cn cs L a ccd], guards := gd, units := un } (call (.ref 215) [.int r tr, .int b tb]) Q E s := refused_spec w _ _ _ _ _ _ _ _ _ _ _ _ _ _ _ _ Q E r b tr tb bv B F X (fun p hp => nomatch hp) T XB TB hk hdp hb fun h tk F => ret h tk F fun p hp => nomatch hp
end Mine

end
section
-- part S6
namespace Mine
open PySem.Spec PySem.Calls PyProof.V
theorem deed_there {x g : Int} (h : x * 100 ≤ g) : (true == decide (100 * x ≤ g)) = true := by
  rw [decide_eq_true (show 100 * x ≤ g by omega)]; rfl
theorem deed_gone {x g : Int} (h : ¬ x * 100 ≤ g) : (false == decide (100 * x ≤ g)) = true := by
  rw [decide_eq_false (show ¬ 100 * x ≤ g by omega)]; rfl
theorem deed_same (x g : Int) : (decide (x * 100 ≤ g) == decide (100 * x ≤ g)) = true := by
  rw [Int.mul_comm]; exact beq_self_eq_true _
theorem div_parts {a r : Int} (hr : 0 < r) : a = r * a.fdiv r + a.fmod r ∧ 0 ≤ a.fmod r ∧ a.fmod r < r := ⟨(Int.mul_fdiv_add_fmod a r).symm, Int.fmod_nonneg_of_pos a hr, Int.fmod_lt_of_pos a hr⟩
theorem fdiv_is {a r q k : Int} (hr : 0 < r) (h : a = r * q + k) (h0 : 0 ≤ k) (h1 : k < r) : a.fdiv r = q := by
  rw [h, Int.add_comm, Int.add_mul_fdiv_left _ _ (by omega), Int.fdiv_eq_zero_of_lt h0 h1, Int.zero_add]
theorem ceil_exact {x g r : Int} (hr : 0 < r) (h : 100 * x ≤ g + (100 * x - g).fdiv r * r) : ((x * 100 - g + r - 1).fdiv r == (100 * x - g).fdiv r) = true := by
  obtain ⟨e, a, b⟩ := div_parts (a := 100 * x - g) hr
  rw [Int.mul_comm (Int.fdiv _ _) r] at h
  rw [fdiv_is hr (show x * 100 - g + r - 1 = r * (100 * x - g).fdiv r + (r - 1) by omega) (by omega) (by omega)]
  exact beq_self_eq_true _
theorem ceil_up {x g r : Int} (hr : 0 < r) (h : ¬ 100 * x ≤ g + (100 * x - g).fdiv r * r) : ((x * 100 - g + r - 1).fdiv r == (100 * x - g).fdiv r + 1) = true := by
  obtain ⟨e, a, b⟩ := div_parts (a := 100 * x - g) hr
  rw [Int.mul_comm (Int.fdiv _ _) r] at h
  rw [fdiv_is hr (show x * 100 - g + r - 1 = r * ((100 * x - g).fdiv r + 1) + ((100 * x - g).fmod r - 1) by rw [Int.mul_add]; omega) (by omega) (by omega)]
  exact beq_self_eq_true _
theorem flat_as {kvs : List (Str × Value)} {D D' : List (PyData × PyData)} (h : FlatPairs PyData.str kvs D) (e : D = D') : FlatPairs PyData.str kvs D' := e ▸ h
theorem put_g {r mo g t x : Int} : putD (.str (Str.ofString "grains")) (.int x) (ownD r mo g t) = ownD r mo x t := by
  with_unfolding_all rfl
theorem fG_idle {r b gr t now : Int} (hg : gr ≤ 100 * b) (h : now ≤ t) : fG r (100 * b) gr t now = gr := (fill_idle hg h).2.1.symm
theorem fT_idle {t now : Int} (h : now ≤ t) : fT t now = t := by unfold fT; split <;> omega
theorem fT_runs {t now : Int} (h : ¬ now ≤ t) : fT t now = now := by unfold fT; split <;> omega
theorem fG_runs {r b gr t now : Int} (h : ¬ now ≤ t) : fG r (100 * b) gr t now = if b * 100 < gr + r * (now - t) then b * 100 else gr + r * (now - t) := by
  unfold fG fZ; rw [fT_runs h, Int.mul_comm b 100]
theorem take_yes {x G : Int} (h : x * 100 ≤ G) : G - x * 100 = G - 100 * x * (if decide (100 * x ≤ G) = true then 1 else 0) := by
  rw [decide_eq_true (show 100 * x ≤ G by omega), if_pos rfl]; omega
theorem take_no {x G : Int} (h : ¬ x * 100 ≤ G) : G = G - 100 * x * (if decide (100 * x ≤ G) = true then 1 else 0) := by
  rw [decide_eq_false (show ¬ 100 * x ≤ G by omega), if_neg (by simp)]; omega
theorem take_le {x G m : Int} (h0 : 0 ≤ x) (h : G ≤ m) : G - 100 * x * (if decide (100 * x ≤ G) = true then 1 else 0) ≤ m := by
  split <;> omega
theorem add_same {b y : Int} : (if b * 100 < y then b * 100 else y) = (if 100 * b < y then 100 * b else y) := by rw [Int.mul_comm b 100]
theorem add_le {b y : Int} : (if 100 * b < y then 100 * b else y) ≤ 100 * b := by split <;> omega
set_option maxRecDepth 100000 in
set_option maxHeartbeats 4000000 in
theorem deed_spec (w : World) : ∀ (mean : ExcName → Option Value) (mg mb : Str → Option Value) (dp un : Nat) (gd : Option (List Code)) (cn : Str) (cs : Scope) (a : Addr) (ccd : Value) (cl : List (Str × Addr)) (outer : List Env) (A₀ : Around) (base h₀ : Heap) (L : Addr) (m : Str → Option Value) (s : Shared) (Q E : Value → Shared → Prop) (ds dw x dx : Addr) (os ow : Obj) (kvs kws : List (Str × Value)) (dg st : Int) (k1 k2 k3 k4 tr tb tg tt : Tok) (r b gr t now : Int) (tn : Tok) (rest : List (Addr × Obj)),
    Below A₀ base outer h₀ → Fr h₀ L s.heap m → (hd.heap_39 w.params).In h₀ → News h₀ L s.heap ((ds, os) :: (dw, ow) :: (x, instObj 120 dx) :: (dx, bktO w k1 k2 k3 k4 tr tb tg tt r b gr t) :: rest) → OwnOff rest [ds, dw, x, dx] → Top hd.view_39 (looseW hd.view_39 [Str.ofString "SettingError"]) mean mg mb h₀ → cs.kind = .function → dp + 4 < recursionLimit → un + 32 < cLine → 
    @Ne Nat ds dw → @Ne Nat ds x → @Ne Nat ds dx → @Ne Nat dw x → @Ne Nat dw dx → @Ne Nat x dx →
    (ds == sysModules) = false → os.IsDictOf (strKind PySem.Challenge.rw_pc0361_01.row.prog w) kvs → FlatPairs PyData.str kvs (srcD dg st) →  0 ≤ dg → 0 ≤ st →  (dw == sysModules) = false → ow.IsDictOf (strKind PySem.Challenge.rw_pc0361_01.row.prog w) kws → FlatPairs PyData.str kws (ownD r (100 * b) gr t) → 
    0 ≤ r → r ≤ 1000 → 1 ≤ b → b ≤ 64 → gr ≤ 100 * b →
    (∀ (bv : Bool) (os ow : Obj) (kvs kws : List (Str × Value)) (dg st g1 g2 t1 t2 : Int) (tg tt : Tok) (h : Heap) (tk : Nat), bv = true → g1 = g2 → t1 = t2 → g2 ≤ 100 * b → now ≤ t2 →
      Fr h₀ L h m → News h₀ L h ((ds, os) :: (dw, ow) :: (x, instObj 120 dx) :: (dx, bktO w k1 k2 k3 k4 tr tb tg tt r b g1 t1) :: rest) → os.IsDictOf (strKind PySem.Challenge.rw_pc0361_01.row.prog w) kvs → FlatPairs PyData.str kvs (srcD dg st) →  0 ≤ dg → 0 ≤ st →  ow.IsDictOf (strKind PySem.Challenge.rw_pc0361_01.row.prog w) kws → FlatPairs PyData.str kws (ownD r (100 * b) g2 t2) →  Q (.bool bv) { s with heap := h, toks := tk }) →
    wpAny (model PySem.Challenge.rw_pc0361_01.row.prog w) (ktrTop dp un gd cn cs L a ccd cl outer) (call (.ref 208) [.ref ds, .ref x, .ref dw, .int now tn]) Q E s := by
  w_on
  k_fill
  intro mean mg mb dp un gd cn cs a ccd cl outer A₀ base h₀ L m s Q E ds dw x dx os ow kvs kws dg st k1 k2 k3 k4 tr tb tg tt r b gr t now tn rest B F X N off T hk hdp hun n1 n2 n3 n4 n5 n6 sm hd' hf h0 h1 sm2 hd2 hf2 hr hr2 hb hb2 hg ret
  have hmark : KstMark := kstMark
  refine wpAny_call ?_
  k_dflt cell_enter
  repeat' (first | (k_unfold; (try dsimp only)) | (k_end; wrow_close) | (((with_reducible show wpAny _ _ (PySem.call _ _) _ _ _); first | with_reducible (k_here; (with_reducible show wpAny _ _ (PySem.call (Value.ref 75) [Value.ref _, Value.int _ _]) _ _ _); k_dflt (refine' Mine.still_use ?zzB ?zzF ?zzX ?zzN ?zzT ?zzk ?zzp ?zzq ?zzU ?zzm ?zzn ?zzx0 ?_; (case zzB => k_asm); (case zzF => k_asm); (case zzX => k_asm); (case zzN => k_asm); (case zzT => k_asm); (case zzk => first | exact rfl | assumption); (case zzp => ktr_room); (case zzq => ktr_units); (case zzm => k_mem); (case zzU => k_updF); (case zzn => k_ne); (case zzx0 => omega)); intro t' h' tk' F' N'; (try simp only [List.nil_append, List.cons_append, List.append_nil] at N'); (try dsimp only at N'); (try k_sweep); (try dsimp only); (try k_fold); walk_say "USED still") | with_reducible (k_here; (with_reducible show wpAny _ _ (PySem.call (Value.ref 75) [Value.ref _, Value.int _ _]) _ _ _); k_dflt (refine' Mine.fill_use ?zzB ?zzF ?zzX ?zzN ?zzT ?zzk ?zzp ?zzq ?zzU ?zzm ?zzn ?zzx0 ?zzx1 ?zzx2 ?_; (case zzB => k_asm); (case zzF => k_asm); (case zzX => k_asm); (case zzN => k_asm); (case zzT => k_asm); (case zzk => first | exact rfl | assumption); (case zzp => ktr_room); (case zzq => ktr_units); (case zzm => k_mem); (case zzU => k_updF); (case zzn => k_ne); (case zzx0 => omega); (case zzx1 => omega); (case zzx2 => omega)); intro t' tg' tt' h' tk' F' N' p1 p2 q1; (try simp only [List.nil_append, List.cons_append, List.append_nil] at N'); (try dsimp only at N'); (try k_sweep); (try dsimp only); (try k_fold); walk_say "USED fill") | with_reducible (k_here; (with_reducible show wpAny _ _ (PySem.call (Value.ref 194) [Value.ref _, Value.int _ _]) _ _ _); k_dflt (refine' Mine.filled_use ?zzB ?zzF ?zzX ?zzN ?zzT ?zzk ?zzp ?zzq ?zzU ?zzsm ?zzd ?zzf ?zzx0 ?zzx1 ?_; (case zzB => k_asm); (case zzF => k_asm); (case zzX => k_asm); (case zzN => k_asm); (case zzT => k_asm); (case zzk => first | exact rfl | assumption); (case zzp => ktr_room); (case zzq => ktr_units); (case zzU => k_updF); (case zzsm => assumption); (case zzd => assumption); (case zzf => assumption); (case zzx0 => omega); (case zzx1 => omega)); intro t' o' kvs' h' tk' F' N' hd' hf' p1 p2 q1; (try simp only [List.nil_append, List.cons_append, List.append_nil] at N'); (try dsimp only at N'); (try k_sweep); (try dsimp only); (try k_fold); walk_say "USED filled") | with_reducible (k_here; (with_reducible show wpAny _ _ (PySem.call (Value.ref 187) [Value.ref _, Value.ref _]) _ _ _); k_dflt (refine' Mine.pick_use _ _ _ ?zzB ?zzF ?zzX ?zzN ?zzT ?zzk ?zzp ?zzq ?zzU ?zzm ?zzn ?zzi ?zzl0 ?zzl1 ?zzsm ?zzd ?zzf ?zzx0 ?zzx1 ?zzb ?_; (case zzB => k_asm); (case zzF => k_asm); (case zzX => k_asm); (case zzN => k_asm); (case zzT => k_asm); (case zzk => first | exact rfl | assumption); (case zzp => ktr_room); (case zzq => ktr_units); (case zzU => k_updF); (case zzm => k_mem); (case zzn => k_ne); (case zzi => first | exact Mine.ints7 | exact Mine.ints6 | exact Mine.ints4); (case zzl0 => (simp only [List.length_cons, List.length_nil]; omega)); (case zzl1 => (simp only [List.length_cons, List.length_nil]; omega)); (case zzsm => assumption); (case zzd => assumption); (case zzf => assumption); (case zzx0 => assumption); (case zzx1 => assumption); (case zzb => exact Mine.size_bounds (by assumption) (by assumption))); intro x' t' o' kvs' dg' st' h' tk' F' N' hd' hf' p1 p2 q1 q2; (try simp only [List.nil_append, List.cons_append, List.append_nil] at N'); (try dsimp only at N'); (try k_sweep); (try dsimp only); (try k_fold); walk_say "USED pick") | with_reducible (k_here; (with_reducible show wpAny _ _ (PySem.call (Value.ref 180) [Value.ref _, Value.int _ _]) _ _ _); k_dflt (refine' Mine.next_use ?zzB ?zzF ?zzX ?zzN ?zzT ?zzk ?zzp ?zzq ?zzU ?zzsm ?zzd ?zzf ?zzx0 ?zzx1 ?zzx2 ?zzx3 ?_; (case zzB => k_asm); (case zzF => k_asm); (case zzX => k_asm); (case zzN => k_asm); (case zzT => k_asm); (case zzk => first | exact rfl | assumption); (case zzp => ktr_room); (case zzq => ktr_units); (case zzU => k_updF); (case zzsm => assumption); (case zzd => assumption); (case zzf => assumption); (case zzx0 => assumption); (case zzx1 => assumption); (case zzx2 => (first | decide | omega)); (case zzx3 => (first | decide | omega))); intro x' t' o' kvs' dg' st' h' tk' F' N' hd' hf' p1 p2 q1 q2; (try simp only [List.nil_append, List.cons_append, List.append_nil] at N'); (try dsimp only at N'); (try k_sweep); (try dsimp only); (try k_fold); walk_say "USED next") | with_reducible (k_here; (with_reducible show wpAny _ _ (PySem.call (Value.ref _) _) _ _ _); refine wpAny_call ?_; k_dflt (refine' code_def ?zzk1 ?zzk2 ?zzk3 ?zzk4 ?zzk5 ?zzkA ?zzkF ?zzkK ?zzk6 ?zzk7 ?zzk8 ?zzk9 ?zzkB ?_ ?zzc2 ?zzc3 ?zzc4 ?zzc5; (case zzkA => exact rfl); (case zzkF => exact rfl); (case zzkK => first | exact rfl | assumption); (case zzk1 => k_asm); (case zzk2 => k_asm); (case zzk3 => k_asm); (case zzk4 => k_asm); (case zzk5 => k_asm); (case zzk6 => k_is); (case zzk7 => k_is); (case zzk8 => ktr_room); (case zzk9 => exact BindsTo.of_eq rfl); (case zzc5 => decide); (case zzkB => exact locs rfl); (case zzc2 => exact rfl); (case zzc3 => exact rfl); (case zzc4 => exact rfl); k_whole; intro g' L' h' FG' F' N' B' X' T'; (try dsimp only); (try k_lift B'); (try k_fold)))) <;> (try dsimp only)) | ((with_reducible (k_here; (with_reducible show wpAny _ _ (subscriptTail _ _ (Value.ref _) (Value.str _ _)) _ _ _); k_dflt (refine' item_strTab ?zzk1 ?zzk2 ?_; (case zzk1 => exact TabAt.ofNews (by k_asm) (by k_mem) (by assumption) (by with_reducible assumption) (by with_reducible assumption)); (case zzk2 => exact rfl); k_whole); intro v' hv'; (try dict_open hv'); (try clear hv'))) <;> (try dsimp only)) | (walk1 <;> (try dsimp only)) | (leave1; walk_say "STEP leave1"; try dsimp only) | fail "no step")
  all_goals (refine' ret _ _ _ _ _ _ _ _ _ _ _ _ _ _ _ _ _ _ _ _ (by k_asm) (cb_drop (by k_asm) (List.forall_mem_cons.mpr ⟨by k_mem, List.forall_mem_cons.mpr ⟨by k_mem, List.forall_mem_cons.mpr ⟨by k_mem, List.forall_mem_cons.mpr ⟨by k_mem, fun p hp => by (repeat (first | exact hp | refine List.Mem.tail _ ?_))⟩⟩⟩⟩)) (by assumption) (flat_as (by assumption) _) _ _ (by assumption) (flat_as (by assumption) _))
  all_goals (try clear ret)
  all_goals (try (with_reducible show @Eq (List (PyData × PyData)) _ _; first | with_reducible rfl | exact put_g))
  all_goals first
    | (with_reducible show @Eq Bool _ _; with_reducible first | rfl | exact beq_self_eq_true _ | exact deed_there (by assumption) | exact deed_gone (by assumption) | exact deed_same _ _ | exact ceil_exact (by omega) (by assumption) | exact ceil_up (by omega) (by assumption) | (rw [fG_idle hg (by assumption)]; first | exact deed_there (by assumption) | exact deed_gone (by assumption)) | (rw [fG_runs (by assumption)]; first | exact deed_there (by assumption) | exact deed_gone (by assumption)) | (exfalso; omega))
    | (with_reducible show @Eq Int _ _; with_reducible first | rfl | omega | exact add_same | (rw [fT_idle (by assumption)]) | (rw [fT_runs (by assumption)]) | (rw [fG_idle hg (by assumption)]; first | exact take_yes (by assumption) | exact take_no (by assumption)) | (rw [fG_runs (by assumption)]; first | exact take_yes (by assumption) | exact take_no (by assumption)))
    | (with_reducible show @LE.le Int _ _ _; with_reducible first | assumption | omega | exact add_le | exact take_le (by assumption) (by assumption))
    | skip

end Mine

end
section
-- part S7
namespace Mine
open PySem.Spec PySem.Calls PyProof.V
theorem src_stir (x : Int) : 0 ≤ x.fmod 1000003 + 3 := by
  have := Int.fmod_nonneg_of_pos x (show (0 : Int) < 1000003 by decide)
  omega
theorem src_abs (x : Int) : 0 ≤ (if x < 0 then -x else x) := by split <;> omega
theorem item_script {prog : Program} {w : World} {A : Around} {E : Value → Shared → Prop} {s : Shared} {l : Addr} {value slice : PySem.Expr} {vs : List Value} {ns : List Int} {k : Int} {u : Tok} {Q : Value → Shared → Prop}
    (hl : s.heap.IsList l vs.toArray) (hi : IntsAre vs ns) (h0 : 0 ≤ k) (h1 : k < (ns.length : Int)) (hfit : k < 2 ^ 63) (h : ∀ x t, Q (.int x t) s)
    (hs : subscripted slice false (.ref l) (.int k u) = operate [.ref l, .int k u] (getItem (.ref l) (.int k u)) := by with_unfolding_all rfl) :
    wpAny (model prog w) A (subscriptTail value slice (.ref l) (.int k u)) Q E s := by
  have hk : k.toNat < ns.length := by omega
  obtain ⟨t, hx⟩ := hi.get k.toNat ns[k.toNat] (List.getElem?_eq_getElem hk)
  exact tail_any hl.typeIs slot_list_getitem.lookup (wpAny_getItem_list hl h0 hfit (by simpa using hx) (h _ t)) hs
theorem flat_to {kvs : List (Str × Value)} {D D' : List (PyData × PyData)} (h : FlatPairs PyData.str kvs D) (e : D = D') : FlatPairs PyData.str kvs D' := e ▸ h
set_option maxRecDepth 100000 in
set_option maxHeartbeats 4000000 in
theorem source_spec (w : World) : ∀ (mean : ExcName → Option Value) (mg mb : Str → Option Value) (dp un : Nat) (gd : Option (List Code)) (cn : Str) (cs : Scope) (a : Addr) (ccd : Value) (cl : List (Str × Addr)) (outer : List Env) (A₀ : Around) (base h₀ : Heap) (L : Addr) (m : Str → Option Value) (s : Shared) (Q E : Value → Shared → Prop) (l : Addr) (vs : List Value) (ns : List Int) (news : List (Addr × Obj)),
    Below A₀ base outer h₀ → Fr h₀ L s.heap m → (hd.heap_39 w.params).In h₀ → News h₀ L s.heap news → Top hd.view_39 (looseW hd.view_39 [Str.ofString "SettingError"]) mean mg mb h₀ → cs.kind = .function → dp + 1 < recursionLimit → un + 128 < cLine → 
    base.IsList l vs.toArray → IntsAre vs ns → ns.length < 2 ^ 62 →
    (∀ (d : Addr) (o : Obj) (kvs : List (Str × Value)) (dg st : Int) (h : Heap) (tk : Nat), Fr h₀ L h m → News h₀ L h [(d, o)] → (d == sysModules) = false → o.IsDictOf (strKind PySem.Challenge.rw_pc0361_01.row.prog w) kvs → FlatPairs PyData.str kvs (srcD dg st) →  0 ≤ dg → 0 ≤ st → Q (.ref d) { s with heap := h, toks := tk }) →
    wpAny (model PySem.Challenge.rw_pc0361_01.row.prog w) (ktrTop dp un gd cn cs L a ccd cl outer) (call (.ref 173) [.ref l]) Q E s := by
  w_on
  k_fill
  intro mean mg mb dp un gd cn cs a ccd cl outer A₀ base h₀ L m s Q E l vs ns news B F X N T hk hdp hun hl hi hfit ret
  have hmark : KstMark := kstMark
  refine wpAny_call ?_
  k_dflt cell_enter
  repeat' (first | (k_unfold; (try dsimp only)) | (k_end; wrow_close) | (with_reducible (k_here; (with_reducible show wpAny _ _ (compareOp CmpOp.NotEq (Value.ref _) (Value.ref _)) _ _ _); k_dflt (refine ke_ne_ints (by is_list) (by is_list) (by l_ints) (by l_ints) (by ktr_units) ?_); ke_norm)) | (with_reducible (k_here; (with_reducible show wpAny _ _ (subscriptTail _ _ (Value.ref _) (Value.int _ _)) _ _ _); k_dflt (refine' Mine.item_script ?zzl ?zzi ?zza ?zzb ?zzc ?_; (case zzl => is_list); (case zzi => assumption); (case zza => exact Int.le_refl 0); (case zzb => exact Mine.ne_len (by assumption)); (case zzc => decide)); intro xi ti)) | walk1 | (dsimp only; walk1) | (leave1; walk_say "STEP leave1"; try dsimp only) | fail "no step")
  all_goals (refine' ret _ _ _ _ _ _ _ (by k_asm) (cb_drop (by k_asm) (List.forall_mem_cons.mpr ⟨by k_mem, List.forall_mem_nil _⟩)) (by assumption) (by assumption) (flat_to (by assumption) (by with_unfolding_all rfl)) _ _)
  all_goals (try clear ret)
  all_goals with_reducible first | exact src_abs _ | exact src_stir _ | exact Int.le_refl 0
end Mine

end
section
-- part S8
namespace Mine
open PySem.Spec PySem.Calls PyProof.V
theorem sh_div {a r : Int} (hr : 0 < r) : a = r * a.fdiv r + a.fmod r ∧ 0 ≤ a.fmod r ∧ a.fmod r < r := ⟨(Int.mul_fdiv_add_fmod a r).symm, Int.fmod_nonneg_of_pos a hr, Int.fmod_lt_of_pos a hr⟩
theorem sh_one {b : Int} (hb : 1 ≤ b) : (if b < 1 then b else 1) = (1 : Int) := if_neg (by omega)
theorem sh_five {b : Int} : b * 100 - (b + 5) * 100 = -500 := by omega
theorem sh_level {b : Int} : (b * 100 - (b + 5) * 100).fdiv 100 = -5 := by rw [sh_five]; decide
theorem sh_parts {r : Int} (hr : 0 ≤ r) (h : r ≠ 0) : 600 ≤ r * (600 + r - 1).fdiv r ∧ r * (600 + r - 1).fdiv r ≤ 599 + r ∧ 1 ≤ (600 + r - 1).fdiv r := by
  obtain ⟨e, a, b⟩ := sh_div (a := 600 + r - 1) (show 0 < r by omega)
  have h1 : 600 ≤ r * (600 + r - 1).fdiv r := by omega
  refine ⟨h1, by omega, ?_⟩
  by_cases hw : 1 ≤ (600 + r - 1).fdiv r
  · exact hw
  · exfalso
    have := Int.mul_le_mul_of_nonneg_left (show (600 + r - 1).fdiv r ≤ 0 by omega) hr
    omega
theorem sh_w {r b : Int} (hb : 1 ≤ b) : ((if b < 1 then b else 1) * 100 - (b * 100 - (b + 5) * 100) + r - 1).fdiv r = (600 + r - 1).fdiv r := by
  rw [sh_one hb, sh_five]
  exact congrArg (fun x => Int.fdiv x r) (by omega)
theorem sh_K {r b : Int} (hb : 1 ≤ b) (h : 0 + ((if b < 1 then b else 1) * 100 - (b * 100 - (b + 5) * 100) + r - 1).fdiv r ≠ (600 + r - 1).fdiv r) : False := h (by rw [sh_w hb, Int.zero_add])
theorem sh_T {v : Int} (h : 1 ≤ v) : fT 0 (v - 1) = v - 1 := by unfold fT; split <;> omega
theorem sh_U (v : Int) : fT (v - 1) v = v := by unfold fT; rw [if_pos (by omega)]
theorem sh_H {r b : Int} (hb : 1 ≤ b) (hr : 0 ≤ r) (h0 : r ≠ 0) (h : (if b < 1 then b else 1) * 100 ≤ fG r (100 * b) (b * 100 - (b + 5) * 100) 0 (0 + ((if b < 1 then b else 1) * 100 - (b * 100 - (b + 5) * 100) + r - 1).fdiv r - 1)) : False := by
  obtain ⟨a1, a2, a3⟩ := sh_parts hr h0
  simp only [sh_w hb, Int.zero_add] at h; simp only [sh_one hb, sh_five] at h
  unfold fG fZ at h
  rw [sh_T a3, Int.sub_zero, Int.mul_sub, Int.mul_one] at h
  generalize r * (600 + r - 1).fdiv r = y at *
  split at h <;> omega
theorem sh_J {r b : Int} (hb : 1 ≤ b) (hr : 0 ≤ r) (h0 : r ≠ 0) (h : ¬ (if b < 1 then b else 1) * 100 ≤ fG r (100 * b) (fG r (100 * b) (b * 100 - (b + 5) * 100) 0 (0 + ((if b < 1 then b else 1) * 100 - (b * 100 - (b + 5) * 100) + r - 1).fdiv r - 1)) (fT 0 (0 + ((if b < 1 then b else 1) * 100 - (b * 100 - (b + 5) * 100) + r - 1).fdiv r - 1)) (0 + ((if b < 1 then b else 1) * 100 - (b * 100 - (b + 5) * 100) + r - 1).fdiv r)) : False := by
  obtain ⟨a1, a2, a3⟩ := sh_parts hr h0
  simp only [sh_w hb, Int.zero_add] at h; simp only [sh_one hb, sh_five] at h
  rw [sh_T a3] at h
  unfold fG fZ at h
  rw [sh_T a3, sh_U, Int.sub_zero, show (600 + r - 1).fdiv r - ((600 + r - 1).fdiv r - 1) = 1 by omega, Int.mul_sub, Int.mul_one] at h
  generalize r * (600 + r - 1).fdiv r = y at *
  rw [if_neg (show ¬ 100 * b < -500 + (y - r) by omega)] at h
  split at h <;> omega
set_option maxRecDepth 100000 in
set_option maxHeartbeats 4000000 in
theorem shaped_spec (w : World) : ∀ (mean : ExcName → Option Value) (mg mb : Str → Option Value) (dp un : Nat) (gd : Option (List Code)) (cn : Str) (cs : Scope) (a : Addr) (ccd : Value) (cl : List (Str × Addr)) (outer : List Env) (A₀ : Around) (base h₀ : Heap) (L : Addr) (m : Str → Option Value) (s : Shared) (Q E : Value → Shared → Prop) (r b : Int) (tr tb : Tok) (news : List (Addr × Obj)),
    Below A₀ base outer h₀ → Fr h₀ L s.heap m → (hd.heap_39 w.params).In h₀ → News h₀ L s.heap news → Top hd.view_39 (looseW hd.view_39 [Str.ofString "SettingError"]) mean mg mb h₀ → cs.kind = .function → dp + 8 < recursionLimit → un + 64 < cLine → 
    0 ≤ r → r ≤ 700 → 1 ≤ b → b ≤ 64 →
    (∀ (bv : Bool) (h : Heap) (tk : Nat), bv = true → Fr h₀ L h m → Q (.bool bv) { s with heap := h, toks := tk }) →
    wpAny (model PySem.Challenge.rw_pc0361_01.row.prog w) (ktrTop dp un gd cn cs L a ccd cl outer) (call (.ref 222) [.int r tr, .int b tb]) Q E s := by
  w_on
  k_fill
  intro mean mg mb dp un gd cn cs a ccd cl outer A₀ base h₀ L m s Q E r b tr tb news B F X N T hk hdp hun hr hr2 hb hb2 ret
  have hmark : KstMark := kstMark
  refine wpAny_call ?_
  k_dflt cell_enter
  repeat' (first | (k_unfold; (try dsimp only)) | (k_end; wrow_close) | (((with_reducible show wpAny _ _ (PySem.call _ _) _ _ _); first | with_reducible (k_here; (with_reducible show wpAny _ _ (PySem.call (Value.ref 75) [Value.ref _, Value.int _ _]) _ _ _); k_dflt (refine' Mine.still_use ?zzB ?zzF ?zzX ?zzN ?zzT ?zzk ?zzp ?zzq ?zzU ?zzm ?zzn ?zzx0 ?_; (case zzB => k_asm); (case zzF => k_asm); (case zzX => k_asm); (case zzN => k_asm); (case zzT => k_asm); (case zzk => first | exact rfl | assumption); (case zzp => ktr_room); (case zzq => ktr_units); (case zzm => k_mem); (case zzU => k_updF); (case zzn => k_ne); (case zzx0 => omega)); intro t' h' tk' F' N'; (try simp only [List.nil_append, List.cons_append, List.append_nil] at N'); (try dsimp only at N'); (try k_sweep); (try dsimp only); (try k_fold); walk_say "USED still") | with_reducible (k_here; (with_reducible show wpAny _ _ (PySem.call (Value.ref 75) [Value.ref _, Value.int _ _]) _ _ _); k_dflt (refine' Mine.fill_use ?zzB ?zzF ?zzX ?zzN ?zzT ?zzk ?zzp ?zzq ?zzU ?zzm ?zzn ?zzx0 ?zzx1 ?zzx2 ?_; (case zzB => k_asm); (case zzF => k_asm); (case zzX => k_asm); (case zzN => k_asm); (case zzT => k_asm); (case zzk => first | exact rfl | assumption); (case zzp => ktr_room); (case zzq => ktr_units); (case zzm => k_mem); (case zzU => k_updF); (case zzn => k_ne); (case zzx0 => omega); (case zzx1 => omega); (case zzx2 => omega)); intro t' tg' tt' h' tk' F' N' p1 p2 q1; (try simp only [List.nil_append, List.cons_append, List.append_nil] at N'); (try dsimp only at N'); (try k_sweep); (try dsimp only); (try k_fold); walk_say "USED fill") | with_reducible (k_here; k_dflt (refine' call_cls ?zzk1 ?zzk2 ?zzk3 ?zzk4 ?zzk5 ?zzk6 ?_; (case zzk1 => k_asm); (case zzk2 => k_asm); (case zzk3 => k_asm); (case zzk4 => k_is); (case zzk5 => k_is); (case zzk6 => k_is); k_whole; intro x' d' h' F' N' l1 l2; (try k_lt l1); (try k_lt2 l2); (try k_sweep); refine' code_def ?zzk1 ?zzk2 ?zzk3 ?zzk4 ?zzk5 ?zzkA ?zzkF ?zzkK ?zzk6 ?zzk7 ?zzk8 ?zzk9 ?zzkB ?_ ?zzc2 ?zzc3 ?zzc4 ?zzc5; (case zzkA => exact rfl); (case zzkF => exact rfl); (case zzkK => first | exact rfl | assumption); (case zzk1 => k_asm); (case zzk2 => k_asm); (case zzk3 => k_asm); (case zzk4 => k_asm); (case zzk5 => k_asm); (case zzk6 => k_is); (case zzk7 => k_is); (case zzk8 => ktr_room); (case zzk9 => exact BindsTo.of_eq rfl); (case zzc5 => decide); (case zzkB => exact locs rfl); (case zzc2 => exact rfl); (case zzc3 => exact rfl); (case zzc4 => exact rfl); k_whole; intro g' L' h' FG' F' N' B' X' T'; (try dsimp only); (try k_lift B'); (try k_fold))) | with_reducible (k_here; (with_reducible show wpAny _ _ (PySem.call (Value.ref _) _) _ _ _); refine wpAny_call ?_; k_dflt (refine' code_def ?zzk1 ?zzk2 ?zzk3 ?zzk4 ?zzk5 ?zzkA ?zzkF ?zzkK ?zzk6 ?zzk7 ?zzk8 ?zzk9 ?zzkB ?_ ?zzc2 ?zzc3 ?zzc4 ?zzc5; (case zzkA => exact rfl); (case zzkF => exact rfl); (case zzkK => first | exact rfl | assumption); (case zzk1 => k_asm); (case zzk2 => k_asm); (case zzk3 => k_asm); (case zzk4 => k_asm); (case zzk5 => k_asm); (case zzk6 => k_is); (case zzk7 => k_is); (case zzk8 => ktr_room); (case zzk9 => exact BindsTo.of_eq rfl); (case zzc5 => decide); (case zzkB => exact locs rfl); (case zzc2 => exact rfl); (case zzc3 => exact rfl); (case zzc4 => exact rfl); k_whole; intro g' L' h' FG' F' N' B' X' T'; (try dsimp only); (try k_lift B'); (try k_fold)))) <;> (try dsimp only)) | (walk1 <;> (try dsimp only)) | (leave1; walk_say "STEP leave1"; try dsimp only) | fail "no step")
  all_goals (refine' ret _ _ _ _ (by k_asm))
  all_goals (with_reducible first | rfl | (exfalso; with_reducible first | exact absurd sh_level (by assumption) | (exact absurd (by assumption : r = 0) (by assumption)) | exact sh_K hb (by assumption) | exact sh_H hb hr (by assumption) (by assumption) | exact sh_J hb hr (by assumption) (by assumption)) | skip)
end Mine

end
section
-- part S9
namespace Mine
open PySem.Spec PySem.Calls PyProof.V
theorem rate_bounds : ∀ x ∈ [(0 : Int), 1, 33, 50, 99, 700], 0 ≤ x ∧ x ≤ 700 := by decide
theorem burst_bounds : ∀ x ∈ [(1 : Int), 5, 20, 64], 1 ≤ x ∧ x ≤ 64 := by decide
theorem step_bounds : ∀ x ∈ [(0 : Int), 1, 3, 10, 40, -5], -5 ≤ x ∧ x ≤ 40 := by decide
theorem source_use {w : World} {mean : ExcName → Option Value} {mg mb : Str → Option Value} {dp un : Nat} {gd : Option (List Code)} {cn : Str} {cs : Scope} {a : Addr} {ccd : Value} {cl : List (Str × Addr)} {outer : List Env} {A₀ : Around} {base h₀ : Heap} {L : Addr} {m : Str → Option Value} {s : Shared} {Q E : Value → Shared → Prop} {l : Addr} {vs : List Value} {ns : List Int} {news : List (Addr × Obj)}
    (B : Below A₀ base outer h₀) (F : Fr h₀ L s.heap m) (X : (hd.heap_39 w.params).In h₀) (N : News h₀ L s.heap news) (T : Top hd.view_39 (looseW hd.view_39 [Str.ofString "SettingError"]) mean mg mb h₀) (hk : cs.kind = .function) (hdp : dp + 1 < recursionLimit) (hun : un + 128 < cLine)
    (hl : base.IsList l vs.toArray) (hi : IntsAre vs ns) (hfit : ns.length < 2 ^ 62)
    (ret : ∀ (d : Addr) (o : Obj) (kvs : List (Str × Value)) (dg st : Int) (h : Heap) (tk : Nat), Fr h₀ L h m → News h₀ L h [(d, o)] → (d == sysModules) = false → o.IsDictOf (strKind PySem.Challenge.rw_pc0361_01.row.prog w) kvs → FlatPairs PyData.str kvs (srcD dg st) →  0 ≤ dg → 0 ≤ st → Q (.ref d) { s with heap := h, toks := tk }) :
    wpAny (model PySem.Challenge.rw_pc0361_01.row.prog w) (ktrTop dp un gd cn cs L a ccd cl outer) (call (.ref 173) [.ref l]) Q E s := source_spec w _ _ _ _ _ _ _ _ _ _ _ _ _ _ _ _ _ _ Q E l vs ns news B F X N T hk hdp hun hl hi hfit ret
theorem shaped_use {w : World} {mean : ExcName → Option Value} {mg mb : Str → Option Value} {dp un : Nat} {gd : Option (List Code)} {cn : Str} {cs : Scope} {a : Addr} {ccd : Value} {cl : List (Str × Addr)} {outer : List Env} {A₀ : Around} {base h₀ : Heap} {L : Addr} {m : Str → Option Value} {s : Shared} {Q E : Value → Shared → Prop} {r b : Int} {tr tb : Tok} {news : List (Addr × Obj)}
    (B : Below A₀ base outer h₀) (F : Fr h₀ L s.heap m) (X : (hd.heap_39 w.params).In h₀) (N : News h₀ L s.heap news) (T : Top hd.view_39 (looseW hd.view_39 [Str.ofString "SettingError"]) mean mg mb h₀) (hk : cs.kind = .function) (hdp : dp + 8 < recursionLimit) (hun : un + 64 < cLine)
    (hr : 0 ≤ r) (hr2 : r ≤ 700) (hb : 1 ≤ b) (hb2 : b ≤ 64)
    (ret : ∀ (h : Heap) (tk : Nat), Fr h₀ L h m → News h₀ L h [] → Q (.bool true) { s with heap := h, toks := tk }) :
    wpAny (model PySem.Challenge.rw_pc0361_01.row.prog w) (ktrTop dp un gd cn cs L a ccd cl outer) (call (.ref 222) [.int r tr, .int b tb]) Q E s := shaped_spec w _ _ _ _ _ _ _ _ _ _ _ _ _ _ _ _ _ _ Q E r b tr tb news B F X N T hk hdp hun hr hr2 hb hb2 (fun bv h tk e F' => by subst e; exact ret h tk F' fun p hp => nomatch hp)
theorem deed_use {w : World} {mean : ExcName → Option Value} {mg mb : Str → Option Value} {dp un : Nat} {gd : Option (List Code)} {cn : Str} {cs : Scope} {a : Addr} {ccd : Value} {cl : List (Str × Addr)} {outer : List Env} {A₀ : Around} {base h₀ : Heap} {L : Addr} {m : Str → Option Value} {s : Shared} {Q E : Value → Shared → Prop} {ds dw x dx : Addr} {os ow : Obj} {kvs kws : List (Str × Value)} {dg st : Int} {k1 k2 k3 k4 tr tb tg tt : Tok} {r b gr t now : Int} {tn : Tok} {news rest : List (Addr × Obj)}
    (B : Below A₀ base outer h₀) (F : Fr h₀ L s.heap m) (X : (hd.heap_39 w.params).In h₀) (N : News h₀ L s.heap news) (T : Top hd.view_39 (looseW hd.view_39 [Str.ofString "SettingError"]) mean mg mb h₀) (hk : cs.kind = .function) (hdp : dp + 4 < recursionLimit) (hun : un + 32 < cLine)
    (m1 : (ds, os) ∈ news) (m2 : (dw, ow) ∈ news) (m3 : (x, instObj 120 dx) ∈ news) (m4 : (dx, bktO w k1 k2 k3 k4 tr tb tg tt r b gr t) ∈ news) (off : OwnOff rest [ds, dw, x, dx]) (hrest : ∀ p ∈ rest, p ∈ news)
    (n1 : @Ne Nat ds dw) (n2 : @Ne Nat ds x) (n3 : @Ne Nat ds dx) (n4 : @Ne Nat dw x) (n5 : @Ne Nat dw dx) (n6 : @Ne Nat x dx)
    (sm : (ds == sysModules) = false) (hd1 : os.IsDictOf (strKind PySem.Challenge.rw_pc0361_01.row.prog w) kvs) (hf1 : FlatPairs PyData.str kvs (srcD dg st)) (h0 : 0 ≤ dg) (h1 : 0 ≤ st) (sm2 : (dw == sysModules) = false) (hd2 : ow.IsDictOf (strKind PySem.Challenge.rw_pc0361_01.row.prog w) kws) (hf2 : FlatPairs PyData.str kws (ownD r (100 * b) gr t))
    (hr : 0 ≤ r) (hr2 : r ≤ 1000) (hb : 1 ≤ b) (hb2 : b ≤ 64) (hg : gr ≤ 100 * b)
    (ret : ∀ (os ow : Obj) (kvs kws : List (Str × Value)) (dg st gr t : Int) (tg tt : Tok) (h : Heap) (tk : Nat), gr ≤ 100 * b → now ≤ t →
      Fr h₀ L h m → News h₀ L h ((ds, os) :: (dw, ow) :: (x, instObj 120 dx) :: (dx, bktO w k1 k2 k3 k4 tr tb tg tt r b gr t) :: rest) → os.IsDictOf (strKind PySem.Challenge.rw_pc0361_01.row.prog w) kvs → FlatPairs PyData.str kvs (srcD dg st) →  0 ≤ dg → 0 ≤ st → ow.IsDictOf (strKind PySem.Challenge.rw_pc0361_01.row.prog w) kws → FlatPairs PyData.str kws (ownD r (100 * b) gr t) →  Q (.bool true) { s with heap := h, toks := tk }) :
    wpAny (model PySem.Challenge.rw_pc0361_01.row.prog w) (ktrTop dp un gd cn cs L a ccd cl outer) (call (.ref 208) [.ref ds, .ref x, .ref dw, .int now tn]) Q E s := by
  have N1 : News h₀ L s.heap ((ds, os) :: (dw, ow) :: (x, instObj 120 dx) :: (dx, bktO w k1 k2 k3 k4 tr tb tg tt r b gr t) :: rest) := by
    intro p hp
    simp only [List.mem_cons] at hp
    rcases hp with rfl | rfl | rfl | rfl | hp
    · exact N _ m1
    · exact N _ m2
    · exact N _ m3
    · exact N _ m4
    · exact N _ (hrest p hp)
  refine deed_spec w _ _ _ _ _ _ _ _ _ _ _ _ _ _ _ _ _ _ Q E ds dw x dx os ow kvs kws dg st k1 k2 k3 k4 tr tb tg tt r b gr t now tn rest B F X N1 off T hk hdp hun n1 n2 n3 n4 n5 n6 sm hd1 hf1 h0 h1 sm2 hd2 hf2 hr hr2 hb hb2 hg ?_
  intro bv os ow kvs kws dg st g1 g2 t1 t2 tg tt h tk e1 e2 e3 hg2 hn F' N' a1 a2 a3 a4 a5 a6
  subst e1 e2 e3
  exact ret os ow kvs kws dg st g1 t1 tg tt h tk hg2 hn F' N' a1 a2 a3 a4 a5 a6
abbrev St := Obj × Obj × List (Str × Value) × List (Str × Value) × Int × Int × Int × Int × Int × Tok × Tok × Tok
def LedL (w : World) (ds dw bx dx : Addr) (k1 k2 k3 k4 tr tb : Tok) (r b : Int) (c : St) : List (Addr × Obj) := [(ds, c.1), (dw, c.2.1), (bx, instObj 120 dx), (dx, bktO w k1 k2 k3 k4 tr tb c.2.2.2.2.2.2.2.2.2.1 c.2.2.2.2.2.2.2.2.2.2.1 r b c.2.2.2.2.2.2.1 c.2.2.2.2.2.2.2.1)]
def FactsL (w : World) (r b : Int) (c : St) : Prop := c.1.IsDictOf (strKind PySem.Challenge.rw_pc0361_01.row.prog w) c.2.2.1 ∧ FlatPairs PyData.str c.2.2.1 (srcD c.2.2.2.2.1 c.2.2.2.2.2.1) ∧ c.2.1.IsDictOf (strKind PySem.Challenge.rw_pc0361_01.row.prog w) c.2.2.2.1 ∧ FlatPairs PyData.str c.2.2.2.1 (ownD r (100 * b) c.2.2.2.2.2.2.1 c.2.2.2.2.2.2.2.1)
def PL (b : Int) (_ : List Int) (c : St) : Prop := 0 ≤ c.2.2.2.2.1 ∧ 0 ≤ c.2.2.2.2.2.1 ∧ c.2.2.2.2.2.2.1 ≤ 100 * b
def psL (c : St) : List (Str × Value) := [(Str.ofString "now", .int c.2.2.2.2.2.2.2.2.1 c.2.2.2.2.2.2.2.2.2.2.2)]
def SL (w : World) (ds dw bx dx : Addr) (k1 k2 k3 k4 tr tb : Tok) (r b : Int) (x : Str) (m₀ : Str → Option Value) (pre : List Int) : (Str → Option Value) → List (Addr × Obj) → Prop :=
  KstS (LedL w ds dw bx dx k1 k2 k3 k4 tr tb r b) psL (FactsL w r b) x [] m₀ (PL b) pre
theorem loop_end {w : World} {ds dw bx dx : Addr} {k1 k2 k3 k4 tr tb : Tok} {r b : Int} {x : Str} {m₀ m' : Str → Option Value} {pre : List Int} {h₀ h' : Heap} {L : Addr} {own news : List (Addr × Obj)} {s₁ : Shared} {tk : Nat} {os ow : Obj} {kvs kws : List (Str × Value)} {dg st g t now : Int} {tg tt tn : Tok}
    (F : Fr h₀ L h' m') (N : News h₀ L h' news) (hn : ∀ p ∈ ((ds, os) :: (dw, ow) :: (bx, instObj 120 dx) :: (dx, bktO w k1 k2 k3 k4 tr tb tg tt r b g t) :: []), p ∈ news) (ho : ∀ p ∈ own, p ∈ news)
    (d1 : os.IsDictOf (strKind PySem.Challenge.rw_pc0361_01.row.prog w) kvs) (f1 : FlatPairs PyData.str kvs (srcD dg st)) (d2 : ow.IsDictOf (strKind PySem.Challenge.rw_pc0361_01.row.prog w) kws) (f2 : FlatPairs PyData.str kws (ownD r (100 * b) g t))
    (hk : m' (Str.ofString "now") = some (.int now tn)) (hr : ∀ z, z ≠ x → z ≠ Str.ofString "now" → m' z = m₀ z) (p1 : 0 ≤ dg) (p2 : 0 ≤ st) (p3 : g ≤ 100 * b) :
    InvEndN h₀ L (SL w ds dw bx dx k1 k2 k3 k4 tr tb r b x m₀ pre) own [ds, dw, bx, dx] s₁ { s₁ with heap := h', toks := tk } :=
  kst_end (⟨os, ow, kvs, kws, dg, st, g, t, now, tg, tt, tn⟩ : St) F N hn ho rfl ⟨d1, f1, d2, f2⟩ (fun p hp => by rw [List.mem_singleton.mp hp]; exact hk) (fun z hz h2 _ => hr z hz (h2 _ (.head _))) ⟨p1, p2, p3⟩
theorem loop_use {w : World} {ds dw bx dx : Addr} {k1 k2 k3 k4 tr tb : Tok} {r b : Int} {A : Around} {E : Value → Shared → Prop} {s : Shared} {env : Env} {h₀ : Heap} {x : Str} {body : List Stmt} {Q : Flow → Shared → Prop} {rr : Addr} {k : Int} {t₀ u₀ v₀ : Tok} {m₀ : Str → Option Value} {news : List (Addr × Obj)} {os ow : Obj} {kvs kws : List (Str × Value)} {dg st : Int} {tg tt tn : Tok}
    (hh : A.handled = none) (hr : IsRange s.heap rr 0 (6 + k) 1 t₀ u₀ v₀) (hk0 : 0 ≤ k) (hk1 : k < 9)
    (F : Fr h₀ env.locals s.heap m₀) (N : News h₀ env.locals s.heap news) (m1 : (ds, os) ∈ news) (m2 : (dw, ow) ∈ news) (m3 : (bx, instObj 120 dx) ∈ news) (m4 : (dx, bktO w k1 k2 k3 k4 tr tb tg tt r b (b * 100) 0) ∈ news)
    (d1 : os.IsDictOf (strKind PySem.Challenge.rw_pc0361_01.row.prog w) kvs) (f1 : FlatPairs PyData.str kvs (srcD dg st)) (d2 : ow.IsDictOf (strKind PySem.Challenge.rw_pc0361_01.row.prog w) kws) (f2 : FlatPairs PyData.str kws (ownD r (100 * b) (100 * b) 0))
    (hnow : m₀ (Str.ofString "now") = some (.int 0 tn)) (p1 : 0 ≤ dg) (p2 : 0 ≤ st)
    (turn : ∀ (pre : List Int) (os ow : Obj) (kvs kws : List (Str × Value)) (dg st g t now : Int) (tg tt tn : Tok) (j : Int) (tj : Tok) (h : Heap) (tk : Nat) (own : List (Addr × Obj)), OwnOff own [ds, dw, bx, dx] →
      os.IsDictOf (strKind PySem.Challenge.rw_pc0361_01.row.prog w) kvs → FlatPairs PyData.str kvs (srcD dg st) →  ow.IsDictOf (strKind PySem.Challenge.rw_pc0361_01.row.prog w) kws → FlatPairs PyData.str kws (ownD r (100 * b) g t) →  0 ≤ dg → 0 ≤ st → g ≤ 100 * b →
      Fr h₀ env.locals h (fun y => if y = x then some (.int j tj) else if y = Str.ofString "now" then some (.int now tn) else m₀ y) → News h₀ env.locals h ((ds, os) :: (dw, ow) :: (bx, instObj 120 dx) :: (dx, bktO w k1 k2 k3 k4 tr tb tg tt r b g t) :: own) →
      wpAny (model PySem.Challenge.rw_pc0361_01.row.prog w) A (execs body env) (InvPostN h₀ env.locals (SL w ds dw bx dx k1 k2 k3 k4 tr tb r b x m₀ pre) own [ds, dw, bx, dx] { s with heap := h, toks := tk } Q) E { s with heap := h, toks := tk })
    (done : ∀ (u : Str → Option Value) (now : Int) (tn : Tok) (h : Heap) (tk : Nat), Fr h₀ env.locals h (fun y => if y = x then u y else if y = Str.ofString "now" then some (.int now tn) else m₀ y) → News h₀ env.locals h [] → Q .next { s with heap := h, toks := tk }) :
    wpAny (model PySem.Challenge.rw_pc0361_01.row.prog w) A (pyIter (.ref rr)) (fun it s₂ => LoopAtV PySem.Challenge.rw_pc0361_01.row.prog w A h₀ env x body Q E it s₂) E s := by
  have f2' : FlatPairs PyData.str kws (ownD r (100 * b) (b * 100) 0) := by rw [Int.mul_comm b 100]; exact f2
  refine kst_range (n := (6 + k).toNat) (LedL w ds dw bx dx k1 k2 k3 k4 tr tb r b) psL (FactsL w r b) [] (PL b) (⟨os, ow, kvs, kws, dg, st, b * 100, 0, 0, tg, tt, tn⟩ : St) hh hr (small_one (by omega) (by omega) (by omega) (by omega)) ?_ F (fun p hp => ?_) ⟨d1, f1, d2, f2'⟩ (fun p hp => by rw [List.mem_singleton.mp hp]; exact hnow) ⟨p1, p2, by rw [Int.mul_comm]; exact Int.le_refl _⟩ ?_ ?_
  · rw [rangeSize_nat, Int.sub_zero]
  · simp only [LedL, List.mem_cons, List.not_mem_nil, or_false] at hp
    rcases hp with rfl | rfl | rfl | rfl
    · exact N _ m1
    · exact N _ m2
    · exact N _ m3
    · exact N _ m4
  · intro c pre k t u h tk own _ _ off hf hp F' N'
    exact turn _ c.1 c.2.1 c.2.2.1 c.2.2.2.1 c.2.2.2.2.1 c.2.2.2.2.2.1 c.2.2.2.2.2.2.1 c.2.2.2.2.2.2.2.1 c.2.2.2.2.2.2.2.2.1 c.2.2.2.2.2.2.2.2.2.1 c.2.2.2.2.2.2.2.2.2.2.1 c.2.2.2.2.2.2.2.2.2.2.2 k t h tk own off hf.1 hf.2.1 hf.2.2.1 hf.2.2.2 hp.1 hp.2.1 hp.2.2 F' N'
  · intro c u h tk _ _ F' _
    exact done u c.2.2.2.2.2.2.2.2.1 c.2.2.2.2.2.2.2.2.2.2.2 h tk F' (fun p hp => nomatch hp)
theorem ne_same {prog : Program} {w : World} {A : Around} {E : Value → Shared → Prop} {s : Shared} {a : Int} {t u : Tok} {Q : Value → Shared → Prop} (h : Q (.bool false) s) : wpAny (model prog w) A (compareOp .NotEq (.int a t) (.int a u)) Q E s :=
  PyProof.Rows.ne_int (by rw [show (a != a) = false from bne_self_eq_false a]; exact h)
theorem not_no {M : Model} {A : Around} {E : Value → Shared → Prop} {s : Shared} {Q : Value → Shared → Prop} (h : Q (.bool true) s) : wpAny M A (unaryOp .Not (.bool false)) Q E s := not_of (wpAny_truthy_bool h)
set_option maxRecDepth 100000 in
set_option maxHeartbeats 8000000 in
theorem law_holds : PySem.Challenge.rw_pc0361_01.Holds := hd (by
  w_on
  k_go0
  all_goals (try k_fold)
  have hmark : KstMark := kstMark
  repeat' (first | (k_unfold; (try dsimp only)) | (k_end; wrow_close) | (((with_reducible show wpAny _ _ (PySem.unaryOp UnaryOp.Not _) _ _ _); first | with_reducible (k_here; (with_reducible refine Mine.not_no (Mine.stop_of ?_)); walk_say "USED not") | (k_here; (with_reducible refine Mine.not_no (Mine.stop_of ?_)); walk_say "USED not")) <;> (try dsimp only)) | (((with_reducible show InvEndN _ _ _ _ _ _ _); first | with_reducible (refine Mine.stop_of ?_) | (refine Mine.stop_of ?_)) <;> (try dsimp only)) | (((with_reducible show wpAny _ _ (PySem.pyIter (Value.ref _)) _ _ _); first | with_reducible (k_here; refine Mine.stop_of ?_) | (k_here; refine Mine.stop_of ?_)) <;> (try dsimp only)) | (((with_reducible show wpAny _ _ (PySem.exec (Stmt.For _ _ _ _ _) _) _ _ _); first | with_reducible (k_here; (rename Fr _ _ _ _ => lF'); (with_unfolding_all refine' For_invVF lF' ?zzk1 ?zzk2 ?_; (case zzk1 => exact rfl); (case zzk2 => exact rfl); k_whole)) | (k_here; (rename Fr _ _ _ _ => lF'); (with_unfolding_all refine' For_invVF lF' ?zzk1 ?zzk2 ?_; (case zzk1 => exact rfl); (case zzk2 => exact rfl); k_whole))) <;> (try dsimp only)) | (((with_reducible show wpAny _ _ (PySem.compareOp CmpOp.NotEq (Value.int _ _) (Value.int _ _)) _ _ _); first | with_reducible (k_here; with_reducible refine Mine.ne_same ?_) | (k_here; with_reducible refine Mine.ne_same ?_)) <;> (try dsimp only)) | (((with_reducible show wpAny _ _ (PySem.call _ _) _ _ _); first | with_reducible (k_here; (with_reducible show wpAny _ _ (PySem.call (Value.ref 215) [Value.int _ _, Value.int _ _]) _ _ _); k_dflt (first | (refine' Mine.refused_use (bv := true) ?zzrfB ?zzrfF ?zzrfX ?zzrfT ?zzrfXB ?zzrfTB ?zzrfK ?zzrfP ?zzrfE ?_; (case zzrfE => decide); (case zzrfB => k_asm); (case zzrfF => k_asm); (case zzrfX => k_asm); (case zzrfT => k_asm); (case zzrfXB => k_asm); (case zzrfTB => k_asm); (case zzrfK => exact rfl); (case zzrfP => ktr_room)) | (refine' Mine.refused_use (bv := false) ?zzrfB ?zzrfF ?zzrfX ?zzrfT ?zzrfXB ?zzrfTB ?zzrfK ?zzrfP ?zzrfE ?_; (case zzrfE => decide); (case zzrfB => k_asm); (case zzrfF => k_asm); (case zzrfX => k_asm); (case zzrfT => k_asm); (case zzrfXB => k_asm); (case zzrfTB => k_asm); (case zzrfK => exact rfl); (case zzrfP => ktr_room))); intro h' tk' F' N'; (try dsimp only); (try k_fold); walk_say "USED refused") | with_reducible (k_here; (with_reducible show wpAny _ _ (PySem.call (Value.ref 208) [Value.ref _, Value.ref _, Value.ref _, Value.int _ _]) _ _ _); k_dflt (refine' Mine.deed_use ?zzB ?zzF ?zzX ?zzN ?zzT ?zzk ?zzp ?zzq ?zzm1 ?zzm2 ?zzm3 ?zzm4 ?zzoff ?zzhr ?zzn1 ?zzn2 ?zzn3 ?zzn4 ?zzn5 ?zzn6 ?zzs1 ?zzd1 ?zzf1 ?zzz1 ?zzz2 ?zzs2 ?zzd2 ?zzf2 ?zzr1 ?zzr2 ?zzb1 ?zzb2 ?zzg ?_; (case zzB => k_asm); (case zzF => k_asm); (case zzX => k_asm); (case zzN => k_asm); (case zzT => k_asm); (case zzk => first | exact rfl | assumption); (case zzp => ktr_room); (case zzq => ktr_units); (case zzm1 => k_mem); (case zzm2 => k_mem); (case zzm3 => k_mem); (case zzm4 => k_mem); (case zzoff => assumption); (case zzhr => (intro p hp; repeat (first | exact hp | refine List.Mem.tail _ ?_))); (case zzn1 => k_ne); (case zzn2 => k_ne); (case zzn3 => k_ne); (case zzn4 => k_ne); (case zzn5 => k_ne); (case zzn6 => k_ne); (case zzs1 => assumption); (case zzd1 => assumption); (case zzf1 => assumption); (case zzz1 => assumption); (case zzz2 => assumption); (case zzs2 => assumption); (case zzd2 => assumption); (case zzf2 => assumption); (case zzr1 => assumption); (case zzr2 => omega); (case zzb1 => assumption); (case zzb2 => assumption); (case zzg => assumption)); intro os' ow' kvs' kws' dg' st' gr' t' tg' tt' h' tk' hg' hn' F' N' hd1' hf1' p1 p2 hd2' hf2'; (try dsimp only at N'); (try k_sweep); (try dsimp only); (try k_fold); walk_say "USED deed") | with_reducible (k_here; (with_reducible show wpAny _ _ (PySem.call (Value.ref 75) [Value.ref _, Value.int _ _]) _ _ _); k_dflt (refine' Mine.still_use ?zzB ?zzF ?zzX ?zzN ?zzT ?zzk ?zzp ?zzq ?zzU ?zzm ?zzn ?zzx0 ?_; (case zzB => k_asm); (case zzF => k_asm); (case zzX => k_asm); (case zzN => k_asm); (case zzT => k_asm); (case zzk => first | exact rfl | assumption); (case zzp => ktr_room); (case zzq => ktr_units); (case zzm => k_mem); (case zzU => k_updF); (case zzn => k_ne); (case zzx0 => omega)); intro t' h' tk' F' N'; (try simp only [List.nil_append, List.cons_append, List.append_nil] at N'); (try dsimp only at N'); (try k_sweep); (try dsimp only); (try k_fold); walk_say "USED still") | with_reducible (k_here; (with_reducible show wpAny _ _ (PySem.call (Value.ref 222) [Value.int _ _, Value.int _ _]) _ _ _); k_dflt (refine' Mine.shaped_use ?zzB ?zzF ?zzX ?zzN ?zzT ?zzk ?zzp ?zzq ?zza ?zzb ?zzc ?zzd ?_; (case zzB => k_asm); (case zzF => k_asm); (case zzX => k_asm); (case zzN => k_asm); (case zzT => k_asm); (case zzk => first | exact rfl | assumption); (case zzp => ktr_room); (case zzq => ktr_units); (case zza => omega); (case zzb => omega); (case zzc => omega); (case zzd => omega)); intro h' tk' F' N'; (try dsimp only); (try k_fold); walk_say "USED shaped") | with_reducible (k_here; (with_reducible show wpAny _ _ (PySem.call (Value.ref 173) [Value.ref _]) _ _ _); k_dflt (refine' Mine.source_use ?zzB ?zzF ?zzX ?zzN ?zzT ?zzk ?zzp ?zzq ?zzl ?zzi ?zzz ?_; (case zzB => k_asm); (case zzF => k_asm); (case zzX => k_asm); (case zzN => k_asm); (case zzT => k_asm); (case zzk => first | exact rfl | assumption); (case zzp => ktr_room); (case zzq => ktr_units); (case zzl => k_asm); (case zzi => l_ints); (case zzz => l_fit)); intro d' o' kvs' dg' st' h' tk' F' N' lo' hd' hf' p1 p2; (try dsimp only); (try k_fold); walk_say "USED source") | with_reducible (k_here; (with_reducible show wpAny _ _ (PySem.call (Value.ref 187) [Value.ref _, Value.ref _]) _ _ _); k_dflt (refine' Mine.pick_use _ _ _ ?zzB ?zzF ?zzX ?zzN ?zzT ?zzk ?zzp ?zzq ?zzU ?zzm ?zzn ?zzi ?zzl0 ?zzl1 ?zzsm ?zzd ?zzf ?zzx0 ?zzx1 ?zzb ?_; (case zzB => k_asm); (case zzF => k_asm); (case zzX => k_asm); (case zzN => k_asm); (case zzT => k_asm); (case zzk => first | exact rfl | assumption); (case zzp => ktr_room); (case zzq => ktr_units); (case zzU => k_updF); (case zzm => k_mem); (case zzn => k_ne); (case zzi => first | exact Mine.ints7 | exact Mine.ints6 | exact Mine.ints4); (case zzl0 => (simp only [List.length_cons, List.length_nil]; omega)); (case zzl1 => (simp only [List.length_cons, List.length_nil]; omega)); (case zzsm => assumption); (case zzd => assumption); (case zzf => assumption); (case zzx0 => assumption); (case zzx1 => assumption); (case zzb => first | exact Mine.rate_bounds | exact Mine.burst_bounds | exact Mine.step_bounds)); intro x' t' o' kvs' dg' st' h' tk' F' N' hd' hf' p1 p2 q1 q2; (try simp only [List.nil_append, List.cons_append, List.append_nil] at N'); (try dsimp only at N'); (try k_sweep); (try dsimp only); (try k_fold); walk_say "USED pick") | with_reducible (k_here; (with_reducible show wpAny _ _ (PySem.call (Value.ref 180) [Value.ref _, Value.int _ _]) _ _ _); k_dflt (refine' Mine.next_use ?zzB ?zzF ?zzX ?zzN ?zzT ?zzk ?zzp ?zzq ?zzU ?zzsm ?zzd ?zzf ?zzx0 ?zzx1 ?zzx2 ?zzx3 ?_; (case zzB => k_asm); (case zzF => k_asm); (case zzX => k_asm); (case zzN => k_asm); (case zzT => k_asm); (case zzk => first | exact rfl | assumption); (case zzp => ktr_room); (case zzq => ktr_units); (case zzU => k_updF); (case zzsm => assumption); (case zzd => assumption); (case zzf => assumption); (case zzx0 => assumption); (case zzx1 => assumption); (case zzx2 => (first | decide | omega)); (case zzx3 => (first | decide | omega))); intro x' t' o' kvs' dg' st' h' tk' F' N' hd' hf' p1 p2 q1 q2; (try simp only [List.nil_append, List.cons_append, List.append_nil] at N'); (try dsimp only at N'); (try k_sweep); (try dsimp only); (try k_fold); walk_say "USED next")) <;> (try dsimp only)) | ((with_reducible (k_here; (with_reducible show wpAny _ _ (subscriptTail _ _ (Value.ref _) (Value.str _ _)) _ _ _); k_dflt (refine' item_strTab ?zzk1 ?zzk2 ?_; (case zzk1 => exact TabAt.ofNews (by k_asm) (by k_mem) (by assumption) (by with_reducible assumption) (by with_reducible assumption)); (case zzk2 => exact rfl); k_whole); intro v' hv'; (try dict_open hv'); (try clear hv'))) <;> (try dsimp only)) | (walk1 <;> (try dsimp only)) | (leave1; walk_say "STEP leave1"; try dsimp only) | fail "no step")
  unfold Stop
  (rename IsRange _ _ _ _ _ _ _ _ => rgX)
  (rename Fr _ _ _ _ => lF)
  (rename News _ _ _ _ => lN)
  (rename FlatPairs _ (strPairs _) _ => fS)
  (rename Obj.IsDictOf _ _ (strPairs _) => dS)
  refine' loop_use (w := _) ?hh ?hr ?k0 ?k1 ?F ?N ?m1 ?m2 ?m3 ?m4 ?d1 ?f1 ?d2 ?f2 ?nw ?p1 ?p2 ?turn ?done
  case hh => exact rfl
  case hr => exact rgX
  case k0 => assumption
  case k1 => assumption
  case F => exact lF
  case N => exact lN
  case f1 => assumption
  case d1 => assumption
  case d2 => exact dS
  case m1 => k_mem
  case m2 => k_mem
  case m3 => k_mem
  case m4 => k_mem
  case f2 => exact fS
  case nw => with_unfolding_all rfl
  case p1 => assumption
  case p2 => assumption
  case turn =>
    intro pre os1 ow1 kvs1 kws1 dg1 st1 g1 t1 now1 tg1 tt1 tn1 j tj h1 tk1 own off1 hd1 hf1 hd2 hf2 p1 p2 p3 F1 N1
    clear lF lN rgX
    k_fold
    repeat' (first | (k_unfold; (try dsimp only)) | (k_end; wrow_close) | (((with_reducible show wpAny _ _ (PySem.unaryOp UnaryOp.Not _) _ _ _); first | with_reducible (k_here; (with_reducible refine Mine.not_no (Mine.stop_of ?_)); walk_say "USED not") | (k_here; (with_reducible refine Mine.not_no (Mine.stop_of ?_)); walk_say "USED not")) <;> (try dsimp only)) | (((with_reducible show InvEndN _ _ _ _ _ _ _); first | with_reducible (refine Mine.stop_of ?_) | (refine Mine.stop_of ?_)) <;> (try dsimp only)) | (((with_reducible show wpAny _ _ (PySem.pyIter (Value.ref _)) _ _ _); first | with_reducible (k_here; refine Mine.stop_of ?_) | (k_here; refine Mine.stop_of ?_)) <;> (try dsimp only)) | (((with_reducible show wpAny _ _ (PySem.exec (Stmt.For _ _ _ _ _) _) _ _ _); first | with_reducible (k_here; (rename Fr _ _ _ _ => lF'); (with_unfolding_all refine' For_invVF lF' ?zzk1 ?zzk2 ?_; (case zzk1 => exact rfl); (case zzk2 => exact rfl); k_whole)) | (k_here; (rename Fr _ _ _ _ => lF'); (with_unfolding_all refine' For_invVF lF' ?zzk1 ?zzk2 ?_; (case zzk1 => exact rfl); (case zzk2 => exact rfl); k_whole))) <;> (try dsimp only)) | (((with_reducible show wpAny _ _ (PySem.compareOp CmpOp.NotEq (Value.int _ _) (Value.int _ _)) _ _ _); first | with_reducible (k_here; with_reducible refine Mine.ne_same ?_) | (k_here; with_reducible refine Mine.ne_same ?_)) <;> (try dsimp only)) | (((with_reducible show wpAny _ _ (PySem.call _ _) _ _ _); first | with_reducible (k_here; (with_reducible show wpAny _ _ (PySem.call (Value.ref 215) [Value.int _ _, Value.int _ _]) _ _ _); k_dflt (first | (refine' Mine.refused_use (bv := true) ?zzrfB ?zzrfF ?zzrfX ?zzrfT ?zzrfXB ?zzrfTB ?zzrfK ?zzrfP ?zzrfE ?_; (case zzrfE => decide); (case zzrfB => k_asm); (case zzrfF => k_asm); (case zzrfX => k_asm); (case zzrfT => k_asm); (case zzrfXB => k_asm); (case zzrfTB => k_asm); (case zzrfK => exact rfl); (case zzrfP => ktr_room)) | (refine' Mine.refused_use (bv := false) ?zzrfB ?zzrfF ?zzrfX ?zzrfT ?zzrfXB ?zzrfTB ?zzrfK ?zzrfP ?zzrfE ?_; (case zzrfE => decide); (case zzrfB => k_asm); (case zzrfF => k_asm); (case zzrfX => k_asm); (case zzrfT => k_asm); (case zzrfXB => k_asm); (case zzrfTB => k_asm); (case zzrfK => exact rfl); (case zzrfP => ktr_room))); intro h' tk' F' N'; (try dsimp only); (try k_fold); walk_say "USED refused") | with_reducible (k_here; (with_reducible show wpAny _ _ (PySem.call (Value.ref 208) [Value.ref _, Value.ref _, Value.ref _, Value.int _ _]) _ _ _); k_dflt (refine' Mine.deed_use ?zzB ?zzF ?zzX ?zzN ?zzT ?zzk ?zzp ?zzq ?zzm1 ?zzm2 ?zzm3 ?zzm4 ?zzoff ?zzhr ?zzn1 ?zzn2 ?zzn3 ?zzn4 ?zzn5 ?zzn6 ?zzs1 ?zzd1 ?zzf1 ?zzz1 ?zzz2 ?zzs2 ?zzd2 ?zzf2 ?zzr1 ?zzr2 ?zzb1 ?zzb2 ?zzg ?_; (case zzB => k_asm); (case zzF => k_asm); (case zzX => k_asm); (case zzN => k_asm); (case zzT => k_asm); (case zzk => first | exact rfl | assumption); (case zzp => ktr_room); (case zzq => ktr_units); (case zzm1 => k_mem); (case zzm2 => k_mem); (case zzm3 => k_mem); (case zzm4 => k_mem); (case zzoff => assumption); (case zzhr => (intro p hp; repeat (first | exact hp | refine List.Mem.tail _ ?_))); (case zzn1 => k_ne); (case zzn2 => k_ne); (case zzn3 => k_ne); (case zzn4 => k_ne); (case zzn5 => k_ne); (case zzn6 => k_ne); (case zzs1 => assumption); (case zzd1 => assumption); (case zzf1 => assumption); (case zzz1 => assumption); (case zzz2 => assumption); (case zzs2 => assumption); (case zzd2 => assumption); (case zzf2 => assumption); (case zzr1 => assumption); (case zzr2 => omega); (case zzb1 => assumption); (case zzb2 => assumption); (case zzg => assumption)); intro os' ow' kvs' kws' dg' st' gr' t' tg' tt' h' tk' hg' hn' F' N' hd1' hf1' p1 p2 hd2' hf2'; (try dsimp only at N'); (try k_sweep); (try dsimp only); (try k_fold); walk_say "USED deed") | with_reducible (k_here; (with_reducible show wpAny _ _ (PySem.call (Value.ref 75) [Value.ref _, Value.int _ _]) _ _ _); k_dflt (refine' Mine.still_use ?zzB ?zzF ?zzX ?zzN ?zzT ?zzk ?zzp ?zzq ?zzU ?zzm ?zzn ?zzx0 ?_; (case zzB => k_asm); (case zzF => k_asm); (case zzX => k_asm); (case zzN => k_asm); (case zzT => k_asm); (case zzk => first | exact rfl | assumption); (case zzp => ktr_room); (case zzq => ktr_units); (case zzm => k_mem); (case zzU => k_updF); (case zzn => k_ne); (case zzx0 => omega)); intro t' h' tk' F' N'; (try simp only [List.nil_append, List.cons_append, List.append_nil] at N'); (try dsimp only at N'); (try k_sweep); (try dsimp only); (try k_fold); walk_say "USED still") | with_reducible (k_here; (with_reducible show wpAny _ _ (PySem.call (Value.ref 222) [Value.int _ _, Value.int _ _]) _ _ _); k_dflt (refine' Mine.shaped_use ?zzB ?zzF ?zzX ?zzN ?zzT ?zzk ?zzp ?zzq ?zza ?zzb ?zzc ?zzd ?_; (case zzB => k_asm); (case zzF => k_asm); (case zzX => k_asm); (case zzN => k_asm); (case zzT => k_asm); (case zzk => first | exact rfl | assumption); (case zzp => ktr_room); (case zzq => ktr_units); (case zza => omega); (case zzb => omega); (case zzc => omega); (case zzd => omega)); intro h' tk' F' N'; (try dsimp only); (try k_fold); walk_say "USED shaped") | with_reducible (k_here; (with_reducible show wpAny _ _ (PySem.call (Value.ref 173) [Value.ref _]) _ _ _); k_dflt (refine' Mine.source_use ?zzB ?zzF ?zzX ?zzN ?zzT ?zzk ?zzp ?zzq ?zzl ?zzi ?zzz ?_; (case zzB => k_asm); (case zzF => k_asm); (case zzX => k_asm); (case zzN => k_asm); (case zzT => k_asm); (case zzk => first | exact rfl | assumption); (case zzp => ktr_room); (case zzq => ktr_units); (case zzl => k_asm); (case zzi => l_ints); (case zzz => l_fit)); intro d' o' kvs' dg' st' h' tk' F' N' lo' hd' hf' p1 p2; (try dsimp only); (try k_fold); walk_say "USED source") | with_reducible (k_here; (with_reducible show wpAny _ _ (PySem.call (Value.ref 187) [Value.ref _, Value.ref _]) _ _ _); k_dflt (refine' Mine.pick_use _ _ _ ?zzB ?zzF ?zzX ?zzN ?zzT ?zzk ?zzp ?zzq ?zzU ?zzm ?zzn ?zzi ?zzl0 ?zzl1 ?zzsm ?zzd ?zzf ?zzx0 ?zzx1 ?zzb ?_; (case zzB => k_asm); (case zzF => k_asm); (case zzX => k_asm); (case zzN => k_asm); (case zzT => k_asm); (case zzk => first | exact rfl | assumption); (case zzp => ktr_room); (case zzq => ktr_units); (case zzU => k_updF); (case zzm => k_mem); (case zzn => k_ne); (case zzi => first | exact Mine.ints7 | exact Mine.ints6 | exact Mine.ints4); (case zzl0 => (simp only [List.length_cons, List.length_nil]; omega)); (case zzl1 => (simp only [List.length_cons, List.length_nil]; omega)); (case zzsm => assumption); (case zzd => assumption); (case zzf => assumption); (case zzx0 => assumption); (case zzx1 => assumption); (case zzb => first | exact Mine.rate_bounds | exact Mine.burst_bounds | exact Mine.step_bounds)); intro x' t' o' kvs' dg' st' h' tk' F' N' hd' hf' p1 p2 q1 q2; (try simp only [List.nil_append, List.cons_append, List.append_nil] at N'); (try dsimp only at N'); (try k_sweep); (try dsimp only); (try k_fold); walk_say "USED pick") | with_reducible (k_here; (with_reducible show wpAny _ _ (PySem.call (Value.ref 180) [Value.ref _, Value.int _ _]) _ _ _); k_dflt (refine' Mine.next_use ?zzB ?zzF ?zzX ?zzN ?zzT ?zzk ?zzp ?zzq ?zzU ?zzsm ?zzd ?zzf ?zzx0 ?zzx1 ?zzx2 ?zzx3 ?_; (case zzB => k_asm); (case zzF => k_asm); (case zzX => k_asm); (case zzN => k_asm); (case zzT => k_asm); (case zzk => first | exact rfl | assumption); (case zzp => ktr_room); (case zzq => ktr_units); (case zzU => k_updF); (case zzsm => assumption); (case zzd => assumption); (case zzf => assumption); (case zzx0 => assumption); (case zzx1 => assumption); (case zzx2 => (first | decide | omega)); (case zzx3 => (first | decide | omega))); intro x' t' o' kvs' dg' st' h' tk' F' N' hd' hf' p1 p2 q1 q2; (try simp only [List.nil_append, List.cons_append, List.append_nil] at N'); (try dsimp only at N'); (try k_sweep); (try dsimp only); (try k_fold); walk_say "USED next")) <;> (try dsimp only)) | ((with_reducible (k_here; (with_reducible show wpAny _ _ (subscriptTail _ _ (Value.ref _) (Value.str _ _)) _ _ _); k_dflt (refine' item_strTab ?zzk1 ?zzk2 ?_; (case zzk1 => exact TabAt.ofNews (by k_asm) (by k_mem) (by assumption) (by with_reducible assumption) (by with_reducible assumption)); (case zzk2 => exact rfl); k_whole); intro v' hv'; (try dict_open hv'); (try clear hv'))) <;> (try dsimp only)) | (walk1 <;> (try dsimp only)) | (leave1; walk_say "STEP leave1"; try dsimp only) | fail "no step")
    unfold Stop
    refine' loop_end (w := _) ?F ?N ?hn ?ho ?d1 ?f1 ?d2 ?f2 ?hk ?hr ?p1 ?p2 ?p3
    case F => assumption
    case N => assumption
    case f1 => assumption
    case d1 => assumption
    case f2 => assumption
    case d2 => assumption
    case hn => exact List.forall_mem_cons.mpr ⟨by k_mem, List.forall_mem_cons.mpr ⟨by k_mem, List.forall_mem_cons.mpr ⟨by k_mem, List.forall_mem_cons.mpr ⟨by k_mem, List.forall_mem_nil _⟩⟩⟩⟩
    case ho => (intro p hp; repeat (first | exact hp | refine List.Mem.tail _ ?_))
    case hk => with_unfolding_all rfl
    case hr => (intro z h1 h2; (try dsimp only); simp only [if_neg h1, if_neg h2])
    case p1 => assumption
    case p2 => assumption
    case p3 => assumption
  case done =>
    intro u now1 tn1 h1 tk1 F1 N1
    clear lF lN rgX
    (try dsimp only)
    (try k_fold)
    repeat' (first | (k_unfold; (try dsimp only)) | (k_end; wrow_close) | (((with_reducible show wpAny _ _ (PySem.unaryOp UnaryOp.Not _) _ _ _); first | with_reducible (k_here; (with_reducible refine Mine.not_no (Mine.stop_of ?_)); walk_say "USED not") | (k_here; (with_reducible refine Mine.not_no (Mine.stop_of ?_)); walk_say "USED not")) <;> (try dsimp only)) | (((with_reducible show InvEndN _ _ _ _ _ _ _); first | with_reducible (refine Mine.stop_of ?_) | (refine Mine.stop_of ?_)) <;> (try dsimp only)) | (((with_reducible show wpAny _ _ (PySem.pyIter (Value.ref _)) _ _ _); first | with_reducible (k_here; refine Mine.stop_of ?_) | (k_here; refine Mine.stop_of ?_)) <;> (try dsimp only)) | (((with_reducible show wpAny _ _ (PySem.exec (Stmt.For _ _ _ _ _) _) _ _ _); first | with_reducible (k_here; (rename Fr _ _ _ _ => lF'); (with_unfolding_all refine' For_invVF lF' ?zzk1 ?zzk2 ?_; (case zzk1 => exact rfl); (case zzk2 => exact rfl); k_whole)) | (k_here; (rename Fr _ _ _ _ => lF'); (with_unfolding_all refine' For_invVF lF' ?zzk1 ?zzk2 ?_; (case zzk1 => exact rfl); (case zzk2 => exact rfl); k_whole))) <;> (try dsimp only)) | (((with_reducible show wpAny _ _ (PySem.compareOp CmpOp.NotEq (Value.int _ _) (Value.int _ _)) _ _ _); first | with_reducible (k_here; with_reducible refine Mine.ne_same ?_) | (k_here; with_reducible refine Mine.ne_same ?_)) <;> (try dsimp only)) | (((with_reducible show wpAny _ _ (PySem.call _ _) _ _ _); first | with_reducible (k_here; (with_reducible show wpAny _ _ (PySem.call (Value.ref 215) [Value.int _ _, Value.int _ _]) _ _ _); k_dflt (first | (refine' Mine.refused_use (bv := true) ?zzrfB ?zzrfF ?zzrfX ?zzrfT ?zzrfXB ?zzrfTB ?zzrfK ?zzrfP ?zzrfE ?_; (case zzrfE => decide); (case zzrfB => k_asm); (case zzrfF => k_asm); (case zzrfX => k_asm); (case zzrfT => k_asm); (case zzrfXB => k_asm); (case zzrfTB => k_asm); (case zzrfK => exact rfl); (case zzrfP => ktr_room)) | (refine' Mine.refused_use (bv := false) ?zzrfB ?zzrfF ?zzrfX ?zzrfT ?zzrfXB ?zzrfTB ?zzrfK ?zzrfP ?zzrfE ?_; (case zzrfE => decide); (case zzrfB => k_asm); (case zzrfF => k_asm); (case zzrfX => k_asm); (case zzrfT => k_asm); (case zzrfXB => k_asm); (case zzrfTB => k_asm); (case zzrfK => exact rfl); (case zzrfP => ktr_room))); intro h' tk' F' N'; (try dsimp only); (try k_fold); walk_say "USED refused") | with_reducible (k_here; (with_reducible show wpAny _ _ (PySem.call (Value.ref 208) [Value.ref _, Value.ref _, Value.ref _, Value.int _ _]) _ _ _); k_dflt (refine' Mine.deed_use ?zzB ?zzF ?zzX ?zzN ?zzT ?zzk ?zzp ?zzq ?zzm1 ?zzm2 ?zzm3 ?zzm4 ?zzoff ?zzhr ?zzn1 ?zzn2 ?zzn3 ?zzn4 ?zzn5 ?zzn6 ?zzs1 ?zzd1 ?zzf1 ?zzz1 ?zzz2 ?zzs2 ?zzd2 ?zzf2 ?zzr1 ?zzr2 ?zzb1 ?zzb2 ?zzg ?_; (case zzB => k_asm); (case zzF => k_asm); (case zzX => k_asm); (case zzN => k_asm); (case zzT => k_asm); (case zzk => first | exact rfl | assumption); (case zzp => ktr_room); (case zzq => ktr_units); (case zzm1 => k_mem); (case zzm2 => k_mem); (case zzm3 => k_mem); (case zzm4 => k_mem); (case zzoff => assumption); (case zzhr => (intro p hp; repeat (first | exact hp | refine List.Mem.tail _ ?_))); (case zzn1 => k_ne); (case zzn2 => k_ne); (case zzn3 => k_ne); (case zzn4 => k_ne); (case zzn5 => k_ne); (case zzn6 => k_ne); (case zzs1 => assumption); (case zzd1 => assumption); (case zzf1 => assumption); (case zzz1 => assumption); (case zzz2 => assumption); (case zzs2 => assumption); (case zzd2 => assumption); (case zzf2 => assumption); (case zzr1 => assumption); (case zzr2 => omega); (case zzb1 => assumption); (case zzb2 => assumption); (case zzg => assumption)); intro os' ow' kvs' kws' dg' st' gr' t' tg' tt' h' tk' hg' hn' F' N' hd1' hf1' p1 p2 hd2' hf2'; (try dsimp only at N'); (try k_sweep); (try dsimp only); (try k_fold); walk_say "USED deed") | with_reducible (k_here; (with_reducible show wpAny _ _ (PySem.call (Value.ref 75) [Value.ref _, Value.int _ _]) _ _ _); k_dflt (refine' Mine.still_use ?zzB ?zzF ?zzX ?zzN ?zzT ?zzk ?zzp ?zzq ?zzU ?zzm ?zzn ?zzx0 ?_; (case zzB => k_asm); (case zzF => k_asm); (case zzX => k_asm); (case zzN => k_asm); (case zzT => k_asm); (case zzk => first | exact rfl | assumption); (case zzp => ktr_room); (case zzq => ktr_units); (case zzm => k_mem); (case zzU => k_updF); (case zzn => k_ne); (case zzx0 => omega)); intro t' h' tk' F' N'; (try simp only [List.nil_append, List.cons_append, List.append_nil] at N'); (try dsimp only at N'); (try k_sweep); (try dsimp only); (try k_fold); walk_say "USED still") | with_reducible (k_here; (with_reducible show wpAny _ _ (PySem.call (Value.ref 222) [Value.int _ _, Value.int _ _]) _ _ _); k_dflt (refine' Mine.shaped_use ?zzB ?zzF ?zzX ?zzN ?zzT ?zzk ?zzp ?zzq ?zza ?zzb ?zzc ?zzd ?_; (case zzB => k_asm); (case zzF => k_asm); (case zzX => k_asm); (case zzN => k_asm); (case zzT => k_asm); (case zzk => first | exact rfl | assumption); (case zzp => ktr_room); (case zzq => ktr_units); (case zza => omega); (case zzb => omega); (case zzc => omega); (case zzd => omega)); intro h' tk' F' N'; (try dsimp only); (try k_fold); walk_say "USED shaped") | with_reducible (k_here; (with_reducible show wpAny _ _ (PySem.call (Value.ref 173) [Value.ref _]) _ _ _); k_dflt (refine' Mine.source_use ?zzB ?zzF ?zzX ?zzN ?zzT ?zzk ?zzp ?zzq ?zzl ?zzi ?zzz ?_; (case zzB => k_asm); (case zzF => k_asm); (case zzX => k_asm); (case zzN => k_asm); (case zzT => k_asm); (case zzk => first | exact rfl | assumption); (case zzp => ktr_room); (case zzq => ktr_units); (case zzl => k_asm); (case zzi => l_ints); (case zzz => l_fit)); intro d' o' kvs' dg' st' h' tk' F' N' lo' hd' hf' p1 p2; (try dsimp only); (try k_fold); walk_say "USED source") | with_reducible (k_here; (with_reducible show wpAny _ _ (PySem.call (Value.ref 187) [Value.ref _, Value.ref _]) _ _ _); k_dflt (refine' Mine.pick_use _ _ _ ?zzB ?zzF ?zzX ?zzN ?zzT ?zzk ?zzp ?zzq ?zzU ?zzm ?zzn ?zzi ?zzl0 ?zzl1 ?zzsm ?zzd ?zzf ?zzx0 ?zzx1 ?zzb ?_; (case zzB => k_asm); (case zzF => k_asm); (case zzX => k_asm); (case zzN => k_asm); (case zzT => k_asm); (case zzk => first | exact rfl | assumption); (case zzp => ktr_room); (case zzq => ktr_units); (case zzU => k_updF); (case zzm => k_mem); (case zzn => k_ne); (case zzi => first | exact Mine.ints7 | exact Mine.ints6 | exact Mine.ints4); (case zzl0 => (simp only [List.length_cons, List.length_nil]; omega)); (case zzl1 => (simp only [List.length_cons, List.length_nil]; omega)); (case zzsm => assumption); (case zzd => assumption); (case zzf => assumption); (case zzx0 => assumption); (case zzx1 => assumption); (case zzb => first | exact Mine.rate_bounds | exact Mine.burst_bounds | exact Mine.step_bounds)); intro x' t' o' kvs' dg' st' h' tk' F' N' hd' hf' p1 p2 q1 q2; (try simp only [List.nil_append, List.cons_append, List.append_nil] at N'); (try dsimp only at N'); (try k_sweep); (try dsimp only); (try k_fold); walk_say "USED pick") | with_reducible (k_here; (with_reducible show wpAny _ _ (PySem.call (Value.ref 180) [Value.ref _, Value.int _ _]) _ _ _); k_dflt (refine' Mine.next_use ?zzB ?zzF ?zzX ?zzN ?zzT ?zzk ?zzp ?zzq ?zzU ?zzsm ?zzd ?zzf ?zzx0 ?zzx1 ?zzx2 ?zzx3 ?_; (case zzB => k_asm); (case zzF => k_asm); (case zzX => k_asm); (case zzN => k_asm); (case zzT => k_asm); (case zzk => first | exact rfl | assumption); (case zzp => ktr_room); (case zzq => ktr_units); (case zzU => k_updF); (case zzsm => assumption); (case zzd => assumption); (case zzf => assumption); (case zzx0 => assumption); (case zzx1 => assumption); (case zzx2 => (first | decide | omega)); (case zzx3 => (first | decide | omega))); intro x' t' o' kvs' dg' st' h' tk' F' N' hd' hf' p1 p2 q1 q2; (try simp only [List.nil_append, List.cons_append, List.append_nil] at N'); (try dsimp only at N'); (try k_sweep); (try dsimp only); (try k_fold); walk_say "USED next")) <;> (try dsimp only)) | ((with_reducible (k_here; (with_reducible show wpAny _ _ (subscriptTail _ _ (Value.ref _) (Value.str _ _)) _ _ _); k_dflt (refine' item_strTab ?zzk1 ?zzk2 ?_; (case zzk1 => exact TabAt.ofNews (by k_asm) (by k_mem) (by assumption) (by with_reducible assumption) (by with_reducible assumption)); (case zzk2 => exact rfl); k_whole); intro v' hv'; (try dict_open hv'); (try clear hv'))) <;> (try dsimp only)) | (walk1 <;> (try dsimp only)) | (leave1; walk_say "STEP leave1"; try dsimp only) | fail "no step")
    unfold Stop
    repeat (k_unfold; (try dsimp only))
    (rename Fr _ _ _ _ => eF)
    (rename (Shared.gens _ = #[]) => eG)
    refine goodW_bool eF eG ?_ ?_
    · intro cls
      refine raisesW_false ?_ cls
      exact allW_false_nil
    · refine postW_of (X := true) ?_ ?_ rfl
      · wrow_shape
      · kernel_rfl
)
end Mine

end
set_option maxRecDepth 100000 in
set_option maxHeartbeats 8000000 in
theorem PySem.Challenge.cw_pc0361_01_holds : PySem.Challenge.rw_pc0361_01.Holds :=
  Mine.law_holds
