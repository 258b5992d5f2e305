import PyProof.Rows.All
import Wide.All
import OpenK.AllK
import Wide.FinOn
import HandS.ForMost
import HandS.ExcCtx
import HandS.Nested
import HandS.Style
import HandS.IsInst
import HandS.Flow
import HandS.ForExc
import HandS.Wide
import HandS.TupAny
import HandS.Deep
import HandS.Iter
import HandS.RaiseMore
import HandS.Zip
import HandS.SetFor
import HandS.More
import HandS.Text
import HandS.Ends
import HandS.Rev
import HandS.ExcOwn
import HandS.ExcIs
import HandS.TryOnly
import PyProof.ExcBaseAll.ValueError
import HandS.ReplaceLit
import KE.GoesRaise
import HandS.HotCalls
import KE.KExcIs
import HandS.ExcInit
import HandS.ClsMeth
import HandS.EndBits
import HandS.WideBits
import HandS.Defaults
import HandS.CallSlots
import HandS.EndTab
import HandS.Conv
import KE.KNestM
import KE.IntTextLaws
import PySem.Challenge.RW_liftcourt_k32_dealers_read
set_option Elab.async false
set_option linter.all false
set_option maxRecDepth 100000
set_option maxHeartbeats 0
namespace Lf
open PySem L2

/-! plain values, and values with what is owned told -/
inductive D where
  | non | bl (b : Bool) | int (i : Int) | str (x : Str) | ty (n : String)
  | tup (xs : List D) | lst (xs : List D) | dct (kvs : List (D × D))
  | obj (c : Nat) (xs : List D) | fn (n : Nat) (xs : List D) | scr (ns : List Int)
inductive O where
  | stb (d : D) | tup (xs : List O) | lst (xs : List D) | lsl (xs : List O)
  | dct (kvs : List (D × D)) | obj (c : Nat) (xs : List O)
instance : Inhabited D := ⟨.non⟩
instance : Inhabited O := ⟨.stb .non⟩

mutual
def fr : O → D
  | .stb d => d
  | .tup xs => .tup (frL xs)
  | .lst xs => .lst xs
  | .lsl xs => .lst (frL xs)
  | .dct kvs => .dct kvs
  | .obj c xs => .obj c (frL xs)
def frL : List O → List D
  | [] => []
  | x :: r => fr x :: frL r
end

/-- what is owned: no table, nothing told only by its heap -/
def Ownd (u : HO) : Prop := (∀ ps, u ≠ .tbl ps) ∧ ∀ φ, u ≠ .ext φ
/-- nothing owned is there -/
def Nt (H : Hp) (b : Addr) : Prop := ∀ w, H b = some w → ¬ Ownd w
/-- the tables, none of them among what is settled -/
def Tbs (T : List NdefX.NTab) (Hs H : Hp) : Prop := NdefX.TabsN T H ∧ ∀ b ps, Hs b ≠ some (.tbl ps)
theorem Tbs.ext {T : List NdefX.NTab} {Hs H H' : Hp} (t : Tbs T Hs H) (e : ∀ b o, H b = some o → H' b = some o) : Tbs T Hs H' := ⟨t.1.ext e, t.2⟩
theorem Tbs.at {T : List NdefX.NTab} {Hs H : Hp} (t : Tbs T Hs H) {p : NdefX.NTab} (hp : p ∈ T) : ∃ ps, H p.1 = some (.tbl ps) := (t.1 p hp).imp fun _ h => h.1
theorem noT_own {H : Hp} {b : Addr} {ps : Array Value} (h : ∃ u, H b = some u ∧ Ownd u) : H b ≠ some (.tbl ps) := fun z => by
  obtain ⟨u, e, w⟩ := h
  rw [z] at e
  exact w.1 ps (Option.some.inj e).symm
theorem noT_upd {Hs : Hp} {p : Addr} {o : HO} (t : ∀ b ps, Hs b ≠ some (.tbl ps)) (ho : ∀ ps, o ≠ .tbl ps) : ∀ b ps, upd Hs p o b ≠ some (.tbl ps) := fun b ps e => by
  by_cases hb : b = p
  · subst hb
    rw [upd_same] at e
    exact ho ps (Option.some.inj e)
  · rw [upd_ne hb] at e
    exact t b ps e
theorem Nt.of {H : Hp} {b : Addr} (h : H b = none) : Nt H b := fun w e => by rw [h] at e; cases e
theorem Nt.no {H : Hp} {b : Addr} (h : Nt H b) (t : ∃ u, H b = some u ∧ Ownd u) : False := t.elim fun u z => h u z.1 z.2
/-- all but io stays; tables may grow -/
def Kpx (io : List Addr) (H H' : Hp) : Prop := ∀ b o, H b = some o → b ∉ io → H' b = some o ∨ (∃ ps, o = .tbl ps) ∧ ∃ u, H' b = some u
abbrev Kp := Kpx []
theorem Kpx.of {io : List Addr} {H H' : Hp} (h : ∀ b o, H b = some o → b ∉ io → H' b = some o) : Kpx io H H' := fun b o e n => .inl (h b o e n)
theorem Kp.of {H H' : Hp} (h : Same H H') : Kp H H' := fun b o e _ => .inl (h b o e)
theorem Kp.refl (H : Hp) : Kp H H := fun b o e _ => .inl e
theorem Kpx.there {io : List Addr} {H H' : Hp} (k : Kpx io H H') {b : Addr} {o : HO} (e : H b = some o) (n : b ∉ io) : ∃ u, H' b = some u := (k b o e n).elim (fun z => ⟨_, z⟩) fun z => z.2
theorem Kpx.at {io : List Addr} {H H' : Hp} (k : Kpx io H H') {b : Addr} {o : HO} (e : H b = some o) (nt : ∀ ps, o ≠ .tbl ps) (n : b ∉ io) : H' b = some o := (k b o e n).elim id fun ⟨⟨ps, z⟩, _⟩ => absurd z (nt ps)
theorem Kpx.nn {io : List Addr} {H H' : Hp} (k : Kpx io H H') {b : Addr} (n : b ∉ io) (e : H' b = none) : H b = none := by
  cases q : H b with
  | none => rfl
  | some o =>
    obtain ⟨u, z⟩ := k.there q n
    rw [e] at z; cases z
theorem Kp.at {H H' : Hp} (k : Kp H H') {b : Addr} {o : HO} (e : H b = some o) (nt : ∀ ps, o ≠ .tbl ps) : H' b = some o := Kpx.at k e nt (by simp)
theorem Kp.nn {H H' : Hp} (k : Kp H H') {b : Addr} (e : H' b = none) : H b = none := Kpx.nn k (by simp) e
theorem Kp.eq {H H' : Hp} (k : Kp H H') {b : Addr} (h : ∃ u, H b = some u ∧ Ownd u) : H' b = H b := by
  obtain ⟨u, e, w⟩ := h
  rw [e, k.at e w.1]
theorem Kpx.trans {io : List Addr} {H H1 H2 : Hp} (k1 : Kpx io H H1) (k2 : Kpx io H1 H2) : Kpx io H H2 := fun b o e n => by
  rcases k1 b o e n with z | ⟨⟨ps, z⟩, u, q⟩
  · exact k2 b o z n
  · exact .inr ⟨⟨ps, z⟩, k2.there q n⟩
theorem Kp.trans {H H1 H2 : Hp} (k1 : Kp H H1) (k2 : Kp H1 H2) : Kp H H2 := Kpx.trans k1 k2
theorem Kp.new {H : Hp} {p : Addr} {o : HO} (h : H p = none) : Kp H (upd H p o) := fun b u e _ => .inl (by rw [upd_ne (ne_of_none e h)]; exact e)
theorem Kp.ext {H H' : Hp} (e : LamX.ExtN H H') (th : ∀ b, H' b = none → H b = none) : Kp H H' := fun b o q _ => by
  by_cases nt : ∀ ps, o ≠ .tbl ps
  · exact .inl (e b o q nt)
  · have ⟨ps, z⟩ : ∃ ps, o = .tbl ps := Classical.byContradiction fun z => nt fun ps q => z ⟨ps, q⟩
    refine .inr ⟨⟨ps, z⟩, ?_⟩
    cases r : H' b with
    | none => rw [th b r] at q; cases q
    | some u => exact ⟨u, rfl⟩

structure Glob where
  K : PySem.W.Frag
  cls : Nat → Option Addr
  flds : Nat → List Str
  fnr : Hp → Nat → List V → V → Prop
  fnrm : ∀ {H H' : Hp} {n : Nat} {cs : List V} {v : V}, Same H H' → fnr H n cs v → fnr H' n cs v
  fnrr : ∀ {H : Hp} {n : Nat} {cs : List V} {v : V}, fnr H n cs v → ∃ a, v = .ref a
  dcr : HO → List (D × V) → Prop
  dck : ∀ {o : HO} {l : List (D × V)}, dcr o l → (∀ vs, o ≠ .tup vs ∧ ∀ u, o ≠ .frz u (.tup vs)) ∧ (∀ fs, o ≠ .xd fs) ∧ Ownd o
  tabs : List NdefX.NTab

mutual
def Rp (G : Glob) (Hs : Hp) : D → V → Prop
  | .non, v => v = .non
  | .bl b, v => v = .bl b
  | .int i, v => v = .int i
  | .str x, v => v = .str x
  | .ty n, v => v = .ty n
  | .tup xs, v => ∃ p vs, v = .ref p ∧ SqT G.K Hs p vs ∧ RpL G Hs xs vs
  | .lst xs, v => ∃ p vs, v = .ref p ∧ Hs p = some (.lst vs) ∧ RpL G Hs xs vs
  | .dct kvs, v => ∃ p o vs, v = .ref p ∧ Hs p = some o ∧ G.dcr o ((kvs.map (·.1)).zip vs) ∧ RpK G Hs kvs vs
  | .obj c xs, v => ∃ p C dx vs, v = .ref p ∧ Hs p = some (.ins C dx ((G.flds c).zip vs)) ∧ G.cls c = some C ∧ xs.length ≤ (G.flds c).length ∧ RpL G Hs xs vs
  | .fn n xs, v => ∃ vs, G.fnr Hs n vs v ∧ RpL G Hs xs vs
  | .scr ns, v => ∃ p, v = .ref p ∧ SqL G.K Hs p (ns.map V.int)
def RpL (G : Glob) (Hs : Hp) : List D → List V → Prop
  | [], vs => vs = []
  | d :: r, vs => ∃ v rest, vs = v :: rest ∧ Rp G Hs d v ∧ RpL G Hs r rest
def RpP (G : Glob) (Hs : Hp) : D × D → V → Prop
  | (_, d), v => Rp G Hs d v
def RpK (G : Glob) (Hs : Hp) : List (D × D) → List V → Prop
  | [], vs => vs = []
  | p :: r, vs => ∃ v rest, vs = v :: rest ∧ RpP G Hs p v ∧ RpK G Hs r rest
end

mutual
def Own (G : Glob) (H Hs : Hp) : O → V → List Addr → Prop
  | .stb d, v, fp => fp = [] ∧ Rp G Hs d v
  | .tup xs, v, fp => ∃ p vs, v = .ref p ∧ Hs p = some (.tup vs) ∧ OwnL G H Hs xs vs fp
  | .lst xs, v, fp => ∃ p vs, v = .ref p ∧ H p = some (.lst vs) ∧ fp = [p] ∧ RpL G Hs xs vs
  | .lsl xs, v, fp => ∃ p vs f, v = .ref p ∧ H p = some (.lst vs) ∧ fp = p :: f ∧ OwnL G H Hs xs vs f
  | .dct kvs, v, fp => ∃ p o vs, v = .ref p ∧ H p = some o ∧ fp = [p] ∧ G.dcr o ((kvs.map (·.1)).zip vs) ∧ RpK G Hs kvs vs
  | .obj c xs, v, fp => ∃ p C dx vs f, v = .ref p ∧ H p = some (.ins C dx ((G.flds c).zip vs)) ∧ G.cls c = some C ∧ xs.length ≤ (G.flds c).length ∧ fp = p :: f ∧ OwnL G H Hs xs vs f
def OwnL (G : Glob) (H Hs : Hp) : List O → List V → List Addr → Prop
  | [], vs, fp => vs = [] ∧ fp = []
  | o :: r, vs, fp => ∃ v rest f1 f2, vs = v :: rest ∧ fp = f1 ++ f2 ∧ Own G H Hs o v f1 ∧ OwnL G H Hs r rest f2
end

theorem Same.tup {K : PySem.W.Frag} {H H' : Hp} {a : Addr} {xs : List V} (e : Same H H') (h : SqT K H a xs) : SqT K H' a xs := by
  rcases h with (h | ⟨o, h⟩) | h
  · exact .inl (.inl (e _ _ h))
  · exact .inl (.inr ⟨o, e _ _ h⟩)
  · exact .inr h

mutual
theorem rp_mono {G : Glob} {H H' : Hp} (s : Same H H') : ∀ (d : D) (v : V), Rp G H d v → Rp G H' d v
  | .non, v, h => by simpa only [Rp] using h
  | .bl _, v, h => by simpa only [Rp] using h
  | .int _, v, h => by simpa only [Rp] using h
  | .str _, v, h => by simpa only [Rp] using h
  | .ty _, v, h => by simpa only [Rp] using h
  | .tup xs, v, h => by
    rw [Rp] at h ⊢
    obtain ⟨p, vs, e, q, r⟩ := h
    exact ⟨p, vs, e, Same.tup s q, rpl_mono s xs vs r⟩
  | .lst xs, v, h => by
    rw [Rp] at h ⊢
    obtain ⟨p, vs, e, q, r⟩ := h
    exact ⟨p, vs, e, s _ _ q, rpl_mono s xs vs r⟩
  | .dct kvs, v, h => by
    rw [Rp] at h ⊢
    obtain ⟨p, o, vs, e, q, r, t⟩ := h
    exact ⟨p, o, vs, e, s _ _ q, r, rpk_mono s kvs vs t⟩
  | .obj c xs, v, h => by
    rw [Rp] at h ⊢
    obtain ⟨p, C, dx, vs, e, q, r, l, t⟩ := h
    exact ⟨p, C, dx, vs, e, s _ _ q, r, l, rpl_mono s xs vs t⟩
  | .fn n xs, v, h => by
    rw [Rp] at h ⊢
    obtain ⟨vs, q, r⟩ := h
    exact ⟨vs, G.fnrm s q, rpl_mono s xs vs r⟩
  | .scr ns, v, h => by
    rw [Rp] at h ⊢
    obtain ⟨p, e, q⟩ := h
    exact ⟨p, e, s.seq q⟩
theorem rpl_mono {G : Glob} {H H' : Hp} (s : Same H H') : ∀ (ds : List D) (vs : List V), RpL G H ds vs → RpL G H' ds vs
  | [], vs, h => by simpa only [RpL] using h
  | d :: r, vs, h => by
    rw [RpL] at h ⊢
    obtain ⟨v, rest, e, q, t⟩ := h
    exact ⟨v, rest, e, rp_mono s d v q, rpl_mono s r rest t⟩
theorem rpp_mono {G : Glob} {H H' : Hp} (s : Same H H') : ∀ (p : D × D) (v : V), RpP G H p v → RpP G H' p v
  | (_, d), v, h => by
    rw [RpP] at h ⊢
    exact rp_mono s d v h
theorem rpk_mono {G : Glob} {H H' : Hp} (s : Same H H') : ∀ (ds : List (D × D)) (vs : List V), RpK G H ds vs → RpK G H' ds vs
  | [], vs, h => by simpa only [RpK] using h
  | d :: r, vs, h => by
    rw [RpK] at h ⊢
    obtain ⟨v, rest, e, q, t⟩ := h
    exact ⟨v, rest, e, rpp_mono s d v q, rpk_mono s r rest t⟩
end

mutual
theorem own_frame {G : Glob} {H H' Hs Hs' : Hp} (s : Same Hs Hs') : ∀ (o : O) (v : V) (fp : List Addr), (∀ b ∈ fp, H' b = H b) → Own G H Hs o v fp → Own G H' Hs' o v fp
  | .stb d, v, fp, _, h => by
    rw [Own] at h ⊢
    exact ⟨h.1, rp_mono s d v h.2⟩
  | .tup xs, v, fp, k, h => by
    rw [Own] at h ⊢
    obtain ⟨p, vs, e, q, r⟩ := h
    exact ⟨p, vs, e, s _ _ q, ownl_frame s xs vs fp k r⟩
  | .lst xs, v, fp, k, h => by
    rw [Own] at h ⊢
    obtain ⟨p, vs, e, q, f, r⟩ := h
    subst f
    exact ⟨p, vs, e, by rw [k p (by simp)]; exact q, rfl, rpl_mono s xs vs r⟩
  | .lsl xs, v, fp, k, h => by
    rw [Own] at h ⊢
    obtain ⟨p, vs, f, e, q, ef, r⟩ := h
    subst ef
    exact ⟨p, vs, f, e, by rw [k p (by simp)]; exact q, rfl, ownl_frame s xs vs f (fun b hb => k b (List.mem_cons_of_mem _ hb)) r⟩
  | .dct kvs, v, fp, k, h => by
    rw [Own] at h ⊢
    obtain ⟨p, o, vs, e, q, f, r, t⟩ := h
    subst f
    exact ⟨p, o, vs, e, by rw [k p (by simp)]; exact q, rfl, r, rpk_mono s kvs vs t⟩
  | .obj c xs, v, fp, k, h => by
    rw [Own] at h ⊢
    obtain ⟨p, C, dx, vs, f, e, q, r, l, ef, t⟩ := h
    subst ef
    exact ⟨p, C, dx, vs, f, e, by rw [k p (by simp)]; exact q, r, l, rfl, ownl_frame s xs vs f (fun b hb => k b (List.mem_cons_of_mem _ hb)) t⟩
theorem ownl_frame {G : Glob} {H H' Hs Hs' : Hp} (s : Same Hs Hs') : ∀ (os : List O) (vs : List V) (fp : List Addr), (∀ b ∈ fp, H' b = H b) → OwnL G H Hs os vs fp → OwnL G H' Hs' os vs fp
  | [], vs, fp, _, h => by simpa only [OwnL] using h
  | o :: r, vs, fp, k, h => by
    rw [OwnL] at h ⊢
    obtain ⟨v, rest, f1, f2, e, ef, q, t⟩ := h
    subst ef
    exact ⟨v, rest, f1, f2, e, rfl, own_frame s o v f1 (fun b hb => k b (List.mem_append_left _ hb)) q, ownl_frame s r rest f2 (fun b hb => k b (List.mem_append_right _ hb)) t⟩
end

mutual
/-- what is owned may be let stand for good -/
theorem own_fr {G : Glob} {H Hs Hs' : Hp} (s : Same Hs Hs') : ∀ (o : O) (v : V) (fp : List Addr), (∀ b ∈ fp, Hs' b = H b) → Own G H Hs o v fp → Rp G Hs' (fr o) v
  | .stb d, v, fp, _, h => by
    rw [Own] at h
    rw [fr]
    exact rp_mono s d v h.2
  | .tup xs, v, fp, k, h => by
    rw [Own] at h
    rw [fr, Rp]
    obtain ⟨p, vs, e, q, r⟩ := h
    exact ⟨p, vs, e, SqT.of (s _ _ q), ownl_fr s xs vs fp k r⟩
  | .lst xs, v, fp, k, h => by
    rw [Own] at h
    rw [fr, Rp]
    obtain ⟨p, vs, e, q, f, r⟩ := h
    subst f
    exact ⟨p, vs, e, (k p (by simp)).trans q, rpl_mono s xs vs r⟩
  | .lsl xs, v, fp, k, h => by
    rw [Own] at h
    rw [fr, Rp]
    obtain ⟨p, vs, f, e, q, ef, r⟩ := h
    subst ef
    exact ⟨p, vs, e, (k p (by simp)).trans q, ownl_fr s xs vs f (fun b hb => k b (List.mem_cons_of_mem _ hb)) r⟩
  | .dct kvs, v, fp, k, h => by
    rw [Own] at h
    rw [fr, Rp]
    obtain ⟨p, o, vs, e, q, f, r, t⟩ := h
    subst f
    exact ⟨p, o, vs, e, (k p (by simp)).trans q, r, rpk_mono s kvs vs t⟩
  | .obj c xs, v, fp, k, h => by
    rw [Own] at h
    rw [fr, Rp]
    obtain ⟨p, C, dx, vs, f, e, q, r, l, ef, t⟩ := h
    subst ef
    exact ⟨p, C, dx, vs, e, (k p (by simp)).trans q, r, by rw [frl_length]; exact l, ownl_fr s xs vs f (fun b hb => k b (List.mem_cons_of_mem _ hb)) t⟩
theorem ownl_fr {G : Glob} {H Hs Hs' : Hp} (s : Same Hs Hs') : ∀ (os : List O) (vs : List V) (fp : List Addr), (∀ b ∈ fp, Hs' b = H b) → OwnL G H Hs os vs fp → RpL G Hs' (frL os) vs
  | [], vs, fp, _, h => by
    rw [OwnL] at h
    rw [frL, RpL]
    exact h.1
  | o :: r, vs, fp, k, h => by
    rw [OwnL] at h
    rw [frL, RpL]
    obtain ⟨v, rest, f1, f2, e, ef, q, t⟩ := h
    subst ef
    exact ⟨v, rest, e, own_fr s o v f1 (fun b hb => k b (List.mem_append_left _ hb)) q, ownl_fr s r rest f2 (fun b hb => k b (List.mem_append_right _ hb)) t⟩
theorem frl_length : ∀ os : List O, (frL os).length = os.length
  | [] => rfl
  | o :: r => by rw [frL, List.length_cons, List.length_cons, frl_length r]
end

mutual
theorem own_there {G : Glob} {H Hs : Hp} : ∀ (o : O) (v : V) (fp : List Addr), Own G H Hs o v fp → ∀ b ∈ fp, ∃ u, H b = some u ∧ Ownd u
  | .stb d, v, fp, h => by
    rw [Own] at h
    rw [h.1]
    simp
  | .tup xs, v, fp, h => by
    rw [Own] at h
    obtain ⟨p, vs, e, q, r⟩ := h
    exact ownl_there xs vs fp r
  | .lst xs, v, fp, h => by
    rw [Own] at h
    obtain ⟨p, vs, e, q, f, r⟩ := h
    subst f
    intro b hb
    rw [List.mem_singleton] at hb
    subst hb
    exact ⟨_, q, ⟨fun _ z => (nomatch z), fun _ z => (nomatch z)⟩⟩
  | .lsl xs, v, fp, h => by
    rw [Own] at h
    obtain ⟨p, vs, f, e, q, ef, r⟩ := h
    subst ef
    intro b hb
    rcases List.mem_cons.mp hb with hb | hb
    · subst hb; exact ⟨_, q, ⟨fun _ z => (nomatch z), fun _ z => (nomatch z)⟩⟩
    · exact ownl_there xs vs f r b hb
  | .dct kvs, v, fp, h => by
    rw [Own] at h
    obtain ⟨p, o, vs, e, q, f, r, t⟩ := h
    subst f
    intro b hb
    rw [List.mem_singleton] at hb
    exact ⟨_, hb ▸ q, (G.dck r).2.2⟩
  | .obj c xs, v, fp, h => by
    rw [Own] at h
    obtain ⟨p, C, dx, vs, f, e, q, r, l, ef, t⟩ := h
    subst ef
    intro b hb
    rcases List.mem_cons.mp hb with hb | hb
    · subst hb; exact ⟨_, q, ⟨fun _ z => (nomatch z), fun _ z => (nomatch z)⟩⟩
    · exact ownl_there xs vs f t b hb
theorem ownl_there {G : Glob} {H Hs : Hp} : ∀ (os : List O) (vs : List V) (fp : List Addr), OwnL G H Hs os vs fp → ∀ b ∈ fp, ∃ u, H b = some u ∧ Ownd u
  | [], vs, fp, h => by
    rw [OwnL] at h
    rw [h.2]
    simp
  | o :: r, vs, fp, h => by
    rw [OwnL] at h
    obtain ⟨v, rest, f1, f2, e, ef, q, t⟩ := h
    subst ef
    intro b hb
    rcases List.mem_append.mp hb with hb | hb
    · exact own_there o v f1 q b hb
    · exact ownl_there r rest f2 t b hb
end
theorem rpl_length {G : Glob} {H : Hp} : ∀ {ds : List D} {vs : List V}, RpL G H ds vs → ds.length = vs.length
  | [], vs, h => by rw [RpL] at h; rw [h]; rfl
  | d :: r, vs, h => by
    rw [RpL] at h
    obtain ⟨v, rest, e, _, t⟩ := h
    rw [e, List.length_cons, List.length_cons, rpl_length t]
theorem ownl_length {G : Glob} {H Hs : Hp} : ∀ {os : List O} {vs : List V} {fp : List Addr}, OwnL G H Hs os vs fp → os.length = vs.length
  | [], vs, fp, h => by rw [OwnL] at h; rw [h.1]; rfl
  | d :: r, vs, fp, h => by
    rw [OwnL] at h
    obtain ⟨v, rest, f1, f2, e, _, _, t⟩ := h
    rw [e, List.length_cons, List.length_cons, ownl_length t]
end Lf

namespace Lf
open PySem L2

structure Act where
  H0 : Hp
  Hs0 : Hp
  io : List Addr
  pv : List V
abbrev En := List (Option O)
abbrev Tm := List (O × V)

def Sl1 (G : Glob) (H Hs : Hp) : Option O → Option V → List Addr → Prop
  | none, _, fp => fp = []
  | some o, s, fp => ∃ v, s = some v ∧ Own G H Hs o v fp
def SlO (G : Glob) (H Hs : Hp) : En → L2.St → List Addr → Prop
  | [], σ, fp => σ = [] ∧ fp = []
  | x :: ρ, σ, fp => ∃ s r f1 f2, σ = s :: r ∧ fp = f1 ++ f2 ∧ Sl1 G H Hs x s f1 ∧ SlO G H Hs ρ r f2
def TmO (G : Glob) (H Hs : Hp) : Tm → List Addr → Prop
  | [], fp => fp = []
  | (o, v) :: ts, fp => ∃ f1 f2, fp = f1 ++ f2 ∧ Own G H Hs o v f1 ∧ TmO G H Hs ts f2

structure Sta (G : Glob) (a : Act) (ρ : En) (ts : Tm) (σ : L2.St) (Hs H : Hp) : Prop where
  sub : Same Hs H
  base : Kpx a.io a.H0 H
  tabs : Tbs G.tabs Hs H
  stab : Same a.Hs0 Hs
  frsh : ∀ b u, Hs b = some u → a.Hs0 b = none → Nt a.H0 b ∨ b ∈ a.io
  pin : σ.take a.pv.length = a.pv.map some
  own : ∃ f1 f2, SlO G H Hs ρ σ f1 ∧ TmO G H Hs ts f2 ∧ (f1 ++ f2).Nodup ∧ ∀ b ∈ f1 ++ f2, Hs b = none ∧ (a.H0 b = none ∨ b ∈ a.io)

section
variable {G : Glob} {H H' Hs Hs' : Hp}
theorem sl1_frame (s : Same Hs Hs') {x : Option O} {y : Option V} {f : List Addr} (k : ∀ b ∈ f, H' b = H b) (h : Sl1 G H Hs x y f) : Sl1 G H' Hs' x y f := by
  cases x with
  | none => exact h
  | some o =>
    obtain ⟨v, e, q⟩ := h
    exact ⟨v, e, own_frame s o v f k q⟩
theorem slo_frame (s : Same Hs Hs') : ∀ {ρ : En} {σ : L2.St} {f : List Addr}, (∀ b ∈ f, H' b = H b) → SlO G H Hs ρ σ f → SlO G H' Hs' ρ σ f
  | [], σ, f, _, h => h
  | x :: ρ, σ, f, k, h => by
    obtain ⟨y, r, f1, f2, e, ef, q, t⟩ := h
    subst ef
    exact ⟨y, r, f1, f2, e, rfl, sl1_frame s (fun b hb => k b (List.mem_append_left _ hb)) q, slo_frame s (fun b hb => k b (List.mem_append_right _ hb)) t⟩
theorem tmo_frame (s : Same Hs Hs') : ∀ {ts : Tm} {f : List Addr}, (∀ b ∈ f, H' b = H b) → TmO G H Hs ts f → TmO G H' Hs' ts f
  | [], f, _, h => h
  | (o, v) :: ts, f, k, h => by
    obtain ⟨f1, f2, ef, q, t⟩ := h
    subst ef
    exact ⟨f1, f2, rfl, own_frame s o v f1 (fun b hb => k b (List.mem_append_left _ hb)) q, tmo_frame s (fun b hb => k b (List.mem_append_right _ hb)) t⟩
theorem sl1_there {x : Option O} {y : Option V} {f : List Addr} (h : Sl1 G H Hs x y f) : ∀ b ∈ f, ∃ u, H b = some u ∧ Ownd u := by
  cases x with
  | none =>
    have e : f = [] := h
    rw [e]; simp
  | some o =>
    obtain ⟨v, e, q⟩ := h
    exact own_there o v f q
theorem slo_there : ∀ {ρ : En} {σ : L2.St} {f : List Addr}, SlO G H Hs ρ σ f → ∀ b ∈ f, ∃ u, H b = some u ∧ Ownd u
  | [], σ, f, h => by rw [h.2]; simp
  | x :: ρ, σ, f, h => by
    obtain ⟨y, r, f1, f2, e, ef, q, t⟩ := h
    subst ef
    intro b hb
    rcases List.mem_append.mp hb with hb | hb
    · exact sl1_there q b hb
    · exact slo_there t b hb
theorem tmo_there : ∀ {ts : Tm} {f : List Addr}, TmO G H Hs ts f → ∀ b ∈ f, ∃ u, H b = some u ∧ Ownd u
  | [], f, h => by
    have e : f = [] := h
    rw [e]; simp
  | (o, v) :: ts, f, h => by
    obtain ⟨f1, f2, ef, q, t⟩ := h
    subst ef
    intro b hb
    rcases List.mem_append.mp hb with hb | hb
    · exact own_there o v f1 q b hb
    · exact tmo_there t b hb
theorem slo_length : ∀ {ρ : En} {σ : L2.St} {f : List Addr}, SlO G H Hs ρ σ f → ρ.length = σ.length
  | [], σ, f, h => by rw [h.1]; rfl
  | x :: ρ, σ, f, h => by
    obtain ⟨y, r, f1, f2, e, ef, q, t⟩ := h
    rw [e, List.length_cons, List.length_cons, slo_length t]
/-- one slot, and how it is changed -/
theorem slo_at : ∀ {ρ : En} {σ : L2.St} {f : List Addr} (i : Nat), SlO G H Hs ρ σ f → i < ρ.length →
    ∃ x y p fo q, ρ[i]? = some x ∧ σ[i]? = some y ∧ f = p ++ (fo ++ q) ∧ Sl1 G H Hs x y fo ∧
      ∀ H' Hs' x' y' fo', Same Hs Hs' → (∀ b ∈ p ++ q, H' b = H b) → Sl1 G H' Hs' x' y' fo' → SlO G H' Hs' (ρ.set i x') (σ.set i y') (p ++ (fo' ++ q))
  | [], σ, f, i, h, l => by simp at l
  | x :: ρ, σ, f, 0, h, l => by
    obtain ⟨y, r, f1, f2, e, ef, q, t⟩ := h
    subst e ef
    refine ⟨x, y, [], f1, f2, rfl, rfl, rfl, q, fun H' Hs' x' y' fo' s k h' => ?_⟩
    exact ⟨y', r, fo', f2, rfl, rfl, h', slo_frame s (fun b hb => k b (by simpa using hb)) t⟩
  | x :: ρ, σ, f, i + 1, h, l => by
    obtain ⟨y, r, f1, f2, e, ef, q, t⟩ := h
    subst e ef
    obtain ⟨x2, y2, p, fo, q2, e1, e2, e3, h1, h2⟩ := slo_at i t (by simpa using l)
    subst e3
    refine ⟨x2, y2, f1 ++ p, fo, q2, by simpa using e1, by simpa using e2, by simp, h1, fun H' Hs' x' y' fo' s k h' => ?_⟩
    refine ⟨y, r.set i y', f1, p ++ (fo' ++ q2), rfl, by simp, sl1_frame s (fun b hb => k b (by simp [hb])) q, h2 H' Hs' x' y' fo' s (fun b hb => k b (by
      rcases List.mem_append.mp hb with hb | hb
      · simp [hb]
      · simp [hb])) h'⟩
end

section
variable {G : Glob} {a : Act} {ρ : En} {ts : Tm} {σ : L2.St} {H H' Hs Hs' : Hp}
/-- what is left to show where the heap goes on -/
theorem Sta.go {ρ' : En} {ts' : Tm} {σ' : L2.St} {f1 f2 : List Addr} (S : Sta G a ρ ts σ Hs H) (hf : ∀ b ∈ f1 ++ f2, Hs b = none ∧ (a.H0 b = none ∨ b ∈ a.io))
    (s1 : Same Hs Hs') (s2 : Same Hs' H') (k : Kpx (f1 ++ f2) H H') (tb : Tbs G.tabs Hs' H') (n : ∀ b u, Hs' b = some u → Hs b = none → Nt H b ∨ b ∈ f1 ++ f2)
    (pn : σ'.take a.pv.length = a.pv.map some)
    (g1 g2 : List Addr) (hS : SlO G H' Hs' ρ' σ' g1) (hT : TmO G H' Hs' ts' g2) (nd : (g1 ++ g2).Nodup) (hg : ∀ b ∈ g1 ++ g2, Hs' b = none ∧ (H b = none ∨ b ∈ f1 ++ f2)) : Sta G a ρ' ts' σ' Hs' H' where
  sub := s2
  base := fun b o e hb => by
    have nm : b ∉ f1 ++ f2 := fun hm => by
      rcases (hf b hm).2 with q | q
      · rw [q] at e; cases e
      · exact hb q
    rcases S.base b o e hb with z | ⟨z, u, q⟩
    · exact k b o z nm
    · exact .inr ⟨z, k.there q nm⟩
  tabs := tb
  stab := S.stab.trans s1
  frsh := fun b u e e0 => by
    cases q : Hs b with
    | some w => exact S.frsh b w q e0
    | none =>
      rcases n b u e q with z | z
      · by_cases hb : b ∈ a.io
        · exact .inr hb
        · left
          intro w r ow
          rcases S.base b w r hb with z2 | ⟨⟨ps, z2⟩, _⟩
          · exact z w z2 ow
          · exact ow.1 ps z2
      · exact (hf b z).2.imp Nt.of id
  pin := pn
  own := ⟨g1, g2, hS, hT, nd, fun b hb => ⟨(hg b hb).1, by
    rcases (hg b hb).2 with z | z
    · by_cases hb : b ∈ a.io
      · exact .inr hb
      · left
        cases r : a.H0 b with
        | none => rfl
        | some w =>
          obtain ⟨u', q'⟩ := S.base.there r hb
          rw [q'] at z; cases z
    · exact (hf b z).2⟩⟩
theorem Sta.push (S : Sta G a ρ ts σ Hs H) {d : D} {v : V} (h : Rp G Hs d v) : Sta G a ρ ((.stb d, v) :: ts) σ Hs H := by
  obtain ⟨f1, f2, h1, h2, nd, hf⟩ := S.own
  exact ⟨S.sub, S.base, S.tabs, S.stab, S.frsh, S.pin, f1, f2, h1, ⟨[], f2, rfl, by rw [Own]; exact ⟨rfl, h⟩, h2⟩, nd, hf⟩
theorem Sta.drop {x : O × V} (S : Sta G a ρ (x :: ts) σ Hs H) : Sta G a ρ ts σ Hs H := by
  obtain ⟨f1, f2, h1, h2, nd, hf⟩ := S.own
  obtain ⟨g1, g2, e, q, t⟩ := h2
  subst e
  refine ⟨S.sub, S.base, S.tabs, S.stab, S.frsh, S.pin, f1, g2, h1, t, ?_, fun b hb => hf b ?_⟩
  · grind
  · grind
theorem Sta.top {d : D} {v : V} (S : Sta G a ρ ((.stb d, v) :: ts) σ Hs H) : Rp G Hs d v := by
  obtain ⟨f1, f2, h1, h2, nd, hf⟩ := S.own
  obtain ⟨g1, g2, e, q, t⟩ := h2
  rw [Own] at q
  exact q.2
/-- a new tuple, list of what stands -/
theorem Sta.new (S : Sta G a ρ ts σ Hs H) {p : Addr} {o : HO} (hp : H p = none) (ho : ∀ ps, o ≠ .tbl ps := by (intro ps z; cases z)) : Sta G a ρ ts σ (upd Hs p o) (upd H p o) := by
  obtain ⟨f1, f2, h1, h2, nd, hf⟩ := S.own
  have hps : Hs p = none := S.sub.free hp
  have ne : ∀ b ∈ f1 ++ f2, b ≠ p := fun b hb z => by
    rcases List.mem_append.mp hb with q | q
    · obtain ⟨u, e, _⟩ := slo_there h1 b q
      rw [z, hp] at e; cases e
    · obtain ⟨u, e, _⟩ := tmo_there h2 b q
      rw [z, hp] at e; cases e
  have s1 : Same Hs (upd Hs p o) := fun b u e => by rw [upd_ne (ne_of_none e hps)]; exact e
  have ext : ∀ b u, H b = some u → upd H p o b = some u := fun b u e => by rw [upd_ne (ne_of_none e hp)]; exact e
  refine S.go hf s1 (fun b u e => ?_) (.of fun b u e _ => ext b u e) ⟨S.tabs.1.ext ext, noT_upd S.tabs.2 ho⟩ (fun b u e e0 => ?_) S.pin f1 f2 (slo_frame s1 (fun b hb => upd_ne (ne b (List.mem_append_left _ hb))) h1) (tmo_frame s1 (fun b hb => upd_ne (ne b (List.mem_append_right _ hb))) h2) nd fun b hb => ⟨?_, .inr hb⟩
  · by_cases hb : b = p
    · subst hb; rw [upd_same] at e ⊢; exact e
    · rw [upd_ne hb] at e ⊢; exact S.sub b u e
  · by_cases hb : b = p
    · subst hb; exact .inl (.of hp)
    · rw [upd_ne hb, e0] at e; cases e
  · rw [upd_ne (ne b hb)]; exact (hf b hb).1
end
/-- a write to what is owned leaves the tables -/
theorem tabs_upd {T : List NdefX.NTab} {Hs H : Hp} {p : Addr} {u : HO} (t : Tbs T Hs H) (h : ∃ w, H p = some w ∧ Ownd w) : Tbs T Hs (upd H p u) := ⟨fun q hq => by
  obtain ⟨w, e, n1, n2⟩ := h
  obtain ⟨ps, h1, h2, h3⟩ := t.1 q hq
  have np : q.1 ≠ p := fun z => by
    rw [z, e] at h1
    exact n1 ps (Option.some.inj h1)
  refine ⟨ps, by rw [upd_ne np]; exact h1, h2, fun pos cv hc => ?_⟩
  obtain ⟨c, e1, e2⟩ := h3 pos cv hc
  have nc : c ≠ p := fun z => by
    rw [z, e] at e2
    exact n2 _ (Option.some.inj e2)
  exact ⟨c, e1, by rw [upd_ne nc]; exact e2⟩, t.2⟩
end Lf

namespace Lf
open PySem L2

structure Ex where
  c : Nat
  fs : List D
inductive Rs (α : Type) where
  | ok (x : α) (ρ : En) | exc (e : Ex) (ρ : En) | bad
inductive Ro where
  | nxt (ρ : En) | ret (o : O) (ρ : En) | brk (ρ : En) | ctn (ρ : En) | exc (e : Ex) (ρ : En) | bad
def Rs.bind {α β : Type} (x : Rs α) (k : α → En → Rs β) : Rs β := match x with
  | .ok d ρ => k d ρ
  | .exc e ρ => .exc e ρ
  | .bad => .bad
def Rs.bindS {α : Type} (x : Rs α) (k : α → En → Ro) : Ro := match x with
  | .ok d ρ => k d ρ
  | .exc e ρ => .exc e ρ
  | .bad => .bad
def lift {α : Type} (x : Option α) (ρ : En) : Rs α := match x with
  | some d => .ok d ρ
  | none => .bad
def ExR (G : Glob) (Hs : Hp) (e : Ex) (cls : Value) (d : Option Addr) : Prop :=
  ∃ C, G.cls e.c = some C ∧ cls = .ref C ∧ ((e.fs = [] ∧ d = none) ∨ e.fs ≠ [] ∧ ∃ dx vs, d = some dx ∧ Hs dx = some (.xd ((G.flds e.c).zip vs)) ∧ RpL G Hs e.fs vs)

/-- what is wanted behind an expression -/
def Po {α β : Type} (R : Hp → α → β → Prop) (G : Glob) (a : Act) (W : WX) (ts : Tm) (σ : L2.St) (Hs H : Hp) (Q : β → Hp → Prop) : Rs α → Prop
  | .ok x ρ' => ∀ y Hs' H', Sta G a ρ' ts σ Hs' H' → Same Hs Hs' → Kp H H' → R Hs' x y → Q y H'
  | .exc e ρ' => ∀ c d Hs' H', Sta G a ρ' ts σ Hs' H' → ExR G Hs' e c d → W c d σ H'
  | .bad => False
def tG {α β : Type} (R : Hp → α → β → Prop) (G : Glob) (a : Act) (W : WX) (f : En → Rs α) : L2.St → Hp → (β → Hp → Prop) → Prop :=
  fun σ H Q => ∃ ρ ts Hs, Sta G a ρ ts σ Hs H ∧ Po R G a W ts σ Hs H Q (f ρ)
def BB : Hp → Bool → Bool → Prop := fun _ x y => x = y
def PoS (G : Glob) (a : Act) (W : WX) (ts : Tm) (Hs : Hp) (D : Ends) : Ro → Prop
  | .nxt ρ' => ∀ σ' Hs' H', Sta G a ρ' ts σ' Hs' H' → Same Hs Hs' → D.nx σ' H'
  | .ret o ρ' => ∀ v σ' Hs' H', Sta G a ρ' ((o, v) :: ts) σ' Hs' H' → Same Hs Hs' → D.rt v H'
  | .brk ρ' => ∀ σ' Hs' H', Sta G a ρ' ts σ' Hs' H' → Same Hs Hs' → D.bk σ' H'
  | .ctn ρ' => ∀ σ' Hs' H', Sta G a ρ' ts σ' Hs' H' → Same Hs Hs' → D.ct σ' H'
  | .exc e ρ' => ∀ c d σ' Hs' H', Sta G a ρ' ts σ' Hs' H' → ExR G Hs' e c d → W c d σ' H'
  | .bad => False
def tS (G : Glob) (a : Act) (W : WX) (f : En → Ro) : TS := fun D σ H => ∃ ρ ts Hs, Sta G a ρ ts σ Hs H ∧ PoS G a W ts Hs D (f ρ)
/-- an owned value -/
def PoO (G : Glob) (a : Act) (W : WX) (ts : Tm) (σ : L2.St) (Hs H : Hp) (Q : VK) : Rs O → Prop
  | .ok o ρ' => ∀ v Hs' H', Sta G a ρ' ((o, v) :: ts) σ Hs' H' → Same Hs Hs' → Kp H H' → Q v H'
  | .exc e ρ' => ∀ c d Hs' H', Sta G a ρ' ts σ Hs' H' → ExR G Hs' e c d → W c d σ H'
  | .bad => False
def tO (G : Glob) (a : Act) (W : WX) (f : En → Rs O) : TE := fun σ H Q => ∃ ρ ts Hs, Sta G a ρ ts σ Hs H ∧ PoO G a W ts σ Hs H Q (f ρ)

abbrev JE (X : Cx) (G : Glob) (a : Act) (W : WX) (e : Expr) (f : En → Rs D) : Prop := PE X e (tG (Rp G) G a W f)
abbrev JT (X : Cx) (G : Glob) (a : Act) (W : WX) (e : Expr) (f : En → Rs Bool) : Prop := PT X e (tG BB G a W f)
abbrev JA (X : Cx) (G : Glob) (a : Act) (W : WX) (es : List Expr) (f : En → Rs (List D)) : Prop := PA X es (tG (RpL G) G a W f)
abbrev JO (X : Cx) (G : Glob) (a : Act) (W : WX) (e : Expr) (f : En → Rs O) : Prop := PE X e (tO G a W f)
abbrev JS (X : Cx) (G : Glob) (a : Act) (W : WX) (st : Stmt) (f : En → Ro) : Prop := PS X st (tS G a W f)
abbrev JB (X : Cx) (G : Glob) (a : Act) (W : WX) (st : List Stmt) (f : En → Ro) : Prop := PSs X st (tS G a W f)

section
variable {X : Cx} {e : Expr} {st : Stmt} {sts : List Stmt} {es : List Expr}
theorem _root_.L2.PE.imp {t t' : TE} (h : PE X e t) (k : ∀ σ H Q, t' σ H Q → t σ H Q) : PE X e t' := ⟨fun pins s σ H Q I q => h.run pins s σ H Q I (k σ H Q q)⟩
theorem _root_.L2.PT.imp {t t' : TT} (h : PT X e t) (k : ∀ σ H Q, t' σ H Q → t σ H Q) : PT X e t' := ⟨fun pins s σ H Q I q => h.run pins s σ H Q I (k σ H Q q)⟩
theorem _root_.L2.PW.imp {t t' : TT} (h : PW X e t) (k : ∀ σ H Q, t' σ H Q → t σ H Q) : PW X e t' := ⟨fun w pins s σ H Q I q => h.run w pins s σ H Q I (k σ H Q q)⟩
theorem _root_.L2.PA.imp {t t' : TA} (h : PA X es t) (k : ∀ σ H Q, t' σ H Q → t σ H Q) : PA X es t' := ⟨fun p pins s σ H Q I q => h.run p pins s σ H Q I (k σ H Q q)⟩
theorem _root_.L2.PS.imp {t t' : TS} (h : PS X st t) (k : ∀ D σ H, t' D σ H → t D σ H) : PS X st t' := ⟨fun pins s σ H D I q => h.run pins s σ H D I (k D σ H q)⟩
theorem _root_.L2.PSs.imp {t t' : TS} (h : PSs X sts t) (k : ∀ D σ H, t' D σ H → t D σ H) : PSs X sts t' := ⟨fun pins s σ H D I q => h.run pins s σ H D I (k D σ H q)⟩
end

section
variable {α β γ δ : Type} {R : Hp → α → β → Prop} {T : Hp → γ → δ → Prop} {G : Glob} {a : Act} {W : WX} {ts : Tm} {σ : L2.St} {Hs H : Hp} {ρ : En}
theorem Po.mono {Q Q' : β → Hp → Prop} {x : Rs α} (h : Po R G a W ts σ Hs H Q x) (k : ∀ y H', Q y H' → Q' y H') : Po R G a W ts σ Hs H Q' x := by
  cases x with
  | ok x ρ' => exact fun y Hs' H' S s1 s2 r => k _ _ (h y Hs' H' S s1 s2 r)
  | exc e ρ' => exact h
  | bad => exact h
theorem Po.later {Q : β → Hp → Prop} {x : Rs α} {Hs' H' : Hp} (h : Po R G a W ts σ Hs H Q x) (s1 : Same Hs Hs') (s2 : Kp H H') : Po R G a W ts σ Hs' H' Q x := by
  cases x with
  | ok x ρ' => exact fun y Hs2 H2 S t1 t2 r => h y Hs2 H2 S (s1.trans t1) (s2.trans t2) r
  | exc e ρ' => exact h
  | bad => exact h
theorem PoO.later {Q : VK} {x : Rs O} {Hs' H' : Hp} (h : PoO G a W ts σ Hs H Q x) (s1 : Same Hs Hs') (s2 : Kp H H') : PoO G a W ts σ Hs' H' Q x := by
  cases x with
  | ok x ρ' => exact fun y Hs2 H2 S t1 t2 => h y Hs2 H2 S (s1.trans t1) (s2.trans t2)
  | exc e ρ' => exact h
  | bad => exact h
theorem PoS.later {D : Ends} {x : Ro} {Hs' : Hp} (h : PoS G a W ts Hs D x) (s1 : Same Hs Hs') : PoS G a W ts Hs' D x := by
  cases x with
  | nxt ρ' => exact fun σ2 Hs2 H2 S t1 => h σ2 Hs2 H2 S (s1.trans t1)
  | ret o ρ' => exact fun v σ2 Hs2 H2 S t1 => h v σ2 Hs2 H2 S (s1.trans t1)
  | brk ρ' => exact fun σ2 Hs2 H2 S t1 => h σ2 Hs2 H2 S (s1.trans t1)
  | ctn ρ' => exact fun σ2 Hs2 H2 S t1 => h σ2 Hs2 H2 S (s1.trans t1)
  | exc e ρ' => exact h
  | bad => exact h
theorem Po.bind {Q : δ → Hp → Prop} {x : Rs α} {k : α → En → Rs γ} (h : Po T G a W ts σ Hs H Q (x.bind k)) :
    Po R G a W ts σ Hs H (fun y H' => ∃ d ρ' Hs', Sta G a ρ' ts σ Hs' H' ∧ Same Hs Hs' ∧ Kp H H' ∧ R Hs' d y ∧ Po T G a W ts σ Hs' H' Q (k d ρ')) x := by
  cases x with
  | ok x ρ' => exact fun y Hs' H' S s1 s2 r => ⟨x, ρ', Hs', S, s1, s2, r, Po.later (show Po T G a W ts σ Hs H Q (k x ρ') from h) s1 s2⟩
  | exc e ρ' => exact h
  | bad => exact h
theorem Po.bindO {Q : VK} {x : Rs α} {k : α → En → Rs O} (h : PoO G a W ts σ Hs H Q (x.bind k)) :
    Po R G a W ts σ Hs H (fun y H' => ∃ d ρ' Hs', Sta G a ρ' ts σ Hs' H' ∧ Same Hs Hs' ∧ Kp H H' ∧ R Hs' d y ∧ PoO G a W ts σ Hs' H' Q (k d ρ')) x := by
  cases x with
  | ok x ρ' => exact fun y Hs' H' S s1 s2 r => ⟨x, ρ', Hs', S, s1, s2, r, PoO.later (show PoO G a W ts σ Hs H Q (k x ρ') from h) s1 s2⟩
  | exc e ρ' => exact h
  | bad => exact h
theorem Po.bindS {D : Ends} {x : Rs α} {k : α → En → Ro} (h : PoS G a W ts Hs D (x.bindS k)) :
    Po R G a W ts σ Hs H (fun y H' => ∃ d ρ' Hs', Sta G a ρ' ts σ Hs' H' ∧ Same Hs Hs' ∧ Kp H H' ∧ R Hs' d y ∧ PoS G a W ts Hs' D (k d ρ')) x := by
  cases x with
  | ok x ρ' => exact fun y Hs' H' S s1 s2 r => ⟨x, ρ', Hs', S, s1, s2, r, PoS.later (show PoS G a W ts Hs D (k x ρ') from h) s1⟩
  | exc e ρ' => exact fun c d Hs' H' S r => h c d σ Hs' H' S r
  | bad => exact h
/-- two in a row: the first one's end -/
theorem tG.of {f : En → Rs α} {Q : β → Hp → Prop} (S : Sta G a ρ ts σ Hs H) (h : Po R G a W ts σ Hs H Q (f ρ)) : tG R G a W f σ H Q := ⟨ρ, ts, Hs, S, h⟩
end

/-- nothing, or one new object that stands for good -/
def Gr (Hs H Hs' H' : Hp) : Prop := (Hs' = Hs ∧ H' = H) ∨ ∃ p o, H p = none ∧ Hs' = upd Hs p o ∧ H' = upd H p o ∧ ∀ ps, o ≠ .tbl ps
section
variable {G : Glob} {a : Act} {W : WX} {ts : Tm} {σ : L2.St} {Hs H Hs' H' : Hp} {ρ : En}
theorem Same.new {p : Addr} {o : HO} (h : H p = none) : Same H (upd H p o) := fun b u e => by rw [upd_ne (ne_of_none e h)]; exact e
theorem Gr.same2 (g : Gr Hs H Hs' H') : Kp H H' := by
  rcases g with ⟨_, rfl⟩ | ⟨p, o, h, _, rfl, _⟩
  · exact Kp.refl _
  · exact Kp.new h
theorem Gr.same1 (g : Gr Hs H Hs' H') (s : Same Hs H) : Same Hs Hs' := by
  rcases g with ⟨rfl, _⟩ | ⟨p, o, h, rfl, _, _⟩
  · exact Same.refl _
  · exact Same.new (s.free h)
theorem Gr.sta (g : Gr Hs H Hs' H') (S : Sta G a ρ ts σ Hs H) : Sta G a ρ ts σ Hs' H' := by
  rcases g with ⟨rfl, rfl⟩ | ⟨p, o, h, rfl, rfl, ho⟩
  · exact S
  · exact S.new h ho
theorem Gr.rfl : Gr Hs H Hs H := .inl ⟨_root_.rfl, _root_.rfl⟩
theorem Gr.mk {p : Addr} {o : HO} (h : H p = none) (ho : ∀ ps, o ≠ .tbl ps := by (intro ps z; cases z)) : Gr Hs H (upd Hs p o) (upd H p o) := .inr ⟨p, o, h, _root_.rfl, _root_.rfl, ho⟩
/-- an end that gives a value -/
theorem po_give {α β : Type} {R : Hp → α → β → Prop} {Q : β → Hp → Prop} {x : Option α} {d : α} {y : β} (S : Sta G a ρ ts σ Hs H) (h : Po R G a W ts σ Hs H Q (lift x ρ)) (e : x = some d) (g : Gr Hs H Hs' H') (r : R Hs' d y) : Q y H' := by
  subst e
  exact h y Hs' H' (g.sta S) (g.same1 S.sub) g.same2 r
end

/-- a two-place operation, by plain values -/
def OpD (G : Glob) (r : R2) (g : D → D → Option D) : Prop := ∀ (Hs H : Hp) (d1 d2 d : D) (v1 v2 : V) (Q : VK), Same Hs H → Rp G Hs d1 v1 → Rp G Hs d2 v2 → g d1 d2 = some d →
  (∀ v Hs' H', Gr Hs H Hs' H' → Rp G Hs' d v → Q v H') → r v1 v2 H Q
def UnD (G : Glob) (r : V → Hp → VK → Prop) (g : D → Option D) : Prop := ∀ (Hs H : Hp) (d1 d : D) (v1 : V) (Q : VK), Same Hs H → Rp G Hs d1 v1 → g d1 = some d →
  (∀ v Hs' H', Gr Hs H Hs' H' → Rp G Hs' d v → Q v H') → r v1 H Q
def CaD (G : Glob) (r : List V → Hp → VK → Prop) (g : List D → Option D) : Prop := ∀ (Hs H : Hp) (ds : List D) (d : D) (vs : List V) (Q : VK), Same Hs H → RpL G Hs ds vs → g ds = some d →
  (∀ v Hs' H', Gr Hs H Hs' H' → Rp G Hs' d v → Q v H') → r vs H Q

def fBin (g : D → D → Option D) (f1 f2 : En → Rs D) : En → Rs D := fun ρ => (f1 ρ).bind fun d1 ρ1 => (f2 ρ1).bind fun d2 ρ2 => lift (g d1 d2) ρ2
def fUn (g : D → Option D) (f : En → Rs D) : En → Rs D := fun ρ => (f ρ).bind fun d ρ1 => lift (g d) ρ1
def fC (d : D) : En → Rs D := fun ρ => .ok d ρ
def fVar (i : Nat) : En → Rs D := fun ρ => match ρ[i]? with
  | some (some (.stb d)) => .ok d ρ
  | _ => .bad
def asB : D → Option Bool
  | .bl b => some b
  | _ => none
def fTest (f : En → Rs D) : En → Rs Bool := fun ρ => (f ρ).bind fun d ρ1 => lift (asB d) ρ1
def fAnd (f g : En → Rs Bool) : En → Rs Bool := fun ρ => (f ρ).bind fun b ρ1 => if b = true then g ρ1 else .ok false ρ1
def fOr (f g : En → Rs Bool) : En → Rs Bool := fun ρ => (f ρ).bind fun b ρ1 => if b = true then .ok true ρ1 else g ρ1
def fNot (f : En → Rs Bool) : En → Rs Bool := fun ρ => (f ρ).bind fun b ρ1 => .ok (!b) ρ1
def fAndV (f g : En → Rs D) : En → Rs D := fun ρ => (f ρ).bind fun d ρ1 => match d with
  | .bl true => g ρ1
  | .bl false => .ok (.bl false) ρ1
  | _ => .bad
def fOrV (f g : En → Rs D) : En → Rs D := fun ρ => (f ρ).bind fun d ρ1 => match d with
  | .bl true => .ok (.bl true) ρ1
  | .bl false => g ρ1
  | _ => .bad
def fNotV (f : En → Rs D) : En → Rs D := fun ρ => (f ρ).bind fun d ρ1 => match d with
  | .bl b => .ok (.bl (!b)) ρ1
  | _ => .bad
def fIfE (c : En → Rs Bool) (f g : En → Rs D) : En → Rs D := fun ρ => (c ρ).bind fun b ρ1 => if b = true then f ρ1 else g ρ1
def fNil : En → Rs (List D) := fun ρ => .ok [] ρ
def fCons (f : En → Rs D) (g : En → Rs (List D)) : En → Rs (List D) := fun ρ => (f ρ).bind fun d ρ1 => (g ρ1).bind fun ds ρ2 => .ok (d :: ds) ρ2
def fCall (g : List D → Option D) (f : En → Rs (List D)) : En → Rs D := fun ρ => (f ρ).bind fun ds ρ1 => lift (g ds) ρ1
def LIM : Nat := 16777216
theorem lim_eq : LIM = sizeLine := by rw [sizeLine_eq]; rfl
def gTupD (ds : List D) : Option D := if ds.length ≤ LIM then some (.tup ds) else none
def gLstD (ds : List D) : Option D := if ds.length ≤ LIM then some (.lst ds) else none

section
variable {X : Cx} {G : Glob} {a : Act} {W : WX} {e e1 e2 e3 : Expr} {f f1 f2 f3 : En → Rs D} {b1 b2 : En → Rs Bool} {pos : Pos} {es : List Expr} {fa : En → Rs (List D)}

theorem bin_imp {r : R2} {g : D → D → Option D} (hr : OpD G r g) (σ : L2.St) (H : Hp) (Q : VK) (h : tG (Rp G) G a W (fBin g f1 f2) σ H Q) : tOp r (tG (Rp G) G a W f1) (tG (Rp G) G a W f2) σ H Q := by
  obtain ⟨ρ, ts, Hs, S, k⟩ := h
  refine ⟨ρ, ts, Hs, S, (Po.bind (R := Rp G) k).mono ?_⟩
  rintro x H1 ⟨d1, ρ1, Hs1, S1, s1, s2, r1, k1⟩
  refine ⟨ρ1, ts, Hs1, S1, (Po.bind (R := Rp G) k1).mono ?_⟩
  rintro y H2 ⟨d2, ρ2, Hs2, S2, s3, s4, r2, k2⟩
  cases hg : g d1 d2 with
  | none => rw [hg] at k2; exact False.elim k2
  | some d =>
    rw [hg] at k2
    exact hr Hs2 H2 d1 d2 d x y Q S2.sub (rp_mono s3 _ _ r1) r2 hg fun v Hs' H' g r => po_give S2 k2 rfl g r
theorem test_imp (σ : L2.St) (H : Hp) (Q : Bool → Hp → Prop) (h : tG BB G a W (fTest f) σ H Q) : tG (Rp G) G a W f σ H (fun x H' => ∃ k, x = .bl k ∧ Q k H') := by
  obtain ⟨ρ, ts, Hs, S, k⟩ := h
  refine ⟨ρ, ts, Hs, S, (Po.bind (R := Rp G) k).mono ?_⟩
  rintro x H1 ⟨d, ρ1, Hs1, S1, s1, s2, r1, k1⟩
  cases d with
  | bl b =>
    rw [Rp] at r1
    exact ⟨b, r1, k1 b Hs1 H1 S1 (Same.refl _) (Kp.refl _) rfl⟩
  | _ => exact False.elim k1
theorem je_bin {op : Operator} {r : R2} {g : D → D → Option D} (ho : OpR X (binaryOp op) r) (hr : OpD G r g) (h1 : JE X G a W e1 f1) (h2 : JE X G a W e2 f2) : JE X G a W (.BinOp e1 op e2 pos) (fBin g f1 f2) :=
  (pe_op ho h1 h2).imp (bin_imp hr)
theorem je_un {op : UnaryOp} {r : V → Hp → VK → Prop} {g : D → Option D} (ho : UnR X (unaryOp op) r) (hr : UnD G r g) (h1 : JE X G a W e1 f1) : JE X G a W (.UnaryOp op e1 pos) (fUn g f1) := by
  refine (pe_un ho h1).imp fun σ H Q ⟨ρ, ts, Hs, S, k⟩ => ⟨ρ, ts, Hs, S, (Po.bind (R := Rp G) k).mono ?_⟩
  rintro x H1 ⟨d1, ρ1, Hs1, S1, s1, s2, r1, k1⟩
  cases hg : g d1 with
  | none => rw [hg] at k1; exact False.elim k1
  | some d =>
    rw [hg] at k1
    exact hr Hs1 H1 d1 d x Q S1.sub r1 hg fun v Hs' H' g r => po_give S1 k1 rfl g r
theorem je_cmp {op : CmpOp} {r : R2} {g : D → D → Option D} (ho : OpR X (compareOp op) r) (hr : OpD G r g) (h1 : JE X G a W e1 f1) (h2 : JE X G a W e2 f2) (hm : behindInMarks op e2 = false) : JE X G a W (.Compare e1 [op] [e2] pos) (fBin g f1 f2) :=
  (pe_cmpR ho h1 h2 hm).imp (bin_imp hr)
/-- a comparison as a test -/
theorem jt_cmp {op : CmpOp} {r : R2} {g : D → D → Option D} (ho : OpR X (compareOp op) r) (hr : OpD G r g) (h1 : JE X G a W e1 f1) (h2 : JE X G a W e2 f2) (hm : behindInMarks op e2 = false) : JT X G a W (.Compare e1 [op] [e2] pos) (fTest (fBin g f1 f2)) :=
  (pt_cmpR ho h1 h2 hm).imp fun σ H Q h => bin_imp hr σ H _ (test_imp σ H Q h)
/-- a value that is True or False as a test -/
theorem jt_val (h1 : JE X G a W e f) (he : ∀ whole, isTrue e X.env whole = (do let v ← whole; standAt e.pos; holding [v] (truthy v)) := by intro _; rfl) : JT X G a W e (fTest f) :=
  (pt_val h1 he).imp test_imp
theorem jt_not (h1 : JT X G a W e b1) : JT X G a W (.UnaryOp .Not e pos) (fNot b1) := by
  refine (pt_not h1).imp fun σ H Q ⟨ρ, ts, Hs, S, k⟩ => ⟨ρ, ts, Hs, S, (Po.bind (R := BB) k).mono ?_⟩
  rintro x H1 ⟨d, ρ1, Hs1, S1, s1, s2, r1, k1⟩
  cases r1
  exact k1 _ Hs1 H1 S1 (Same.refl _) (Kp.refl _) rfl
abbrev JW (X : Cx) (G : Glob) (a : Act) (W : WX) (e : Expr) (f : En → Rs Bool) : Prop := PW X e (tG BB G a W f)
theorem jw_and1 (h1 : JT X G a W e b1) : JW X G a W (.BoolOp .And [e] pos) b1 := pw_and1 h1
theorem jw_or1 (h1 : JT X G a W e b1) : JW X G a W (.BoolOp .Or [e] pos) b1 := pw_or1 h1
theorem jw_and {rest : List Expr} (h1 : JT X G a W e b1) (h2 : JW X G a W (.BoolOp .And (e1 :: rest) pos) b2) : JW X G a W (.BoolOp .And (e :: e1 :: rest) pos) (fAnd b1 b2) := by
  refine (pw_and h1 h2).imp fun σ H Q ⟨ρ, ts, Hs, S, k⟩ => ⟨ρ, ts, Hs, S, (Po.bind (R := BB) k).mono ?_⟩
  rintro x H1 ⟨d, ρ1, Hs1, S1, s1, s2, r1, k1⟩
  cases r1
  cases x with
  | true => exact ⟨ρ1, ts, Hs1, S1, k1⟩
  | false => exact k1 _ Hs1 H1 S1 (Same.refl _) (Kp.refl _) rfl
theorem jw_or {rest : List Expr} (h1 : JT X G a W e b1) (h2 : JW X G a W (.BoolOp .Or (e1 :: rest) pos) b2) : JW X G a W (.BoolOp .Or (e :: e1 :: rest) pos) (fOr b1 b2) := by
  refine (pw_or h1 h2).imp fun σ H Q ⟨ρ, ts, Hs, S, k⟩ => ⟨ρ, ts, Hs, S, (Po.bind (R := BB) k).mono ?_⟩
  rintro x H1 ⟨d, ρ1, Hs1, S1, s1, s2, r1, k1⟩
  cases r1
  cases x with
  | true => exact k1 _ Hs1 H1 S1 (Same.refl _) (Kp.refl _) rfl
  | false => exact ⟨ρ1, ts, Hs1, S1, k1⟩
theorem je_one {op} (h : JE X G a W e f) : JE X G a W (.BoolOp op [e] pos) f := pe_one h
theorem je_and {rest : List Expr} (h1 : JE X G a W e f1) (h2 : JE X G a W (.BoolOp .And (e1 :: rest) pos) f2) : JE X G a W (.BoolOp .And (e :: e1 :: rest) pos) (fAndV f1 f2) := by
  refine (pe_and h1 h2).imp fun σ H Q ⟨ρ, ts, Hs, S, k⟩ => ⟨ρ, ts, Hs, S, (Po.bind (R := Rp G) k).mono ?_⟩
  rintro x H1 ⟨d, ρ1, Hs1, S1, s1, s2, r1, k1⟩
  cases d with
  | bl b =>
    rw [Rp] at r1
    refine ⟨b, r1, ?_⟩
    cases b with
    | true => exact ⟨ρ1, ts, Hs1, S1, k1⟩
    | false => exact k1 _ Hs1 H1 S1 (Same.refl _) (Kp.refl _) (by rw [Rp])
  | _ => exact False.elim k1
theorem je_or {rest : List Expr} (h1 : JE X G a W e f1) (h2 : JE X G a W (.BoolOp .Or (e1 :: rest) pos) f2) : JE X G a W (.BoolOp .Or (e :: e1 :: rest) pos) (fOrV f1 f2) := by
  refine (pe_or h1 h2).imp fun σ H Q ⟨ρ, ts, Hs, S, k⟩ => ⟨ρ, ts, Hs, S, (Po.bind (R := Rp G) k).mono ?_⟩
  rintro x H1 ⟨d, ρ1, Hs1, S1, s1, s2, r1, k1⟩
  cases d with
  | bl b =>
    rw [Rp] at r1
    refine ⟨b, r1, ?_⟩
    cases b with
    | true => exact k1 _ Hs1 H1 S1 (Same.refl _) (Kp.refl _) (by rw [Rp])
    | false => exact ⟨ρ1, ts, Hs1, S1, k1⟩
  | _ => exact False.elim k1
theorem je_not (h1 : JE X G a W e f1) : JE X G a W (.UnaryOp .Not e pos) (fNotV f1) := by
  refine (pe_not h1).imp fun σ H Q ⟨ρ, ts, Hs, S, k⟩ => ⟨ρ, ts, Hs, S, (Po.bind (R := Rp G) k).mono ?_⟩
  rintro x H1 ⟨d, ρ1, Hs1, S1, s1, s2, r1, k1⟩
  cases d with
  | bl b =>
    rw [Rp] at r1
    exact ⟨b, r1, k1 _ Hs1 H1 S1 (Same.refl _) (Kp.refl _) (by rw [Rp])⟩
  | _ => exact False.elim k1
theorem je_ifE {c : Expr} (hc : JT X G a W c b1) (h1 : JE X G a W e1 f1) (h2 : JE X G a W e2 f2) : JE X G a W (.IfExp c e1 e2 pos) (fIfE b1 f1 f2) := by
  refine (pe_ifExp hc h1 h2).imp fun σ H Q ⟨ρ, ts, Hs, S, k⟩ => ⟨ρ, ts, Hs, S, (Po.bind (R := BB) k).mono ?_⟩
  rintro x H1 ⟨d, ρ1, Hs1, S1, s1, s2, r1, k1⟩
  cases r1
  cases x with
  | true => exact ⟨ρ1, ts, Hs1, S1, k1⟩
  | false => exact ⟨ρ1, ts, Hs1, S1, k1⟩
/-! constants, names -/
theorem je_of {d : D} {v : V} (h : PE X e (tC v)) (r : ∀ Hs, Rp G Hs d v) : JE X G a W e (fC d) := h.imp fun σ H Q ⟨ρ, ts, Hs, S, k⟩ => k v Hs H S (Same.refl _) (Kp.refl _) (r Hs)
theorem je_int {i j} : JE X G a W (.Constant (.int i) j pos) (fC (.int i)) := je_of pe_int fun _ => by rw [Rp]
theorem je_bl {b j} : JE X G a W (.Constant (.bool b) j pos) (fC (.bl b)) := je_of pe_bl fun _ => by rw [Rp]
theorem je_non {j} : JE X G a W (.Constant .none j pos) (fC .non) := je_of pe_non fun _ => by rw [Rp]
theorem je_str {x j} : JE X G a W (.Constant (.str x) j pos) (fC (.str x)) := je_of pe_str fun _ => by rw [Rp]
theorem Sta.slot {ρ : En} {ts : Tm} {σ : L2.St} {Hs H : Hp} (S : Sta G a ρ ts σ Hs H) {i : Nat} {d : D} (h : ρ[i]? = some (some (.stb d))) : ∃ v, σ[i]? = some (some v) ∧ Rp G Hs d v := by
  obtain ⟨g1, g2, h1, _⟩ := S.own
  obtain ⟨x, y, p, fo, q, e1, e2, _, h3, _⟩ := slo_at i h1 (List.getElem?_eq_some_iff.mp h).1
  rw [h] at e1
  cases e1
  obtain ⟨v, e, ow⟩ := h3
  rw [Own] at ow
  exact ⟨v, by rw [e2, e], ow.2⟩
theorem je_var (i : Nat) {x : Str} (hN : X.N[i]? = some x := by rfl) (hv : Vis X.env.scope x := by first | exact Or.inl rfl | exact Or.inr (Or.inl rfl) | exact Or.inr (Or.inr rfl)) (hd : (x == ("__debug__" : Str)) = false := by decide)
    (hcd : (x == ("__classdict__" : Str)) = false := by decide) : JE X G a W (.Name x pos) (fVar i) := by
  refine (pe_var hN hv hd hcd).imp fun σ H Q ⟨ρ, ts, Hs, S, k⟩ => ?_
  cases e : ρ[i]? with
  | none => unfold fVar at k; rw [e] at k; exact False.elim k
  | some o =>
    cases o with
    | none => unfold fVar at k; rw [e] at k; exact False.elim k
    | some o =>
      cases o with
      | stb d =>
        unfold fVar at k
        rw [e] at k
        obtain ⟨v, h1, h2⟩ := S.slot e
        exact ⟨v, h1, k v Hs H S (Same.refl _) (Kp.refl _) h2⟩
      | _ => unfold fVar at k; rw [e] at k; exact False.elim k
/-! arguments, displays -/
theorem ja_nil : JA X G a W [] fNil := pa_nil.imp fun σ H Q ⟨ρ, ts, Hs, S, k⟩ => k [] Hs H S (Same.refl _) (Kp.refl _) (by rw [RpL])
theorem ja_cons (h1 : JE X G a W e f) (h2 : JA X G a W es fa) (hs : starEach (e :: es) X.env = (false, eval e X.env) :: starEach es X.env := by rfl) : JA X G a W (e :: es) (fCons f fa) := by
  refine (pa_cons h1 h2 hs).imp fun σ H Q ⟨ρ, ts, Hs, S, k⟩ => ⟨ρ, ts, Hs, S, (Po.bind (R := Rp G) k).mono ?_⟩
  rintro x H1 ⟨d1, ρ1, Hs1, S1, s1, s2, r1, k1⟩
  refine ⟨ρ1, ts, Hs1, S1, (Po.bind (R := RpL G) k1).mono ?_⟩
  rintro y H2 ⟨d2, ρ2, Hs2, S2, s3, s4, r2, k2⟩
  exact k2 _ Hs2 H2 S2 (Same.refl _) (Kp.refl _) (by rw [RpL]; exact ⟨x, y, rfl, rp_mono s3 _ _ r1, r2⟩)
theorem je_tup {x1} (h : JA X G a W es fa) : JE X G a W (.Tuple es x1 pos) (fCall gTupD fa) := by
  refine (pe_tup h).imp fun σ H Q ⟨ρ, ts, Hs, S, k⟩ => ⟨ρ, ts, Hs, S, (Po.bind (R := RpL G) k).mono ?_⟩
  rintro x H1 ⟨ds, ρ1, Hs1, S1, s1, s2, r1, k1⟩
  by_cases hl : ds.length ≤ LIM
  · have eg : gTupD ds = some (.tup ds) := if_pos hl
    rw [eg] at k1
    refine ⟨by rw [← rpl_length r1, ← lim_eq]; exact hl, fun p hp => ?_⟩
    have s : Same Hs1 (upd Hs1 p (.tup x)) := Same.new (S1.sub.free hp)
    exact po_give S1 k1 rfl (Gr.mk hp) (by rw [Rp]; exact ⟨p, x, rfl, SqT.of upd_same, rpl_mono s _ _ r1⟩)
  · have eg : gTupD ds = none := if_neg hl
    rw [eg] at k1
    exact False.elim k1
theorem je_lst (h : JA X G a W es fa) : JE X G a W (.List es pos) (fCall gLstD fa) := by
  refine (pe_lst h).imp fun σ H Q ⟨ρ, ts, Hs, S, k⟩ => ⟨ρ, ts, Hs, S, (Po.bind (R := RpL G) k).mono ?_⟩
  rintro x H1 ⟨ds, ρ1, Hs1, S1, s1, s2, r1, k1⟩
  by_cases hl : ds.length ≤ LIM
  · have eg : gLstD ds = some (.lst ds) := if_pos hl
    rw [eg] at k1
    refine ⟨by rw [← rpl_length r1, ← lim_eq]; exact hl, fun p hp => ?_⟩
    have s : Same Hs1 (upd Hs1 p (.lst x)) := Same.new (S1.sub.free hp)
    exact po_give S1 k1 rfl (Gr.mk hp) (by rw [Rp]; exact ⟨p, x, rfl, upd_same, rpl_mono s _ _ r1⟩)
  · have eg : gLstD ds = none := if_neg hl
    rw [eg] at k1
    exact False.elim k1
/-! built-ins by their names -/
theorem je_callB {x : Str} {p : Pos} {id : String} {r : List V → Hp → VK → Prop} {g : List D → Option D} (hc : CallR X (.builtin id) r) (hr : CaD G r g) (hg : Gl X x) (hm : X.mg x = none) (hv : bootBuiltins x = some (.builtin id)) (h : JA X G a W (e :: es) fa) (hn : x ≠ "__name__" := by decide)
    (hdb : (x == ("__debug__" : Str)) = false := by decide) (he : starEach (e :: es) X.env = (false, eval e X.env) :: starEach es X.env := by rfl) (hpl : (backTo pos (starEach es X.env)).any (·.1) = false := by rfl) :
    JE X G a W (.Call (.Name x p) (e :: es) [] pos) (fCall g fa) := by
  refine (pe_callB hc hg hm hv h hn hdb he hpl).imp fun σ H Q ⟨ρ, ts, Hs, S, k⟩ => ⟨ρ, ts, Hs, S, (Po.bind (R := RpL G) k).mono ?_⟩
  rintro x H1 ⟨ds, ρ1, Hs1, S1, s1, s2, r1, k1⟩
  cases hg : g ds with
  | none => rw [hg] at k1; exact False.elim k1
  | some d =>
    rw [hg] at k1
    exact hr Hs1 H1 ds d x Q S1.sub r1 hg fun v Hs' H' g r => po_give S1 k1 rfl g r
theorem je_callTy {x : Str} {p : Pos} {T : String} {r : List V → Hp → VK → Prop} {g : List D → Option D} (hc : CallR X (.type T) r) (hr : CaD G r g) (hg : Gl X x) (hm : X.mg x = none) (hv : bootBuiltins x = some (.type T)) (h : JA X G a W (e :: es) fa) (hn : x ≠ "__name__" := by decide)
    (hdb : (x == ("__debug__" : Str)) = false := by decide) (he : starEach (e :: es) X.env = (false, eval e X.env) :: starEach es X.env := by rfl) (hpl : (backTo pos (starEach es X.env)).any (·.1) = false := by rfl) :
    JE X G a W (.Call (.Name x p) (e :: es) [] pos) (fCall g fa) := by
  refine (pe_callTy hc hg hm hv h hn hdb he hpl).imp fun σ H Q ⟨ρ, ts, Hs, S, k⟩ => ⟨ρ, ts, Hs, S, (Po.bind (R := RpL G) k).mono ?_⟩
  rintro x H1 ⟨ds, ρ1, Hs1, S1, s1, s2, r1, k1⟩
  cases hg : g ds with
  | none => rw [hg] at k1; exact False.elim k1
  | some d =>
    rw [hg] at k1
    exact hr Hs1 H1 ds d x Q S1.sub r1 hg fun v Hs' H' g r => po_give S1 k1 rfl g r
end
end Lf

namespace Lf
open PySem L2

/-! targets -/
def PoT (G : Glob) (a : Act) (ws : List Nat) (ts : Tm) (σ : L2.St) (Hs H : Hp) (Q : L2.St → Hp → Prop) : Option En → Prop
  | some ρ' => ∀ σ' Hs' H', Sta G a ρ' ts σ' Hs' H' → Same Hs Hs' → Kp H H' → wipe σ' ws = wipe σ ws → Q σ' H'
  | none => False
def tT (G : Glob) (a : Act) (ws : List Nat) (gt : D → En → Option En) : TG := fun v σ H Q => ∃ ρ ts Hs d, Sta G a ρ ts σ Hs H ∧ Rp G Hs d v ∧ PoT G a ws ts σ Hs H Q (gt d ρ)
def tTs (G : Glob) (a : Act) (ws : List Nat) (gt : List D → En → Option En) : TGs := fun vs σ H Q => ∃ ρ ts Hs ds, Sta G a ρ ts σ Hs H ∧ RpL G Hs ds vs ∧ PoT G a ws ts σ Hs H Q (gt ds ρ)
abbrev JG (X : Cx) (G : Glob) (a : Act) (ws : List Nat) (tg : Expr) (gt : D → En → Option En) : Prop := PG X tg (tT G a ws gt)
abbrev JGs (X : Cx) (G : Glob) (a : Act) (ws : List Nat) (tg : List Expr) (gt : List D → En → Option En) : Prop := PGs X tg (tTs G a ws gt)
theorem wipe_get {σ : L2.St} : ∀ {ws : List Nat} {j : Nat}, (wipe σ ws)[j]? = if j ∈ ws ∧ j < σ.length then some none else σ[j]?
  | [], j => by simp [wipe]
  | v :: ws, j => by
    unfold wipe
    rw [List.getElem?_set, wipe_length, wipe_get]
    by_cases h : v = j
    · subst h
      by_cases h2 : v < σ.length
      · simp [h2]
      · simp [h2]
    · rw [if_neg h]
      have e : (j ∈ v :: ws ∧ j < σ.length) ↔ (j ∈ ws ∧ j < σ.length) := by
        constructor
        · rintro ⟨h1, h2⟩
          exact ⟨(List.mem_cons.mp h1).resolve_left (fun z => h z.symm), h2⟩
        · rintro ⟨h1, h2⟩
          exact ⟨List.mem_cons_of_mem _ h1, h2⟩
      simp only [e]
theorem wipe_len {σ σ' : L2.St} {ws : List Nat} (h : wipe σ' ws = wipe σ ws) : σ'.length = σ.length := by
  have := congrArg List.length h
  rwa [wipe_length, wipe_length] at this
theorem wipe_iff {σ σ' : L2.St} {ws : List Nat} : wipe σ' ws = wipe σ ws ↔ σ'.length = σ.length ∧ ∀ j, j ∉ ws → σ'[j]? = σ[j]? := by
  constructor
  · intro h
    refine ⟨wipe_len h, fun j hj => ?_⟩
    have e := congrArg (fun l : L2.St => l[j]?) h
    simp only [wipe_get, hj, false_and, if_false] at e
    exact e
  · rintro ⟨hl, h⟩
    refine List.ext_getElem? fun j => ?_
    rw [wipe_get, wipe_get, hl]
    by_cases hj : j ∈ ws ∧ j < σ.length
    · rw [if_pos hj, if_pos hj]
    · rw [if_neg hj, if_neg hj]
      by_cases hm : j ∈ ws
      · have : ¬ j < σ.length := fun z => hj ⟨hm, z⟩
        rw [List.getElem?_eq_none (by omega), List.getElem?_eq_none (by omega)]
      · exact h j hm
def gN (i : Nat) : D → En → Option En := fun d ρ => some (ρ.set i (some (.stb d)))
def gTn (gt : List D → En → Option En) (n : Nat) : D → En → Option En := fun d ρ => match d with
  | .tup ds => if ds.length = n then gt ds ρ else none
  | _ => none
def gNl : List D → En → Option En := fun ds ρ => match ds with
  | [] => some ρ
  | _ => none
def gCn (gt : D → En → Option En) (gs : List D → En → Option En) : List D → En → Option En := fun ds ρ => match ds with
  | d :: r => (gt d ρ).bind (gs r)
  | [] => none

def fSeq (f g : En → Ro) : En → Ro := fun ρ => match f ρ with
  | .nxt ρ' => g ρ'
  | r => r
def fNxt : En → Ro := fun ρ => .nxt ρ
def fSet (i : Nat) (f : En → Rs D) : En → Ro := fun ρ => (f ρ).bindS fun d ρ1 => .nxt (ρ1.set i (some (.stb d)))
def fSetO (i : Nat) (f : En → Rs O) : En → Ro := fun ρ => (f ρ).bindS fun o ρ1 => .nxt (ρ1.set i (some o))
def fAsg (gt : D → En → Option En) (f : En → Rs D) : En → Ro := fun ρ => (f ρ).bindS fun d ρ1 => match gt d ρ1 with
  | some ρ2 => .nxt ρ2
  | none => .bad
def fRet (f : En → Rs D) : En → Ro := fun ρ => (f ρ).bindS fun d ρ1 => .ret (.stb d) ρ1
def fRetO (f : En → Rs O) : En → Ro := fun ρ => (f ρ).bindS fun o ρ1 => .ret o ρ1
def fRetN : En → Ro := fun ρ => .ret (.stb .non) ρ
def fDrop (f : En → Rs D) : En → Ro := fun ρ => (f ρ).bindS fun _ ρ1 => .nxt ρ1
def fIf (c : En → Rs Bool) (f g : En → Ro) : En → Ro := fun ρ => (c ρ).bindS fun b ρ1 => if b = true then f ρ1 else g ρ1
def fBrk : En → Ro := fun ρ => .brk ρ
def fCtn : En → Ro := fun ρ => .ctn ρ
def fFr (f : En → Rs O) : En → Rs D := fun ρ => (f ρ).bind fun o ρ1 => .ok (fr o) ρ1
def fSt (f : En → Rs D) : En → Rs O := fun ρ => (f ρ).bind fun d ρ1 => .ok (.stb d) ρ1
def forL (gt : D → En → Option En) (body : En → Ro) : List D → En → Ro
  | [], ρ => .nxt ρ
  | d :: ds, ρ => match gt d ρ with
    | none => .bad
    | some ρ1 => match body ρ1 with
      | .nxt ρ2 => forL gt body ds ρ2
      | .ctn ρ2 => forL gt body ds ρ2
      | .brk ρ2 => .nxt ρ2
      | r => r
def fFor (gt : D → En → Option En) (f : En → Rs (List D)) (body : En → Ro) : En → Ro := fun ρ => (f ρ).bindS fun ds ρ1 => forL gt body ds ρ1
def whileN (c : En → Rs Bool) (body : En → Ro) : Nat → En → Option Ro
  | 0, _ => none
  | n + 1, ρ => match c ρ with
    | .ok true ρ1 => (match body ρ1 with
      | .nxt ρ2 => whileN c body n ρ2
      | .ctn ρ2 => whileN c body n ρ2
      | .brk ρ2 => some (.nxt ρ2)
      | r => some r)
    | .ok false ρ1 => some (.nxt ρ1)
    | .exc e ρ1 => some (.exc e ρ1)
    | .bad => some .bad
open Classical in
noncomputable def fWhile (c : En → Rs Bool) (body : En → Ro) : En → Ro := fun ρ =>
  if h : ∃ r n, whileN c body n ρ = some r then h.choose else .bad
theorem whileN_mono {c : En → Rs Bool} {body : En → Ro} : ∀ {n : Nat} {ρ : En} {r : Ro}, whileN c body n ρ = some r → ∀ m, whileN c body (n + m) ρ = some r
  | 0, ρ, r, h, m => by cases h
  | n + 1, ρ, r, h, m => by
    have e : n + 1 + m = (n + m) + 1 := by omega
    rw [e]
    unfold whileN at h ⊢
    cases hc : c ρ with
    | bad => simp only [hc] at h ⊢; exact h
    | exc ex ρ1 => simp only [hc] at h ⊢; exact h
    | ok b ρ1 =>
      cases b with
      | false => simp only [hc] at h ⊢; exact h
      | true =>
        simp only [hc] at h ⊢
        cases hb : body ρ1 with
        | nxt ρ2 => simp only [hb] at h ⊢; exact whileN_mono h m
        | ctn ρ2 => simp only [hb] at h ⊢; exact whileN_mono h m
        | _ => simp only [hb] at h ⊢; exact h
theorem fWhile_of {c : En → Rs Bool} {body : En → Ro} {n : Nat} {ρ : En} {r : Ro} (h : whileN c body n ρ = some r) : fWhile c body ρ = r := by
  have hx : ∃ r n, whileN c body n ρ = some r := ⟨r, n, h⟩
  unfold fWhile
  rw [dif_pos hx]
  obtain ⟨m, hm⟩ := hx.choose_spec
  have h1 := whileN_mono h m
  have h2 := whileN_mono hm n
  rw [Nat.add_comm] at h2
  rw [h1] at h2
  exact (Option.some.inj h2).symm
theorem fWhile_fuel {c : En → Rs Bool} {body : En → Ro} {ρ : En} : fWhile c body ρ = .bad ∨ ∃ n, whileN c body n ρ = some (fWhile c body ρ) := by
  by_cases hx : ∃ r n, whileN c body n ρ = some r
  · obtain ⟨r, n, h⟩ := hx
    exact .inr ⟨n, by rw [fWhile_of h]; exact h⟩
  · left
    unfold fWhile
    rw [dif_neg hx]

def ItR (G : Glob) (Hs0 : Hp) (ds : List D) (J : It) : Prop := ∀ (Hs H : Hp) (i : Nat), Same Hs0 Hs → Same Hs H →
  (i = ds.length → J.stop i H) ∧ (∀ d, ds[i]? = some d → J.go i H ∧ ∀ x H', J.yld i H x H' → ∃ Hs', Gr Hs H Hs' H' ∧ Rp G Hs' d x)
abbrev JI (X : Cx) (G : Glob) (a : Act) (W : WX) (tg iter : Expr) (f : En → Rs (List D)) : Prop := PI X tg iter (tG (ItR G) G a W f)

section
variable {G : Glob} {a : Act} {W : WX} {ts : Tm} {σ : L2.St} {Hs H : Hp} {ρ : En}
theorem take_set {α : Type} {l : List α} {n i : Nat} {x : α} (h : n ≤ i) : (l.set i x).take n = l.take n := by
  rw [List.take_set_of_le h]
theorem Sta.set (S : Sta G a ρ ts σ Hs H) {i : Nat} {d : D} {v : V} (h : Rp G Hs d v) (hp : a.pv.length ≤ i) : Sta G a (ρ.set i (some (.stb d))) ts (σ.set i (some v)) Hs H := by
  obtain ⟨f1, f2, h1, h2, nd, hf⟩ := S.own
  by_cases hi : i < ρ.length
  · obtain ⟨x, y, p, fo, q, e1, e2, e3, h3, h4⟩ := slo_at i h1 hi
    subst e3
    refine ⟨S.sub, S.base, S.tabs, S.stab, S.frsh, by rw [take_set hp]; exact S.pin, p ++ ([] ++ q), f2, h4 H Hs (some (.stb d)) (some v) [] (Same.refl _) (fun _ _ => rfl) ⟨v, rfl, by rw [Own]; exact ⟨rfl, h⟩⟩, h2, ?_, fun b hb => hf b ?_⟩
    · grind
    · grind
  · rw [List.set_eq_of_length_le (by omega), List.set_eq_of_length_le (by rw [← slo_length h1]; omega)]
    exact S
/-- what is owned goes from the hand into a slot -/
theorem Sta.setO {o : O} {v : V} (S : Sta G a ρ ((o, v) :: ts) σ Hs H) {i : Nat} (hp : a.pv.length ≤ i) : Sta G a (ρ.set i (some o)) ts (σ.set i (some v)) Hs H := by
  obtain ⟨f1, f2, h1, h2, nd, hf⟩ := S.own
  by_cases hi : i < ρ.length
  · obtain ⟨x, y, p, fo, q, e1, e2, e3, h3, h4⟩ := slo_at i h1 hi
    obtain ⟨g1, g2, eg, og, tg⟩ := h2
    subst e3 eg
    refine ⟨S.sub, S.base, S.tabs, S.stab, S.frsh, by rw [take_set hp]; exact S.pin, p ++ (g1 ++ q), g2, h4 H Hs (some o) (some v) g1 (Same.refl _) (fun _ _ => rfl) ⟨v, rfl, og⟩, tg, ?_, fun b hb => hf b ?_⟩
    · grind
    · grind
  · rw [List.set_eq_of_length_le (by omega), List.set_eq_of_length_le (by rw [← slo_length h1]; omega)]
    exact S.drop
open Classical in
/-- what is owned in the hand is let stand for good -/
theorem Sta.fr {o : O} {v : V} (S : Sta G a ρ ((o, v) :: ts) σ Hs H) : ∃ Hs', Same Hs Hs' ∧ Sta G a ρ ts σ Hs' H ∧ Rp G Hs' (fr o) v := by
  obtain ⟨f1, f2, h1, h2, nd, hf⟩ := S.own
  obtain ⟨g1, g2, eg, og, tg⟩ := h2
  subst eg
  have s1 : Same Hs (fun b => if b ∈ g1 then H b else Hs b) := fun b u e => by
    show (if b ∈ g1 then H b else Hs b) = some u
    rw [if_neg (fun hb => by rw [(hf b (by simp [hb])).1] at e; cases e)]
    exact e
  have s2 : Same (fun b => if b ∈ g1 then H b else Hs b) H := fun b u e => by
    have e' : (if b ∈ g1 then H b else Hs b) = some u := e
    split at e'
    · exact e'
    · exact S.sub b u e'
  refine ⟨_, s1, S.go hf s1 s2 (.of fun b u e _ => e) ⟨S.tabs.1, fun b ps e => by
    have e' : (if b ∈ g1 then H b else Hs b) = some (.tbl ps) := e
    split at e'
    · exact noT_own (own_there _ _ _ og b ‹_›) e'
    · exact S.tabs.2 b ps e'⟩ (fun b u e e0 => ?_) S.pin f1 g2 (slo_frame s1 (fun _ _ => rfl) h1) (tmo_frame s1 (fun _ _ => rfl) tg) (by grind) fun b hb => ⟨?_, .inr (by grind)⟩, own_fr s1 o v g1 (fun b hb => if_pos hb) og⟩
  · have e' : (if b ∈ g1 then H b else Hs b) = some u := e
    split at e'
    · exact .inr (by grind)
    · rw [e0] at e'; cases e'
  · show (if b ∈ g1 then H b else Hs b) = none
    rw [if_neg (by grind)]
    exact (hf b (by grind)).1
end

section
variable {X : Cx} {G : Glob} {a : Act} {W : WX} {e e1 e2 tg : Expr} {f f1 f2 : En → Rs D} {fo : En → Rs O} {b1 b2 : En → Rs Bool} {s1 s2 : En → Ro} {pos : Pos} {es : List Expr} {st : Stmt} {sts sts2 : List Stmt}
  {gt : D → En → Option En} {gts : List D → En → Option En} {ws ws2 : List Nat} {fl : En → Rs (List D)}
theorem je_fr (h : JO X G a W e fo) : JE X G a W e (fFr fo) := by
  refine h.imp fun σ H Q ⟨ρ, ts, Hs, S, k⟩ => ⟨ρ, ts, Hs, S, ?_⟩
  unfold fFr at k
  cases hx : fo ρ with
  | ok o ρ1 =>
    rw [hx] at k
    intro v Hs1 H1 S1 t1 t2
    obtain ⟨Hs2, t3, S2, r⟩ := S1.fr
    exact k v Hs2 H1 S2 (t1.trans t3) t2 r
  | exc ex ρ1 => rw [hx] at k; exact k
  | bad => rw [hx] at k; exact k
theorem jo_st (h : JE X G a W e f) : JO X G a W e (fSt f) := by
  refine h.imp fun σ H Q ⟨ρ, ts, Hs, S, k⟩ => ⟨ρ, ts, Hs, S, ?_⟩
  unfold fSt at k
  cases hx : f ρ with
  | ok d ρ1 =>
    rw [hx] at k
    exact fun v Hs1 H1 S1 t1 t2 r => k v Hs1 H1 (S1.push r) t1 t2
  | exc ex ρ1 => rw [hx] at k; exact k
  | bad => rw [hx] at k; exact k
/-! targets -/
theorem jg_name (i : Nat) {x : Str} (hN : X.N.Nodup) (hp : a.pv.length ≤ i) (hi : X.N[i]? = some x := by rfl) (hx : Loc X.env.scope x := by first | exact .inl rfl | exact .inr rfl) (hf : X.fn x = true ∨ X.env.scope.names.lookup x = some .local := by first | exact .inl rfl | exact .inr rfl) :
    JG X G a [i] (.Name x pos) (gN i) := by
  refine ⟨fun pins s σ H v u Q I r ⟨ρ, ts, Hs, d, S, rd, k⟩ => (pg_name hN hi hx hf).run pins s σ H v u Q I r ?_⟩
  exact k _ Hs H (S.set rd hp) (Same.refl _) (Kp.refl _) (wipe_iff.mpr ⟨by simp, fun j hj => List.getElem?_set_ne (fun z => hj (by simp [z]))⟩)
theorem jgs_nil : JGs X G a [] [] gNl := by
  refine ⟨fun pins s σ H vs us Q I r ⟨ρ, ts, Hs, ds, S, rd, k⟩ => pgs_nil.run pins s σ H vs us Q I r ?_⟩
  cases ds with
  | nil =>
    rw [RpL] at rd
    exact ⟨rd, k σ Hs H S (Same.refl _) (Kp.refl _) rfl⟩
  | cons d r => exact False.elim k
theorem jgs_cons (h1 : JG X G a ws e gt) (h2 : JGs X G a ws2 es gts) (hs : (assignEach (e :: es) X.env).map (·.2) = assign e X.env :: (assignEach es X.env).map (·.2) := by rfl) : JGs X G a (ws ++ ws2) (e :: es) (gCn gt gts) := by
  refine ⟨fun pins s σ H vs us Q I r ⟨ρ, ts, Hs, ds, S, rd, k⟩ => (pgs_cons h1 h2 hs).run pins s σ H vs us Q I r ?_⟩
  cases ds with
  | nil => exact False.elim k
  | cons d rest =>
    rw [RpL] at rd
    obtain ⟨v, vr, ev, r1, r2⟩ := rd
    refine ⟨v, vr, ev, ρ, ts, Hs, d, S, r1, ?_⟩
    have k' : PoT G a (ws ++ ws2) ts σ Hs H Q ((gt d ρ).bind (gts rest)) := k
    cases hg : gt d ρ with
    | none => rw [hg] at k'; exact False.elim k'
    | some ρ1 =>
      rw [hg] at k'
      intro σ1 Hs1 H1 S1 t1 u1 w1
      refine ⟨ρ1, ts, Hs1, rest, S1, rpl_mono t1 _ _ r2, ?_⟩
      have k2 : PoT G a (ws ++ ws2) ts σ Hs H Q (gts rest ρ1) := k'
      cases hk : gts rest ρ1 with
      | none => rw [hk] at k2; exact False.elim k2
      | some ρ2 =>
        rw [hk] at k2
        intro σ2 Hs2 H2 S2 t2 u2 w2
        refine k2 σ2 Hs2 H2 S2 (t1.trans t2) (u1.trans u2) ?_
        rw [wipe_iff] at w1 w2 ⊢
        refine ⟨w2.1.trans w1.1, fun j hj => ?_⟩
        rw [List.mem_append, not_or] at hj
        exact (w2.2 j hj.2).trans (w1.2 j hj.1)
theorem jg_tup {n k : Nat} (g : X.K = G.K) (hc : X.calm = true) (h : JGs X G a ws es gts) (hn : (assignEach es X.env).length = n := by rfl) (hst : (assignEach es X.env).findIdx? (·.1) = none := by rfl) : JG X G a ws (.Tuple es k pos) (gTn gts n) := by
  refine ⟨fun pins s σ H v u Q I r ⟨ρ, ts, Hs, d, S, rd, kk⟩ => (pg_tup hc h hn hst).run pins s σ H v u Q I r ?_⟩
  cases d with
  | tup ds =>
    rw [Rp] at rd
    obtain ⟨p, vs, ev, sq, rl⟩ := rd
    by_cases hl : ds.length = n
    · refine ⟨p, vs, ev, by rw [g]; exact Same.tup S.sub sq, by rw [← rpl_length rl]; exact hl, ρ, ts, Hs, ds, S, rl, ?_⟩
      have e : gTn gts n (.tup ds) ρ = gts ds ρ := if_pos hl
      rw [e] at kk
      exact kk
    · have e : gTn gts n (.tup ds) ρ = none := if_neg hl
      rw [e] at kk
      exact False.elim kk
  | _ => exact False.elim kk
/-! statements -/
theorem jb_nil : JB X G a W [] fNxt := pss_nil.imp fun D σ H ⟨ρ, ts, Hs, S, k⟩ => k σ Hs H S (Same.refl _)
theorem jb_cons (h1 : JS X G a W st s1) (h2 : JB X G a W sts s2) : JB X G a W (st :: sts) (fSeq s1 s2) := by
  refine (pss_cons h1 h2).imp fun D σ H ⟨ρ, ts, Hs, S, k⟩ => ⟨ρ, ts, Hs, S, ?_⟩
  unfold fSeq at k
  cases hx : s1 ρ with
  | nxt ρ1 =>
    rw [hx] at k
    exact fun σ1 Hs1 H1 S1 t1 => ⟨ρ1, ts, Hs1, S1, PoS.later k t1⟩
  | _ => rw [hx] at k; exact k
theorem jb_one (h1 : JS X G a W st s1) : JB X G a W [st] s1 := pss_one h1
theorem js_pass : JS X G a W (.Pass pos) fNxt := ps_pass.imp fun D σ H ⟨ρ, ts, Hs, S, k⟩ => k σ Hs H S (Same.refl _)
theorem js_brk : JS X G a W (.Break pos) fBrk := ps_break.imp fun D σ H ⟨ρ, ts, Hs, S, k⟩ => k σ Hs H S (Same.refl _)
theorem js_ctn : JS X G a W (.Continue pos) fCtn := ps_continue.imp fun D σ H ⟨ρ, ts, Hs, S, k⟩ => k σ Hs H S (Same.refl _)
theorem js_set (i : Nat) {x : Str} {pos' : Pos} (hN : X.N.Nodup) (hp : a.pv.length ≤ i) (he : JE X G a W e f) (hi : X.N[i]? = some x := by rfl) (hx : Loc X.env.scope x := by first | exact .inl rfl | exact .inr rfl) (hs : swapsWith e (some (.Name x pos')) pos.line X.env = pure false := by rfl)
    (hf : X.fn x = true ∨ X.env.scope.names.lookup x = some .local := by first | exact .inl rfl | exact .inr rfl) : JS X G a W (.Assign [.Name x pos'] e pos) (fSet i f) := by
  refine (ps_set hN hi hx he hs hf).imp fun D σ H ⟨ρ, ts, Hs, S, k⟩ => ⟨ρ, ts, Hs, S, (Po.bindS (R := Rp G) k).mono ?_⟩
  rintro v H1 ⟨d, ρ1, Hs1, S1, t1, t2, r1, k1⟩
  exact k1 _ Hs1 H1 (S1.set r1 hp) (Same.refl _)
theorem js_setO (i : Nat) {x : Str} {pos' : Pos} (hN : X.N.Nodup) (hp : a.pv.length ≤ i) (he : JO X G a W e fo) (hi : X.N[i]? = some x := by rfl) (hx : Loc X.env.scope x := by first | exact .inl rfl | exact .inr rfl) (hs : swapsWith e (some (.Name x pos')) pos.line X.env = pure false := by rfl)
    (hf : X.fn x = true ∨ X.env.scope.names.lookup x = some .local := by first | exact .inl rfl | exact .inr rfl) : JS X G a W (.Assign [.Name x pos'] e pos) (fSetO i fo) := by
  refine (ps_set hN hi hx he hs hf).imp fun D σ H ⟨ρ, ts, Hs, S, k⟩ => ⟨ρ, ts, Hs, S, ?_⟩
  unfold fSetO at k
  cases hx : fo ρ with
  | ok o ρ1 =>
    rw [hx] at k
    exact fun v Hs1 H1 S1 t1 t2 => k _ Hs1 H1 (S1.setO hp) t1
  | exc ex ρ1 =>
    rw [hx] at k
    exact fun c d Hs1 H1 S1 r1 => k c d σ Hs1 H1 S1 r1
  | bad => rw [hx] at k; exact k
theorem js_asg (he : JE X G a W e f) (hg : JG X G a ws tg gt) (hs : swapsWithSole [tg] e pos.line X.env = pure false := by rfl) (hw : swappedStores [tg] e X.env = pure none := by rfl) (h1 : (assignEach [tg] X.env).map (·.2) = [assign tg X.env] := by rfl) : JS X G a W (.Assign [tg] e pos) (fAsg gt f) := by
  refine (ps_asg he hg hs hw h1).imp fun D σ H ⟨ρ, ts, Hs, S, k⟩ => ⟨ρ, ts, Hs, S, (Po.bindS (R := Rp G) k).mono ?_⟩
  rintro v H1 ⟨d, ρ1, Hs1, S1, t1, t2, r1, k1⟩
  refine ⟨ρ1, ts, Hs1, d, S1, r1, ?_⟩
  cases hx : gt d ρ1 with
  | none => simp only [hx] at k1; exact False.elim k1
  | some ρ2 => simp only [hx] at k1; exact fun σ' Hs' H' S' t' _ _ => k1 σ' Hs' H' S' t'
theorem js_ret (he : JE X G a W e f) : JS X G a W (.Return (some e) pos) (fRet f) := by
  refine (ps_ret he).imp fun D σ H ⟨ρ, ts, Hs, S, k⟩ => ⟨ρ, ts, Hs, S, (Po.bindS (R := Rp G) k).mono ?_⟩
  rintro v H1 ⟨d, ρ1, Hs1, S1, t1, t2, r1, k1⟩
  exact k1 v σ Hs1 H1 (S1.push r1) (Same.refl _)
theorem js_retO (he : JO X G a W e fo) : JS X G a W (.Return (some e) pos) (fRetO fo) := by
  refine (ps_ret he).imp fun D σ H ⟨ρ, ts, Hs, S, k⟩ => ⟨ρ, ts, Hs, S, ?_⟩
  unfold fRetO at k
  cases hx : fo ρ with
  | ok o ρ1 =>
    rw [hx] at k
    exact fun v Hs1 H1 S1 t1 t2 => k v σ Hs1 H1 S1 t1
  | exc ex ρ1 =>
    rw [hx] at k
    exact fun c d Hs1 H1 S1 r1 => k c d σ Hs1 H1 S1 r1
  | bad => rw [hx] at k; exact k
theorem js_retN : JS X G a W (.Return none pos) fRetN := ps_retN.imp fun D σ H ⟨ρ, ts, Hs, S, k⟩ => k .non σ Hs H (S.push (by rw [Rp])) (Same.refl _)
theorem js_expr (he : JE X G a W e f) (hs : swapsWith e none pos.line X.env = pure false := by rfl) : JS X G a W (.Expr e pos) (fDrop f) := by
  refine (ps_expr he hs).imp fun D σ H ⟨ρ, ts, Hs, S, k⟩ => ⟨ρ, ts, Hs, S, (Po.bindS (R := Rp G) k).mono ?_⟩
  rintro v H1 ⟨d, ρ1, Hs1, S1, t1, t2, r1, k1⟩
  exact k1 σ Hs1 H1 S1 (Same.refl _)
theorem js_if {c : Expr} (hc : JT X G a W c b1) (h1 : JB X G a W sts s1) (h2 : JB X G a W sts2 s2) : JS X G a W (.If c sts sts2 pos) (fIf b1 s1 s2) := by
  refine (ps_if hc h1 h2).imp fun D σ H ⟨ρ, ts, Hs, S, k⟩ => ⟨ρ, ts, Hs, S, (Po.bindS (R := BB) k).mono ?_⟩
  rintro x H1 ⟨d, ρ1, Hs1, S1, t1, t2, r1, k1⟩
  cases r1
  cases x with
  | true => exact ⟨ρ1, ts, Hs1, S1, k1⟩
  | false => exact ⟨ρ1, ts, Hs1, S1, k1⟩
theorem js_for {iter : Expr} (hp : PassesOwn (model X.prog X.w) X.A X.env X.xe) (hc : X.calm = true) (hi : JI X G a W tg iter fl) (hg : JG X G a ws tg gt) (hb : JB X G a W sts s1) (hs : ∀ x, foldedSetIterable iter X.env x = pure x := by intro _; rfl) :
    JS X G a W (.For tg iter sts [] pos) (fFor gt fl s1) := by
  refine (ps_for hp hc hi hg hb hs).imp fun D σ H ⟨ρ, ts, Hs, S, k⟩ => ⟨ρ, ts, Hs, S, (Po.bindS (R := ItR G) k).mono ?_⟩
  rintro J H1 ⟨ds, ρ1, Hs1, S1, t1, t2, r1, k1⟩
  refine ⟨fun i m σ H => m = ds.length - i ∧ i ≤ ds.length ∧ ∃ ρ Hs2, Sta G a ρ ts σ Hs2 H ∧ Same Hs1 Hs2 ∧ PoS G a W ts Hs2 D (forL gt s1 (ds.drop i) ρ), ⟨ds.length, by simp, Nat.zero_le _, ρ1, Hs1, S1, Same.refl _, k1⟩, ?_⟩
  rintro i m σ2 H2 ⟨rfl, hi, ρ2, Hs2, S2, t3, k2⟩
  by_cases hlt : i < ds.length
  · obtain ⟨go, yl⟩ := (r1 Hs2 H2 i t3 S2.sub).2 ds[i] (by simp [hlt])
    refine .inr ⟨go, fun σ' H' => ∃ ρ Hs3, Sta G a ρ ts σ' Hs3 H' ∧ Same Hs1 Hs3 ∧ PoS G a W ts Hs3 D (forL gt s1 (ds.drop (i + 1)) ρ), fun σ' H' p' => ⟨ds.length - (i + 1), by omega, rfl, hlt, p'⟩, fun x H' y => ?_⟩
    obtain ⟨Hs3, gr, rx⟩ := yl x H' y
    have S3 := gr.sta S2
    have t4 := gr.same1 S2.sub
    rw [List.drop_eq_getElem_cons hlt] at k2
    refine ⟨ρ2, ts, Hs3, ds[i], S3, rx, ?_⟩
    unfold forL at k2
    cases hgt : gt ds[i] ρ2 with
    | none => simp only [hgt] at k2; exact False.elim k2
    | some ρ4 =>
      simp only [hgt] at k2
      intro σ4 Hs4 H4 S4 t5 _ _
      refine ⟨ρ4, ts, Hs4, S4, ?_⟩
      have tt : Same Hs2 Hs4 := t4.trans t5
      cases hbd : s1 ρ4 with
      | nxt ρ5 =>
        simp only [hbd] at k2
        exact fun σ5 Hs5 H5 S5 t6 => ⟨ρ5, Hs5, S5, t3.trans (tt.trans t6), PoS.later k2 (tt.trans t6)⟩
      | ctn ρ5 =>
        simp only [hbd] at k2
        exact fun σ5 Hs5 H5 S5 t6 => ⟨ρ5, Hs5, S5, t3.trans (tt.trans t6), PoS.later k2 (tt.trans t6)⟩
      | brk ρ5 =>
        simp only [hbd] at k2
        exact fun σ5 Hs5 H5 S5 t6 => k2 σ5 Hs5 H5 S5 (tt.trans t6)
      | ret o ρ5 =>
        simp only [hbd] at k2
        exact fun v σ5 Hs5 H5 S5 t6 => k2 v σ5 Hs5 H5 S5 (tt.trans t6)
      | exc ex ρ5 =>
        simp only [hbd] at k2
        exact k2
      | bad =>
        simp only [hbd] at k2
        exact k2
  · have e : i = ds.length := by omega
    subst e
    rw [List.drop_length] at k2
    exact .inl ⟨(r1 Hs2 H2 _ t3 S2.sub).1 rfl, k2 σ2 Hs2 H2 S2 (Same.refl _)⟩
theorem js_while {c : Expr} (hp : PassesOwn (model X.prog X.w) X.A X.env X.xe) (hc : JT X G a W c b1) (hb : JB X G a W sts s1) : JS X G a W (.While c sts [] pos) (fWhile b1 s1) := by
  refine (ps_while hp hc hb).imp fun D σ H ⟨ρ, ts, Hs, S, k⟩ => ?_
  rcases fWhile_fuel (c := b1) (body := s1) (ρ := ρ) with e | ⟨n, hn⟩
  · rw [e] at k; exact False.elim k
  · refine ⟨fun m σ H => ∃ ρ Hs2 r, Sta G a ρ ts σ Hs2 H ∧ Same Hs Hs2 ∧ whileN b1 s1 m ρ = some r ∧ PoS G a W ts Hs2 D r, ⟨n, ρ, Hs, _, S, Same.refl _, hn, k⟩, ?_⟩
    rintro m σ2 H2 ⟨ρ2, Hs2, r, S2, t1, hr, k2⟩
    cases m with
    | zero => cases hr
    | succ m =>
      refine ⟨ρ2, ts, Hs2, S2, ?_⟩
      unfold whileN at hr
      cases hb1 : b1 ρ2 with
      | bad => simp only [hb1] at hr; cases hr; exact False.elim k2
      | exc ex ρ3 => simp only [hb1] at hr; cases hr; exact fun c d Hs3 H3 S3 r3 => k2 c d σ2 Hs3 H3 S3 r3
      | ok x ρ3 =>
        intro y Hs3 H3 S3 t2 t3 r3
        cases r3
        cases x with
        | false =>
          simp only [hb1] at hr
          cases hr
          exact k2 σ2 Hs3 H3 S3 t2
        | true =>
          simp only [hb1] at hr
          rw [if_pos rfl]
          refine ⟨fun σ' H' => ∃ ρ Hs4 r, Sta G a ρ ts σ' Hs4 H' ∧ Same Hs Hs4 ∧ whileN b1 s1 m ρ = some r ∧ PoS G a W ts Hs4 D r, fun σ' H' p => ⟨m, Nat.lt_succ_self _, p⟩, ρ3, ts, Hs3, S3, ?_⟩
          cases hbd : s1 ρ3 with
          | nxt ρ4 =>
            simp only [hbd] at hr
            exact fun σ4 Hs4 H4 S4 t4 => ⟨ρ4, Hs4, r, S4, t1.trans (t2.trans t4), hr, PoS.later k2 (t2.trans t4)⟩
          | ctn ρ4 =>
            simp only [hbd] at hr
            exact fun σ4 Hs4 H4 S4 t4 => ⟨ρ4, Hs4, r, S4, t1.trans (t2.trans t4), hr, PoS.later k2 (t2.trans t4)⟩
          | brk ρ4 =>
            simp only [hbd] at hr
            cases hr
            exact fun σ4 Hs4 H4 S4 t4 => k2 σ4 Hs4 H4 S4 (t2.trans t4)
          | ret o ρ4 =>
            simp only [hbd] at hr
            cases hr
            exact fun v σ4 Hs4 H4 S4 t4 => k2 v σ4 Hs4 H4 S4 (t2.trans t4)
          | exc ex ρ4 =>
            simp only [hbd] at hr
            cases hr
            exact k2
          | bad =>
            simp only [hbd] at hr
            cases hr
            exact k2
end
end Lf

namespace Lf
open PySem L2 PyProof.Rows

inductive Rf where
  | ok (o : O) (outs : List O) | exc (e : Ex) (outs : List O) | bad
def outsOf : Nat → En → Option (List O)
  | 0, _ => some []
  | n + 1, some o :: ρ => (outsOf n ρ).map (o :: ·)
  | _ + 1, _ => none
def toRf (np : Nat) : Ro → Rf
  | .nxt ρ => (match outsOf np ρ with | some os => .ok (.stb .non) os | none => .bad)
  | .ret o ρ => (match outsOf np ρ with | some os => .ok o os | none => .bad)
  | .exc e ρ => (match outsOf np ρ with | some os => .exc e os | none => .bad)
  | _ => .bad
def mkF (np n : Nat) (f : En → Ro) (os : List O) : Rf := toRf np (f (os.map some ++ List.replicate (n - os.length) none))
def PoF (G : Glob) (np : Nat) (vs : List V) (H Hs : Hp) (io : List Addr) (Q : VK) (E : XK) : Rf → Prop
  | .ok o outs => ∀ v Hs' H' f1 f2, Same Hs Hs' → Same Hs' H' → Kpx io H H' → Tbs G.tabs Hs' H' → (∀ b u, Hs' b = some u → Hs b = none → Nt H b ∨ b ∈ io) →
      OwnL G H' Hs' outs (vs.take np) f1 → Own G H' Hs' o v f2 → (f1 ++ f2).Nodup → (∀ b ∈ f1 ++ f2, Hs' b = none ∧ (H b = none ∨ b ∈ io)) → Q v H'
  | .exc e outs => ∀ c d Hs' H' f1, Same Hs Hs' → Same Hs' H' → Kpx io H H' → Tbs G.tabs Hs' H' → (∀ b u, Hs' b = some u → Hs b = none → Nt H b ∨ b ∈ io) →
      OwnL G H' Hs' outs (vs.take np) f1 → f1.Nodup → (∀ b ∈ f1, Hs' b = none ∧ (H b = none ∨ b ∈ io)) → ExR G Hs' e c d → E c d H'
  | .bad => False
/-- a def's promise, by its function on plain values; the first np parameters are changed -/
def SpF (G : Glob) (na np : Nat) (F : List O → Rf) : Sp := fun vs H Q E => ∃ Hs io os, os.length = na ∧ Same Hs H ∧ Tbs G.tabs Hs H ∧ OwnL G H Hs os vs io ∧ io.Nodup ∧ (∀ b ∈ io, Hs b = none) ∧ PoF G np vs H Hs io Q E (F os)

theorem slo_rep {G : Glob} {H Hs : Hp} : ∀ k : Nat, SlO G H Hs (List.replicate k none) (List.replicate k none) []
  | 0 => ⟨rfl, rfl⟩
  | k + 1 => ⟨none, List.replicate k none, [], [], rfl, rfl, rfl, slo_rep k⟩
theorem slo_start {G : Glob} {H Hs : Hp} {k : Nat} : ∀ {os : List O} {vs : List V} {f : List Addr}, OwnL G H Hs os vs f → SlO G H Hs (os.map some ++ List.replicate k none) (vs.map some ++ List.replicate k none) f
  | [], vs, f, h => by
    rw [OwnL] at h
    obtain ⟨rfl, rfl⟩ := h
    exact slo_rep k
  | o :: r, vs, f, h => by
    rw [OwnL] at h
    obtain ⟨v, rest, f1, f2, rfl, rfl, q, t⟩ := h
    exact ⟨some v, _, f1, f2, rfl, rfl, ⟨v, rfl, q⟩, slo_start t⟩
theorem slo_outs {G : Glob} {H Hs : Hp} : ∀ {np : Nat} {ρ : En} {σ : L2.St} {f : List Addr} {outs : List O} {ws : List V}, SlO G H Hs ρ σ f → outsOf np ρ = some outs → σ.take np = ws.map some → ∃ f1 f2, f = f1 ++ f2 ∧ OwnL G H Hs outs ws f1
  | 0, ρ, σ, f, outs, ws, h, e, ew => by
    cases e
    have e2 : ws = [] := by
      rw [List.take_zero] at ew
      exact List.map_eq_nil_iff.mp ew.symm
    subst e2
    exact ⟨[], f, rfl, by rw [OwnL]; exact ⟨rfl, rfl⟩⟩
  | n + 1, [], σ, f, outs, ws, h, e, ew => by cases e
  | n + 1, none :: ρ, σ, f, outs, ws, h, e, ew => by cases e
  | n + 1, some o :: ρ, σ, f, outs, ws, h, e, ew => by
    obtain ⟨s, r, f1, f2, rfl, rfl, ⟨v, rfl, q⟩, t⟩ := h
    rw [List.take_succ_cons] at ew
    cases ws with
    | nil => cases ew
    | cons w0 ws =>
      rw [List.map_cons] at ew
      injection ew with ew1 ew2
      injection ew1 with ew1
      subst ew1
      have e' : (outsOf n ρ).map (o :: ·) = some outs := e
      cases hq : outsOf n ρ with
      | none => rw [hq] at e'; cases e'
      | some os2 =>
        rw [hq] at e'
        cases e'
        obtain ⟨g1, g2, rfl, ow⟩ := slo_outs t hq ew2
        exact ⟨f1 ++ g1, g2, by simp, by rw [OwnL]; exact ⟨v, ws, f1, g1, rfl, rfl, q, ow⟩⟩

/-- THE RULE for a def -/
theorem okXN {K : PySem.W.Frag} {P : Program} {w : World} {mg : Str → Option Value} {base : Heap} {CX : CXT} {x qual : Str} {st : Stmt} {f : Addr} {fd : FuncData} {N ps : List Str} {k : Nat} {sp : Sp} (F : Fun K x qual st f fd) (S : FnScope N ps (defScope st)) (len : ∀ vs H Q E, sp vs H Q E → vs.length = ps.length)
    (hb : ∀ (cdv : Value) (A : Around) (outer : List Env) (s : Shared) (H : Hp) (vs : List V) (Q : VK) (E : XK), Room k (A.deeper (envOfC qual (defScope st) s.heap.objs.size f cdv)) → sp vs H Q E → ∃ t, PSs (cxOf CX P w K mg base N qual (defScope st) f cdv A outer s H E) (defBody st) t ∧ t { nx := fun _ H' => Q .non H', rt := Q } (start N vs) H) : FnOk P w K mg base CX (k + 1) f fd ps sp := by
  obtain ⟨oc, od, kV, dc, pm, an, cv, ct, osl, rfl, lk, hcd⟩ := F.ex; exact fn_of lk hcd S len fun A outer s H vs Q E hr h => hb cv A outer s H vs Q E hr h
/-- a def as it stands, whatever its defaults -/
structure FunX (K : PySem.W.Frag) (x qual : Str) (st : Stmt) (f : Addr) (fd : FuncData) : Prop where
  ex : ∃ (oc : Value) (od : Option Addr) (dV kV dc pm : Value) (an : Option Addr) (cdv ct : Value) (osl : Array (Option Value)),
    fd = PySem.W.fnOf x qual (defArgs st) (defBody st) (defScope st) dV kV dc pm an cdv ct ∧ K.lookup f = some ⟨oc, od, .func fd, osl⟩ ∧ PySem.W.codeIn K cdv qual = true
theorem funx {K : PySem.W.Frag} {x qual : Str} {st : Stmt} {f : Addr} {fd : FuncData} (F : Fun K x qual st f fd) : FunX K x qual st f fd := by
  obtain ⟨oc, od, kV, dc, pm, an, cv, ct, osl, e, lk, hcd⟩ := F.ex
  exact ⟨oc, od, _, kV, dc, pm, an, cv, ct, osl, e, lk, hcd⟩
theorem okXX {K : PySem.W.Frag} {P : Program} {w : World} {mg : Str → Option Value} {base : Heap} {CX : CXT} {x qual : Str} {st : Stmt} {f : Addr} {fd : FuncData} {N ps : List Str} {k : Nat} {sp : Sp} (F : FunX K x qual st f fd) (S : FnScope N ps (defScope st)) (len : ∀ vs H Q E, sp vs H Q E → vs.length = ps.length)
    (hb : ∀ (cdv : Value) (A : Around) (outer : List Env) (s : Shared) (H : Hp) (vs : List V) (Q : VK) (E : XK), Room k (A.deeper (envOfC qual (defScope st) s.heap.objs.size f cdv)) → sp vs H Q E → ∃ t, PSs (cxOf CX P w K mg base N qual (defScope st) f cdv A outer s H E) (defBody st) t ∧ t { nx := fun _ H' => Q .non H', rt := Q } (start N vs) H) : FnOk P w K mg base CX (k + 1) f fd ps sp := by
  obtain ⟨oc, od, dV, kV, dc, pm, an, cv, ct, osl, rfl, lk, hcd⟩ := F.ex
  exact fn_of lk hcd S len fun A outer s H vs Q E hr h => hb cv A outer s H vs Q E hr h
/-- a body, by its function -/
theorem def_end {X : Cx} {G : Glob} {na np : Nat} {N : List Str} {body : List Stmt} {f : En → Ro} {vs : List V} {H : Hp} {Q : VK} {E : XK} (hN : na ≤ N.length) (hnp : np ≤ na) (hb : ∀ a : Act, a.pv.length = np → JB X G a (fun c d _ H => E c d H) body f)
    (h : SpF G na np (mkF np N.length f) vs H Q E) : ∃ t, PSs X body t ∧ t { nx := fun _ H' => Q .non H', rt := Q } (L2.start N vs) H := by
  obtain ⟨Hs, io, os, hl, sub, tb, ow, nd, hio, po⟩ := h
  have lv : vs.length = na := by rw [← hl, ownl_length ow]
  refine ⟨_, hb ⟨H, Hs, io, vs.take np⟩ (by show (vs.take np).length = np; rw [List.length_take]; omega), os.map some ++ List.replicate (N.length - os.length) none, [], Hs, ?_, ?_⟩
  · refine ⟨sub, .of fun b o e _ => e, tb, Same.refl _, fun b u e e0 => ?_, ?_, io, [], ?_, rfl, by rw [List.append_nil]; exact nd, fun b hb => ?_⟩
    · have e0' : Hs b = none := e0
      rw [e0'] at e; cases e
    · show (vs.map some ++ List.replicate (N.length - vs.length) none).take (vs.take np).length = (vs.take np).map some
      rw [List.length_take, Nat.min_eq_left (by omega), List.take_append_of_le_length (by rw [List.length_map]; omega), List.map_take]
    · have e : os.length = vs.length := ownl_length ow
      rw [e]
      exact slo_start ow
    · rw [List.append_nil] at hb
      exact ⟨hio b hb, .inr hb⟩
  · unfold mkF at po
    cases hx : f (os.map some ++ List.replicate (N.length - os.length) none) with
    | bad => rw [hx] at po; exact False.elim po
    | brk ρ' => rw [hx] at po; exact False.elim po
    | ctn ρ' => rw [hx] at po; exact False.elim po
    | nxt ρ' =>
      rw [hx] at po
      cases ho : outsOf np ρ' with
      | none => simp only [toRf, ho] at po; exact False.elim po
      | some outs =>
        simp only [toRf, ho] at po
        intro σ' Hs' H' S' t1
        obtain ⟨g1, g2, h1, h2, nd', hf⟩ := S'.own
        have pin' : σ'.take np = (vs.take np).map some := by
          have q := S'.pin
          have e : (vs.take np).length = np := by rw [List.length_take]; omega
          rw [show (Act.mk H Hs io (vs.take np)).pv = vs.take np from rfl, e] at q
          exact q
        obtain ⟨u1, u2, rfl, ow'⟩ := slo_outs h1 ho pin'
        have e2 : g2 = [] := h2
        subst e2
        refine po .non Hs' H' u1 [] t1 S'.sub S'.base S'.tabs (fun b u e e0 => S'.frsh b u e e0) ow' (by rw [Own, Rp]; exact ⟨rfl, rfl⟩) (by grind) (fun b hb => hf b (by grind))
    | ret o ρ' =>
      rw [hx] at po
      cases ho : outsOf np ρ' with
      | none => simp only [toRf, ho] at po; exact False.elim po
      | some outs =>
        simp only [toRf, ho] at po
        intro v σ' Hs' H' S' t1
        obtain ⟨g1, g2, h1, h2, nd', hf⟩ := S'.own
        have pin' : σ'.take np = (vs.take np).map some := by
          have q := S'.pin
          have e : (vs.take np).length = np := by rw [List.length_take]; omega
          rw [show (Act.mk H Hs io (vs.take np)).pv = vs.take np from rfl, e] at q
          exact q
        obtain ⟨u1, u2, rfl, ow'⟩ := slo_outs h1 ho pin'
        obtain ⟨v1, v2, rfl, ov, tv⟩ := h2
        refine po v Hs' H' u1 v1 t1 S'.sub S'.base S'.tabs (fun b u e e0 => S'.frsh b u e e0) ow' ov (by grind) (fun b hb => hf b (by grind))
    | exc ex ρ' =>
      rw [hx] at po
      cases ho : outsOf np ρ' with
      | none => simp only [toRf, ho] at po; exact False.elim po
      | some outs =>
        simp only [toRf, ho] at po
        intro c d σ' Hs' H' S' r'
        obtain ⟨g1, g2, h1, h2, nd', hf⟩ := S'.own
        have pin' : σ'.take np = (vs.take np).map some := by
          have q := S'.pin
          have e : (vs.take np).length = np := by rw [List.length_take]; omega
          rw [show (Act.mk H Hs io (vs.take np)).pv = vs.take np from rfl, e] at q
          exact q
        obtain ⟨u1, u2, rfl, ow'⟩ := slo_outs h1 ho pin'
        refine po c d Hs' H' u1 S'.stab S'.sub S'.base S'.tabs (fun b u e e0 => S'.frsh b u e e0) ow' (by grind) (fun b hb => hf b (by grind)) r'
theorem fn_defX {P : Program} {w : World} {mg : Str → Option Value} {base : Heap} {G : Glob} {x qual : Str} {st : Stmt} {fA : Addr} {fd : FuncData} {N ps : List Str} {k np : Nat} {f : En → Ro}
    (F : FunX G.K x qual st fA fd) (S : FnScope N ps (defScope st)) (hnp : np ≤ ps.length)
    (hb : ∀ (cdv : Value) (A : Around) (outer : List Env) (s : Shared) (H : Hp) (E : XK) (a : Act), Room k (A.deeper (envOfC qual (defScope st) s.heap.objs.size fA cdv)) → a.pv.length = np →
      JB (cxOf (L2N.CX P w) P w G.K mg base N qual (defScope st) fA cdv A outer s H E) G a (fun c d _ H => E c d H) (defBody st) f) :
    FnOk P w G.K mg base (L2N.CX P w) (k + 1) fA fd ps (SpF G ps.length np (mkF np N.length f)) := by
  have hN : ps.length ≤ N.length := by
    have e := congrArg List.length S.pre
    rw [List.length_take] at e
    omega
  refine okXX F S (fun vs H Q E h => ?_) (fun cdv A outer s H vs Q E hr h => ?_)
  · obtain ⟨Hs, io, os, hl, _, _, ow, _⟩ := h
    rw [← hl, ownl_length ow]
  · exact def_end hN hnp (fun a => hb cdv A outer s H E a hr) h

/-- the same of a def without defaults -/
theorem fn_def {P : Program} {w : World} {mg : Str → Option Value} {base : Heap} {G : Glob} {x qual : Str} {st : Stmt} {fA : Addr} {fd : FuncData} {N ps : List Str} {k np : Nat} {f : En → Ro}
    (F : Fun G.K x qual st fA fd) (S : FnScope N ps (defScope st)) (hnp : np ≤ ps.length)
    (hb : ∀ (cdv : Value) (A : Around) (outer : List Env) (s : Shared) (H : Hp) (E : XK) (a : Act), Room k (A.deeper (envOfC qual (defScope st) s.heap.objs.size fA cdv)) → a.pv.length = np →
      JB (cxOf (L2N.CX P w) P w G.K mg base N qual (defScope st) fA cdv A outer s H E) G a (fun c d _ H => E c d H) (defBody st) f) :
    FnOk P w G.K mg base (L2N.CX P w) (k + 1) fA fd ps (SpF G ps.length np (mkF np N.length f)) := fn_defX (funx F) S hnp hb

/-! calls -/
structure Cal (G : Glob) (P : Program) (w : World) (mg : Str → Option Value) (base : Heap) (x : Str) (k na : Nat) (Fm : List O → Rf) : Prop where
  ex : ∃ fA fd ps, FnOk P w G.K mg base (L2N.CX P w) k fA fd ps (SpF G na 0 Fm) ∧ mg x = some (.ref fA) ∧ PySem.W.keepIn G.K (.ref fA) = true ∧ Binds G.K fd ps []
def ofRf (x : Rf) (ρ : En) : Rs O := match x with
  | .ok o _ => .ok o ρ
  | .exc e _ => .exc e ρ
  | .bad => .bad
def fCalO (Fm : List O → Rf) (na : Nat) (fa : En → Rs (List D)) : En → Rs O := fun ρ => (fa ρ).bind fun ds ρ1 => if ds.length = na then ofRf (Fm (ds.map .stb)) ρ1 else .bad

section
variable {G : Glob} {a : Act} {W : WX} {ts : Tm} {σ : L2.St} {Hs H Hs' H' : Hp} {ρ : En}
theorem ownl_stb : ∀ {ds : List D} {vs : List V}, RpL G Hs ds vs → OwnL G H Hs (ds.map .stb) vs []
  | [], vs, h => by
    rw [RpL] at h
    rw [List.map_nil, OwnL]
    exact ⟨h, rfl⟩
  | d :: r, vs, h => by
    rw [RpL] at h
    obtain ⟨v, rest, e, q, t⟩ := h
    rw [List.map_cons, OwnL]
    exact ⟨v, rest, [], [], e, rfl, by rw [Own]; exact ⟨rfl, q⟩, ownl_stb t⟩
theorem same_eq (s : Kp H H') {b : Addr} (h : ∃ u, H b = some u ∧ Ownd u) : H' b = H b := s.eq h
/-- behind a call that changed nothing that stood -/
theorem Sta.called (S : Sta G a ρ ts σ Hs H) (s1 : Same Hs Hs') (s2 : Same Hs' H') (k : Kp H H') (tb : Tbs G.tabs Hs' H') (n : ∀ b u, Hs' b = some u → Hs b = none → Nt H b) : Sta G a ρ ts σ Hs' H' := by
  obtain ⟨f1, f2, h1, h2, nd, hf⟩ := S.own
  refine S.go hf s1 s2 (fun b o e _ => k b o e (by simp)) tb (fun b u e e0 => .inl (n b u e e0)) S.pin f1 f2 (slo_frame s1 (fun b hb => same_eq k (slo_there h1 b hb)) h1) (tmo_frame s1 (fun b hb => same_eq k (tmo_there h2 b hb)) h2) nd fun b hb => ⟨?_, .inr hb⟩
  have hb' : ∃ u, H b = some u ∧ Ownd u := by
    rcases List.mem_append.mp hb with q | q
    · exact slo_there h1 b q
    · exact tmo_there h2 b q
  cases e : Hs' b with
  | none => rfl
  | some u =>
    exact ((n b u e (hf b hb).1).no hb').elim
theorem Sta.calledO {o : O} {v : V} {g : List Addr} (S : Sta G a ρ ts σ Hs H) (s1 : Same Hs Hs') (s2 : Same Hs' H') (k : Kp H H') (tb : Tbs G.tabs Hs' H') (n : ∀ b u, Hs' b = some u → Hs b = none → Nt H b)
    (ow : Own G H' Hs' o v g) (ndg : g.Nodup) (hg : ∀ b ∈ g, Hs' b = none ∧ H b = none) : Sta G a ρ ((o, v) :: ts) σ Hs' H' := by
  obtain ⟨f1, f2, h1, h2, nd, hf⟩ := S.own
  have th : ∀ b ∈ f1 ++ f2, ∃ u, H b = some u ∧ Ownd u := fun b hb => by
    rcases List.mem_append.mp hb with q | q
    · exact slo_there h1 b q
    · exact tmo_there h2 b q
  have dis : ∀ b ∈ f1 ++ f2, b ∉ g := fun b hb hbg => by
    obtain ⟨u, e, _⟩ := th b hb
    rw [(hg b hbg).2] at e; cases e
  refine S.go hf s1 s2 (fun b o e _ => k b o e (by simp)) tb (fun b u e e0 => .inl (n b u e e0)) S.pin f1 (g ++ f2) (slo_frame s1 (fun b hb => same_eq k (slo_there h1 b hb)) h1) ⟨g, f2, rfl, ow, tmo_frame s1 (fun b hb => same_eq k (tmo_there h2 b hb)) h2⟩ (by grind) fun b hb => ?_
  by_cases hbg : b ∈ g
  · exact ⟨(hg b hbg).1, .inl (hg b hbg).2⟩
  · have hb2 : b ∈ f1 ++ f2 := by grind
    refine ⟨?_, .inr hb2⟩
    cases e : Hs' b with
    | none => rfl
    | some u =>
      exact ((n b u e (hf b hb2).1).no (th b hb2)).elim
end

section
variable {X : Cx} {G : Glob} {a : Act} {W : WX} {e o : Expr} {f fo : En → Rs D} {pos p apos : Pos} {es : List Expr} {fa : En → Rs (List D)} {x m : Str} {k j na : Nat} {Fm : List O → Rf}
theorem call_end {ts : Tm} {σ : L2.St} {Hs H : Hp} {ρ : En} {ds : List D} {vs : List V} {Q : VK} (S : Sta G a ρ ts σ Hs H) (r : RpL G Hs ds vs) (k : PoO G a W ts σ Hs H Q (if ds.length = na then ofRf (Fm (ds.map .stb)) ρ else .bad)) :
    SpF G na 0 Fm vs H Q (WE W σ) := by
  by_cases hl : ds.length = na
  · rw [if_pos hl] at k
    refine ⟨Hs, [], ds.map .stb, by rw [List.length_map]; exact hl, S.sub, S.tabs, ownl_stb r, List.nodup_nil, by simp, ?_⟩
    cases hx : Fm (ds.map .stb) with
    | bad => rw [hx] at k; exact False.elim k
    | ok o outs =>
      rw [hx] at k
      intro v Hs' H' f1 f2 s1 s2 kk tb n o1 ow nd hf
      have kk' : Kp H H' := kk
      refine k v Hs' H' (S.calledO s1 s2 kk' tb (fun b u e e0 => ?_) ow (by grind) (fun b hb => ?_)) s1 kk'
      · rcases n b u e e0 with z | z
        · exact z
        · simp at z
      · have z := hf b (List.mem_append_right _ hb)
        refine ⟨z.1, ?_⟩
        rcases z.2 with q | q
        · exact q
        · simp at q
    | exc ex outs =>
      rw [hx] at k
      intro c d Hs' H' f1 s1 s2 kk tb n o1 nd hf r'
      have kk' : Kp H H' := kk
      refine k c d Hs' H' (S.called s1 s2 kk' tb (fun b u e e0 => ?_)) r'
      rcases n b u e e0 with z | z
      · exact z
      · simp at z
  · rw [if_neg hl] at k
    exact False.elim k
theorem jo_call (c : Cal G X.prog X.w X.mg X.base x k na Fm) (g : X.K = G.K) (hr : Room j X.A) (hk : k ≤ j) (tk : L2N.Takes X W) (hg : Gl X x) (ha : JA X G a W (e :: es) fa) (hdb : (x == ("__debug__" : Str)) = false := by decide)
    (he : starEach (e :: es) X.env = (false, eval e X.env) :: starEach es X.env := by rfl) (hpl : (backTo pos (starEach es X.env)).any (·.1) = false := by rfl) : JO X G a W (.Call (.Name x p) (e :: es) [] pos) (fCalO Fm na fa) := by
  obtain ⟨fA, fd, ps, F, hm, kp, b⟩ := c.ex
  rw [← g] at F kp b
  refine (pe_callS F (hr.mono hk) hg hm kp b (fun σ => L2N.passAt tk σ) ha hdb he hpl).imp fun σ H Q ⟨ρ, ts, Hs, S, k⟩ => ⟨ρ, ts, Hs, S, (Po.bindO (R := RpL G) k).mono ?_⟩
  rintro vs H1 ⟨ds, ρ1, Hs1, S1, s1, s2, r1, k1⟩
  exact call_end S1 r1 k1
theorem jo_call0 (c : Cal G X.prog X.w X.mg X.base x k na Fm) (g : X.K = G.K) (hr : Room j X.A) (hk : k ≤ j) (tk : L2N.Takes X W) (hg : Gl X x) (hdb : (x == ("__debug__" : Str)) = false := by decide) : JO X G a W (.Call (.Name x p) [] [] pos) (fCalO Fm na fNil) := by
  obtain ⟨fA, fd, ps, F, hm, kp, b⟩ := c.ex
  rw [← g] at F kp b
  refine ⟨fun pins s σ H Q I ⟨ρ, ts, Hs, S, k⟩ => wpAny_Call_Name_kw (ld_glob I hg hm (PySem.W.callWith_K0 I.kIn kp (run_fnS (us := []) (E := WE W) F (hr.mono hk) b (L2N.passAt tk σ) I .nil ?_)) hdb)⟩
  exact call_end S (by rw [RpL]) k
theorem je_call (c : Cal G X.prog X.w X.mg X.base x k na Fm) (g : X.K = G.K) (hr : Room j X.A) (hk : k ≤ j) (tk : L2N.Takes X W) (hg : Gl X x) (ha : JA X G a W (e :: es) fa) (hdb : (x == ("__debug__" : Str)) = false := by decide)
    (he : starEach (e :: es) X.env = (false, eval e X.env) :: starEach es X.env := by rfl) (hpl : (backTo pos (starEach es X.env)).any (·.1) = false := by rfl) : JE X G a W (.Call (.Name x p) (e :: es) [] pos) (fFr (fCalO Fm na fa)) :=
  je_fr (jo_call c g hr hk tk hg ha hdb he hpl)
theorem je_call0 (c : Cal G X.prog X.w X.mg X.base x k na Fm) (g : X.K = G.K) (hr : Room j X.A) (hk : k ≤ j) (tk : L2N.Takes X W) (hg : Gl X x) (hdb : (x == ("__debug__" : Str)) = false := by decide) : JE X G a W (.Call (.Name x p) [] [] pos) (fFr (fCalO Fm na fNil)) :=
  je_fr (jo_call0 c g hr hk tk hg hdb)
end

/-- a def of the module, by its body -/
theorem cal_of {P : Program} {w : World} {mg : Str → Option Value} {base : Heap} {G : Glob} {x : Str} {st : Stmt} {fA : Addr} {fd : FuncData} {N ps : List Str} {k : Nat} {f : En → Ro}
    (F : Fun G.K x x st fA fd) (hm : mg x = some (.ref fA)) (b : Binds G.K fd ps []) (S : FnScope N ps (defScope st))
    (hb : ∀ (cdv : Value) (A : Around) (outer : List Env) (s : Shared) (H : Hp) (E : XK) (a : Act), Room k (A.deeper (envOfC x (defScope st) s.heap.objs.size fA cdv)) → a.pv.length = 0 →
      JB (cxOf (L2N.CX P w) P w G.K mg base N x (defScope st) fA cdv A outer s H E) G a (fun c d _ H => E c d H) (defBody st) f) :
    Cal G P w mg base x (k + 1) ps.length (mkF 0 N.length f) := ⟨fA, fd, ps, fn_def F S (Nat.zero_le _) hb, hm, F.kp, b⟩
end Lf

namespace Lf
open PySem L2 PyProof.Rows

/-! == of plain data -/
mutual
def deq : D → D → Bool
  | .non, .non => true
  | .bl a, .bl b => a == b
  | .bl a, .int j => (if a then 1 else 0) == j
  | .int i, .bl b => i == (if b then 1 else 0)
  | .int i, .int j => i == j
  | .str x, .str y => x == y
  | .tup xs, .tup ys => deqL xs ys
  | .lst xs, .lst ys => deqL xs ys
  | _, _ => false
def deqL : List D → List D → Bool
  | [], [] => true
  | x :: xs, y :: ys => deq x y && deqL xs ys
  | _, _ => false
end
mutual
/-- data that == compares, at most n deep -/
def okD : Nat → D → Bool
  | _, .non => true
  | _, .bl _ => true
  | _, .int _ => true
  | _, .str x => PySem.PyData.strOk x
  | n + 1, .tup xs => okL n xs
  | n + 1, .lst xs => okL n xs
  | _, _ => false
def okL : Nat → List D → Bool
  | _, [] => true
  | n, x :: xs => okD n x && okL n xs
end
mutual
def toP : D → PyData
  | .non => .none
  | .bl b => .bool b
  | .int i => .int i
  | .str x => .str x
  | .tup xs => .tuple (toPs xs)
  | .lst xs => .list (toPs xs)
  | _ => .none
def toPs : List D → List PyData
  | [] => []
  | x :: xs => toP x :: toPs xs
end
mutual
theorem okD_fit : ∀ (d : D) (n : Nat), okD n d = true → (toP d).canLay0 = true ∧ (toP d).depth ≤ n
  | .non, n, h => by simp [toP, PyData.canLay0, PyData.depth]
  | .bl _, n, h => by simp [toP, PyData.canLay0, PyData.depth]
  | .int _, n, h => by simp [toP, PyData.canLay0, PyData.depth]
  | .str x, n, h => by
    have h' : PySem.PyData.strOk x = true := by simpa only [okD] using h
    simp [toP, PyData.canLay0, PyData.depth, h']
  | .tup xs, 0, h => by simp [okD] at h
  | .tup xs, n + 1, h => by
    have h' : okL n xs = true := by simpa only [okD] using h
    have := okL_fit xs n h'
    simp only [toP, PyData.canLay0, PyData.depth]
    exact ⟨this.1, by omega⟩
  | .lst xs, 0, h => by simp [okD] at h
  | .lst xs, n + 1, h => by
    have h' : okL n xs = true := by simpa only [okD] using h
    have := okL_fit xs n h'
    simp only [toP, PyData.canLay0, PyData.depth]
    exact ⟨this.1, by omega⟩
  | .ty _, n, h => by simp [okD] at h
  | .dct _, n, h => by simp [okD] at h
  | .obj _ _, n, h => by simp [okD] at h
  | .fn _ _, n, h => by simp [okD] at h
  | .scr _, n, h => by simp [okD] at h
theorem okL_fit : ∀ (ds : List D) (n : Nat), okL n ds = true → PyData.canLayAll0 (toPs ds) = true ∧ PyData.depthAll (toPs ds) ≤ n
  | [], n, h => by simp [toPs, PyData.canLayAll0, PyData.depthAll]
  | d :: ds, n, h => by
    have h' : okD n d = true ∧ okL n ds = true := by simpa only [okL, Bool.and_eq_true] using h
    have h1 := okD_fit d n h'.1
    have h2 := okL_fit ds n h'.2
    simp only [toPs, PyData.canLayAll0, PyData.depthAll, h1.1, h2.1, Bool.and_self, true_and]
    omega
end
mutual
theorem okD_dp {G : Glob} {Hs : Hp} : ∀ (d : D) (n : Nat) (v : V), okD n d = true → Rp G Hs d v → Dp G.K Hs v (toP d)
  | .non, n, v, h, r => by rw [Rp] at r; subst r; exact .non
  | .bl _, n, v, h, r => by rw [Rp] at r; subst r; exact .bl _
  | .int _, n, v, h, r => by rw [Rp] at r; subst r; exact .int _
  | .str x, n, v, h, r => by rw [Rp] at r; subst r; exact .str _
  | .tup xs, 0, v, h, r => by simp [okD] at h
  | .tup xs, n + 1, v, h, r => by
    have h' : okL n xs = true := by simpa only [okD] using h
    rw [Rp] at r
    obtain ⟨p, vs, rfl, q, t⟩ := r
    rw [toP]
    exact .tup q (okL_dp xs n vs h' t)
  | .lst xs, 0, v, h, r => by simp [okD] at h
  | .lst xs, n + 1, v, h, r => by
    have h' : okL n xs = true := by simpa only [okD] using h
    rw [Rp] at r
    obtain ⟨p, vs, rfl, q, t⟩ := r
    rw [toP]
    exact .lst (SqL.of q) (okL_dp xs n vs h' t)
  | .ty _, n, v, h, r => by simp [okD] at h
  | .dct _, n, v, h, r => by simp [okD] at h
  | .obj _ _, n, v, h, r => by simp [okD] at h
  | .fn _ _, n, v, h, r => by simp [okD] at h
  | .scr _, n, v, h, r => by simp [okD] at h
theorem okL_dp {G : Glob} {Hs : Hp} : ∀ (ds : List D) (n : Nat) (vs : List V), okL n ds = true → RpL G Hs ds vs → DpAll G.K Hs vs (toPs ds)
  | [], n, vs, h, r => by rw [RpL] at r; subst r; exact .nil
  | d :: ds, n, vs, h, r => by
    have h' : okD n d = true ∧ okL n ds = true := by simpa only [okL, Bool.and_eq_true] using h
    rw [RpL] at r
    obtain ⟨v, rest, rfl, q, t⟩ := r
    rw [toPs]
    exact .cons (okD_dp d n v h'.1 q) (okL_dp ds n rest h'.2 t)
end
mutual
theorem eqv_deq : ∀ (d e : D) (n m : Nat), okD n d = true → okD m e = true → PyData.eqv (toP d) (toP e) = deq d e
  | .non, e, n, m, h, k => by cases e <;> first | (simp only [toP, PyData.eqv, deq]; done) | (simp [okD] at k; done)
  | .bl _, e, n, m, h, k => by cases e <;> first | (simp only [toP, PyData.eqv, deq]; done) | (simp [okD] at k; done)
  | .int _, e, n, m, h, k => by cases e <;> first | (simp only [toP, PyData.eqv, deq]; done) | (simp [okD] at k; done)
  | .str _, e, n, m, h, k => by cases e <;> first | (simp only [toP, PyData.eqv, deq]; done) | (simp [okD] at k; done)
  | .tup xs, e, 0, m, h, k => by simp [okD] at h
  | .tup xs, e, n + 1, m, h, k => by
    have h' : okL n xs = true := by simpa only [okD] using h
    cases e with
    | tup ys =>
      cases m with
      | zero => simp [okD] at k
      | succ m =>
        have k' : okL m ys = true := by simpa only [okD] using k
        simp only [toP, PyData.eqv, deq]
        exact eqvl_deq xs ys n m h' k'
    | _ => first | (simp only [toP, PyData.eqv, deq]; done) | (simp [okD] at k; done)
  | .lst xs, e, 0, m, h, k => by simp [okD] at h
  | .lst xs, e, n + 1, m, h, k => by
    have h' : okL n xs = true := by simpa only [okD] using h
    cases e with
    | lst ys =>
      cases m with
      | zero => simp [okD] at k
      | succ m =>
        have k' : okL m ys = true := by simpa only [okD] using k
        simp only [toP, PyData.eqv, deq]
        exact eqvl_deq xs ys n m h' k'
    | _ => first | (simp only [toP, PyData.eqv, deq]; done) | (simp [okD] at k; done)
  | .ty _, _, n, m, h, _ => by simp [okD] at h
  | .dct _, _, n, m, h, _ => by simp [okD] at h
  | .obj _ _, _, n, m, h, _ => by simp [okD] at h
  | .fn _ _, _, n, m, h, _ => by simp [okD] at h
  | .scr _, _, n, m, h, _ => by simp [okD] at h
theorem eqvl_deq : ∀ (ds es : List D) (n m : Nat), okL n ds = true → okL m es = true → PyData.eqvAll (toPs ds) (toPs es) = deqL ds es
  | [], [], n, m, h, k => by simp only [toPs, PyData.eqvAll, deqL]
  | [], _ :: _, n, m, h, k => by simp only [toPs, PyData.eqvAll, deqL]
  | _ :: _, [], n, m, h, k => by simp only [toPs, PyData.eqvAll, deqL]
  | d :: ds, e :: es, n, m, h, k => by
    have h' : okD n d = true ∧ okL n ds = true := by simpa only [okL, Bool.and_eq_true] using h
    have k' : okD m e = true ∧ okL m es = true := by simpa only [okL, Bool.and_eq_true] using k
    simp only [toPs, PyData.eqvAll, deqL, eqv_deq d e n m h'.1 k'.1, eqvl_deq ds es n m h'.2 k'.2]
end
theorem Dp.mono' {K : PySem.W.Frag} {H H' : Hp} {v : V} {d : PyData} (s : Same H H') (h : Dp K H v d) : Dp K H' v d := by
  refine Dp.rec (motive_1 := fun v d _ => Dp K H' v d) (motive_2 := fun vs ds _ => DpAll K H' vs ds) .non .bl .int .str (fun q _ t => .lst (s.seq q) t) (fun q _ t => .tup (Same.tup s q) t) .nil (fun _ _ a b => .cons a b) h

/-- both are told apart as whole: scalars -/
def scalD : D → D → Bool
  | .non, .non => true | .non, .int _ => true | .int _, .non => true | .non, .bl _ => true | .bl _, .non => true | .non, .str _ => true | .str _, .non => true
  | .int _, .int _ => true | .bl _, .bl _ => true | .str _, .str _ => true
  | .int _, .str _ => true | .str _, .int _ => true | .bl _, .str _ => true | .str _, .bl _ => true
  | _, _ => false
def dEq (d e : D) : Option D := if scalD d e || (okD 60 d && okD 60 e) then some (.bl (deq d e)) else none
def dNe (d e : D) : Option D := if scalD d e || (okD 60 d && okD 60 e) then some (.bl (!deq d e)) else none

def rEqA (K : PySem.W.Frag) : R2 := fun x y H Q => rEq x y H Q ∨ rEqD K x y H Q
def rNeA (K : PySem.W.Frag) : R2 := fun x y H Q => rNe x y H Q ∨ rNeD K x y H Q
section
variable {X : Cx} {G : Glob}
theorem op_eqA (hu : X.A.units + 64 < cLine) : OpR X (compareOp .Eq) (rEqA X.K) := OpR.or op_eq (op_eqD hu)
theorem op_neA (hu : X.A.units + 64 < cLine) : OpR X (compareOp .NotEq) (rNeA X.K) := OpR.or op_ne (op_neD hu)
theorem scal_eq {Hs : Hp} {d e : D} {x y : V} (h : scalD d e = true) (rx : Rp G Hs d x) (ry : Rp G Hs e y) : scal x y = true ∧ decide (x = y) = deq d e := by
  cases d <;> cases e <;> first
    | (simp [scalD] at h; done)
    | (rw [Rp] at rx; rw [Rp] at ry; subst rx ry
       refine ⟨rfl, ?_⟩
       rw [Bool.eq_iff_iff]
       simp [deq])
theorem shaped_of {d : D} (h : okD 60 d = true) : SeqAt.shaped (toP d) = true := by
  have k := okD_fit d 60 h
  unfold SeqAt.shaped
  rw [k.1, Bool.true_and]
  exact decide_eq_true (by omega)
theorem opd_eq : OpD G (rEqA G.K) dEq := by
  intro Hs H d1 d2 d v1 v2 Q sub r1 r2 hg k
  unfold dEq at hg
  split at hg
  · rename_i hc
    cases hg
    have kk : Q (.bl (deq d1 d2)) H := k _ Hs H Gr.rfl (by rw [Rp])
    rcases (Bool.or_eq_true _ _).mp hc with hs | ho
    · obtain ⟨h1, h2⟩ := scal_eq hs r1 r2
      exact .inl ⟨h1, by rw [h2]; exact kk⟩
    · rw [Bool.and_eq_true] at ho
      refine .inr ⟨_, _, Dp.mono' sub (okD_dp d1 60 v1 ho.1 r1), Dp.mono' sub (okD_dp d2 60 v2 ho.2 r2), shaped_of ho.1, shaped_of ho.2, ?_⟩
      rw [eqv_deq d1 d2 60 60 ho.1 ho.2]
      exact kk
  · cases hg
theorem opd_ne : OpD G (rNeA G.K) dNe := by
  intro Hs H d1 d2 d v1 v2 Q sub r1 r2 hg k
  unfold dNe at hg
  split at hg
  · rename_i hc
    cases hg
    have kk : Q (.bl (!deq d1 d2)) H := k _ Hs H Gr.rfl (by rw [Rp])
    rcases (Bool.or_eq_true _ _).mp hc with hs | ho
    · obtain ⟨h1, h2⟩ := scal_eq hs r1 r2
      exact .inl ⟨h1, by rw [h2]; exact kk⟩
    · rw [Bool.and_eq_true] at ho
      refine .inr ⟨_, _, Dp.mono' sub (okD_dp d1 60 v1 ho.1 r1), Dp.mono' sub (okD_dp d2 60 v2 ho.2 r2), shaped_of ho.1, shaped_of ho.2, ?_⟩
      rw [eqv_deq d1 d2 60 60 ho.1 ho.2]
      exact kk
  · cases hg
end

/-! arithmetic -/
def dAdd : D → D → Option D
  | .int i, .int j => some (.int (i + j))
  | .str x, .str y => if x.length + y.length ≤ LIM then some (.str (x ++ y)) else none
  | .tup xs, .tup ys => if xs.length + ys.length ≤ LIM then some (.tup (xs ++ ys)) else none
  | .lst xs, .lst ys => if xs.length + ys.length ≤ LIM then some (.lst (xs ++ ys)) else none
  | _, _ => none
def dSub : D → D → Option D
  | .int i, .int j => some (.int (i - j))
  | _, _ => none
def dMul : D → D → Option D
  | .int i, .int j => if (-(2 ^ 64) < i ∧ i < 2 ^ 64) ∨ (-(2 ^ 64) < j ∧ j < 2 ^ 64) then some (.int (i * j)) else none
  | .str x, .int n => if x.length ≤ 1000 ∧ 0 ≤ n ∧ n ≤ 1000 then some (.str (Txt.mul x n)) else none
  | _, _ => none
def dFdv : D → D → Option D
  | .int i, .int j => if 0 < j ∧ j.natAbs.log2 < 9000 then some (.int (i / j)) else none
  | _, _ => none
def dMod : D → D → Option D
  | .int i, .int j => if 0 < j then some (.int (i % j)) else none
  | _, _ => none
def dPow : D → D → Option D
  | .int i, .int j => if 0 ≤ j ∧ j ≤ 1000000 ∧ i.natAbs < 2 ^ 64 then some (.int (i ^ j.toNat)) else none
  | _, _ => none
def dShl : D → D → Option D
  | .int i, .int j => if 0 ≤ j ∧ j ≤ 1000000 ∧ i.natAbs < 2 ^ 64 then some (.int (i * 2 ^ j.toNat)) else none
  | _, _ => none
def dShr : D → D → Option D
  | .int i, .int j => if 0 ≤ j then some (.int (i / 2 ^ j.toNat)) else none
  | _, _ => none
def dAnd : D → D → Option D
  | .int i, .int j => some (.int (Builtin.bitAnd i j))
  | _, _ => none
def dOr : D → D → Option D
  | .int i, .int j => some (.int (Builtin.bitOr i j))
  | _, _ => none
def dNeg : D → Option D
  | .int i => some (.int (-i))
  | _ => none
def dInv : D → Option D
  | .int i => some (.int (Builtin.bitNot i))
  | _ => none
def dLt : D → D → Option D
  | .int i, .int j => some (.bl (decide (i < j)))
  | _, _ => none
def dLe : D → D → Option D
  | .int i, .int j => some (.bl (decide (i ≤ j)))
  | _, _ => none
def dGt : D → D → Option D
  | .int i, .int j => some (.bl (decide (j < i)))
  | _, _ => none
def dGe : D → D → Option D
  | .int i, .int j => some (.bl (decide (j ≤ i)))
  | _, _ => none
def rStr : R2 := fun x y H Q => ∃ i j, x = .str i ∧ y = .str j ∧ i.length + j.length ≤ sizeLine ∧ Q (.str (i ++ j)) H
def rAddA (K : PySem.W.Frag) : R2 := fun x y H Q => ((rI0 fun i j => .int (i + j)) x y H Q ∨ rStr x y H Q) ∨ (rCatA K x y H Q ∨ rCat x y H Q)
section
variable {X : Cx} {G : Glob}
theorem op_addA : OpR X (binaryOp .Add) (rAddA X.K) := OpR.or (OpR.or op_add op_add_str) (OpR.or op_catA op_cat)
theorem rpl_append {Hs : Hp} : ∀ {ds es : List D} {vs ws : List V}, RpL G Hs ds vs → RpL G Hs es ws → RpL G Hs (ds ++ es) (vs ++ ws)
  | [], es, vs, ws, h, k => by
    rw [RpL] at h
    subst h
    exact k
  | d :: r, es, vs, ws, h, k => by
    rw [RpL] at h
    obtain ⟨v, rest, e, q, t⟩ := h
    subst e
    rw [List.cons_append, RpL]
    exact ⟨v, rest ++ ws, rfl, q, rpl_append t k⟩
theorem rpl_nil_iff {Hs : Hp} {ds : List D} {vs : List V} (h : RpL G Hs ds vs) : vs = [] ↔ ds = [] := by
  have := rpl_length h
  cases ds <;> cases vs <;> simp_all
theorem opd_int {r : R2} {C : Int → Int → Prop} {g : Int → Int → V} {f : D → D → Option D} (hr : r = rI C g) (hf : ∀ d1 d2 d, f d1 d2 = some d → ∃ i j, d1 = .int i ∧ d2 = .int j ∧ C i j ∧ ∀ Hs, Rp G Hs d (g i j)) : OpD G r f := by
  intro Hs H d1 d2 d v1 v2 Q sub r1 r2 hg k
  obtain ⟨i, j, rfl, rfl, c, rd⟩ := hf d1 d2 d hg
  rw [Rp] at r1 r2
  subst hr
  exact ⟨i, j, r1, r2, c, k _ Hs H Gr.rfl (rd Hs)⟩
theorem opd_int0 {r : R2} {g : Int → Int → V} {f : D → D → Option D} (hr : r = rI0 g) (hf : ∀ d1 d2 d, f d1 d2 = some d → ∃ i j, d1 = .int i ∧ d2 = .int j ∧ ∀ Hs, Rp G Hs d (g i j)) : OpD G r f := by
  intro Hs H d1 d2 d v1 v2 Q sub r1 r2 hg k
  obtain ⟨i, j, rfl, rfl, rd⟩ := hf d1 d2 d hg
  rw [Rp] at r1 r2
  subst hr
  exact ⟨i, j, r1, r2, k _ Hs H Gr.rfl (rd Hs)⟩
theorem opd_add : OpD G (rAddA G.K) dAdd := by
  intro Hs H d1 d2 d v1 v2 Q sub r1 r2 hg k
  cases d1 <;> cases d2 <;> first | (simp [dAdd] at hg; done) | skip
  · simp only [dAdd] at hg
    cases hg
    rw [Rp] at r1 r2
    exact .inl (.inl ⟨_, _, r1, r2, k _ Hs H Gr.rfl (by rw [Rp])⟩)
  · simp only [dAdd] at hg
    split at hg
    · rename_i hl
      cases hg
      rw [Rp] at r1 r2
      exact .inl (.inr ⟨_, _, r1, r2, by rw [← lim_eq]; exact hl, k _ Hs H Gr.rfl (by rw [Rp])⟩)
    · cases hg
  · rename_i xs ys
    simp only [dAdd] at hg
    split at hg
    · rename_i hl
      cases hg
      rw [Rp] at r1 r2
      obtain ⟨p, vs, e1, q1, t1⟩ := r1
      obtain ⟨p2, ws, e2, q2, t2⟩ := r2
      refine .inr (.inl ⟨p, p2, vs, ws, e1, e2, Same.tup sub q1, Same.tup sub q2, by rw [← rpl_length t1, ← rpl_length t2, ← lim_eq]; exact hl, fun hx => ?_, fun hx hy => ?_, fun hx hy a ha => ?_⟩)
      · refine k _ Hs H Gr.rfl ?_
        rw [(rpl_nil_iff t1).mp hx, List.nil_append, Rp]
        exact ⟨p2, ws, rfl, q2, t2⟩
      · refine k _ Hs H Gr.rfl ?_
        rw [(rpl_nil_iff t2).mp hy, List.append_nil, Rp]
        exact ⟨p, vs, rfl, q1, t1⟩
      · refine k _ _ _ (Gr.mk ha) ?_
        rw [Rp]
        exact ⟨a, _, rfl, SqT.of upd_same, rpl_append (rpl_mono (Same.new (sub.free ha)) _ _ t1) (rpl_mono (Same.new (sub.free ha)) _ _ t2)⟩
    · cases hg
  · rename_i xs ys
    simp only [dAdd] at hg
    split at hg
    · rename_i hl
      cases hg
      rw [Rp] at r1 r2
      obtain ⟨p, vs, e1, q1, t1⟩ := r1
      obtain ⟨p2, ws, e2, q2, t2⟩ := r2
      refine .inr (.inr ⟨p, p2, vs, ws, e1, e2, sub _ _ q1, sub _ _ q2, by rw [← rpl_length t1, ← rpl_length t2, ← lim_eq]; exact hl, fun a ha => ?_⟩)
      refine k _ _ _ (Gr.mk ha) ?_
      rw [Rp]
      exact ⟨a, _, rfl, upd_same, rpl_append (rpl_mono (Same.new (sub.free ha)) _ _ t1) (rpl_mono (Same.new (sub.free ha)) _ _ t2)⟩
    · cases hg
theorem opd_sub : OpD G (rI0 fun i j => .int (i - j)) dSub := opd_int0 rfl fun d1 d2 d h => by
  cases d1 <;> cases d2 <;> first | (simp [dSub] at h; done) | (simp only [dSub] at h; cases h; exact ⟨_, _, rfl, rfl, fun Hs => by rw [Rp]⟩)
theorem opd_and : OpD G (rI0 fun i j => .int (Builtin.bitAnd i j)) dAnd := opd_int0 rfl fun d1 d2 d h => by
  cases d1 <;> cases d2 <;> first | (simp [dAnd] at h; done) | (simp only [dAnd] at h; cases h; exact ⟨_, _, rfl, rfl, fun Hs => by rw [Rp]⟩)
theorem opd_or : OpD G (rI0 fun i j => .int (Builtin.bitOr i j)) dOr := opd_int0 rfl fun d1 d2 d h => by
  cases d1 <;> cases d2 <;> first | (simp [dOr] at h; done) | (simp only [dOr] at h; cases h; exact ⟨_, _, rfl, rfl, fun Hs => by rw [Rp]⟩)
theorem opd_lt : OpD G (rI0 fun i j => .bl (decide (i < j))) dLt := opd_int0 rfl fun d1 d2 d h => by
  cases d1 <;> cases d2 <;> first | (simp [dLt] at h; done) | (simp only [dLt] at h; cases h; exact ⟨_, _, rfl, rfl, fun Hs => by rw [Rp]⟩)
theorem opd_le : OpD G (rI0 fun i j => .bl (decide (i ≤ j))) dLe := opd_int0 rfl fun d1 d2 d h => by
  cases d1 <;> cases d2 <;> first | (simp [dLe] at h; done) | (simp only [dLe] at h; cases h; exact ⟨_, _, rfl, rfl, fun Hs => by rw [Rp]⟩)
theorem opd_gt : OpD G (rI0 fun i j => .bl (decide (j < i))) dGt := opd_int0 rfl fun d1 d2 d h => by
  cases d1 <;> cases d2 <;> first | (simp [dGt] at h; done) | (simp only [dGt] at h; cases h; exact ⟨_, _, rfl, rfl, fun Hs => by rw [Rp]⟩)
theorem opd_ge : OpD G (rI0 fun i j => .bl (decide (j ≤ i))) dGe := opd_int0 rfl fun d1 d2 d h => by
  cases d1 <;> cases d2 <;> first | (simp [dGe] at h; done) | (simp only [dGe] at h; cases h; exact ⟨_, _, rfl, rfl, fun Hs => by rw [Rp]⟩)
def rMulS : R2 := fun x y H Q => ∃ a n, x = .str a ∧ y = .int n ∧ PySem.MulOk a n ∧ Q (.str (Txt.mul a n)) H
def rMulA : R2 := fun x y H Q => (rI CMul fun i j => .int (i * j)) x y H Q ∨ rMulS x y H Q
theorem op_mulS : OpR X (binaryOp .Mult) rMulS := by
  intro pins s σ H x y v u Q I rx ry h
  obtain ⟨i, j, rfl, rfl, hz, q⟩ := h
  obtain ⟨t, rfl⟩ := rx
  obtain ⟨t', rfl⟩ := ry
  exact SB.mul hz (fun t' tk => ⟨.str (Txt.mul i j), H, I.tok _, ⟨_, rfl⟩, q⟩)
theorem op_mulA : OpR X (binaryOp .Mult) rMulA := OpR.or op_mul op_mulS
theorem opd_mul : OpD G rMulA dMul := by
  intro Hs H d1 d2 d v1 v2 Q sub r1 r2 hg k
  cases d1 <;> cases d2 <;> first | (simp [dMul] at hg; done) | skip
  · simp only [dMul] at hg
    split at hg
    · rename_i hl
      cases hg
      rw [Rp] at r1 r2
      exact .inl ⟨_, _, r1, r2, hl, k _ Hs H Gr.rfl (by rw [Rp])⟩
    · cases hg
  · simp only [dMul] at hg
    split at hg
    · rename_i hl
      cases hg
      rw [Rp] at r1
      rw [Rp] at r2
      exact .inr ⟨_, _, r1, r2, mulOk_of 1000 1000 hl.1 hl.2.2 (by omega) (by decide) (by decide), k _ Hs H Gr.rfl (by rw [Rp])⟩
    · cases hg
theorem opd_fdv : OpD G (rI CDivW fun i j => .int (i / j)) dFdv := opd_int rfl fun d1 d2 d h => by
  cases d1 <;> cases d2 <;> first | (simp [dFdv] at h; done) | (simp only [dFdv] at h; split at h <;> first | (rename_i hc; cases h; exact ⟨_, _, rfl, rfl, hc, fun Hs => by rw [Rp]⟩) | cases h)
theorem opd_mod : OpD G (rI (fun _ j => 0 < j) fun i j => .int (i % j)) dMod := opd_int rfl fun d1 d2 d h => by
  cases d1 <;> cases d2 <;> first | (simp [dMod] at h; done) | (simp only [dMod] at h; split at h <;> first | (rename_i hc; cases h; exact ⟨_, _, rfl, rfl, hc, fun Hs => by rw [Rp]⟩) | cases h)
theorem opd_pow : OpD G (rI CPow fun i j => .int (i ^ j.toNat)) dPow := opd_int rfl fun d1 d2 d h => by
  cases d1 <;> cases d2 <;> first | (simp [dPow] at h; done) | (simp only [dPow] at h; split at h <;> first | (rename_i hc; cases h; exact ⟨_, _, rfl, rfl, hc, fun Hs => by rw [Rp]⟩) | cases h)
theorem opd_shl : OpD G (rI CPow fun i j => .int (i * 2 ^ j.toNat)) dShl := opd_int rfl fun d1 d2 d h => by
  cases d1 <;> cases d2 <;> first | (simp [dShl] at h; done) | (simp only [dShl] at h; split at h <;> first | (rename_i hc; cases h; exact ⟨_, _, rfl, rfl, hc, fun Hs => by rw [Rp]⟩) | cases h)
theorem opd_shr : OpD G (rI (fun _ j => 0 ≤ j) fun i j => .int (i / 2 ^ j.toNat)) dShr := opd_int rfl fun d1 d2 d h => by
  cases d1 <;> cases d2 <;> first | (simp [dShr] at h; done) | (simp only [dShr] at h; split at h <;> first | (rename_i hc; cases h; exact ⟨_, _, rfl, rfl, hc, fun Hs => by rw [Rp]⟩) | cases h)
theorem und_neg : UnD G (rU fun i => .int (-i)) dNeg := fun Hs H d1 d v1 Q sub r1 hg k => by
  cases d1 <;> first | (simp [dNeg] at hg; done) | (simp only [dNeg] at hg; cases hg; rw [Rp] at r1; exact ⟨_, r1, k _ Hs H Gr.rfl (by rw [Rp])⟩)
theorem und_inv : UnD G (rU fun i => .int (Builtin.bitNot i)) dInv := fun Hs H d1 d v1 Q sub r1 hg k => by
  cases d1 <;> first | (simp [dInv] at hg; done) | (simp only [dInv] at hg; cases hg; rw [Rp] at r1; exact ⟨_, r1, k _ Hs H Gr.rfl (by rw [Rp])⟩)
end
end Lf

namespace Lf
open PySem L2 PyProof.Rows

section
variable {G : Glob} {Hs H : Hp}
theorem rpl_get {ds : List D} {vs : List V} (h : RpL G Hs ds vs) : ∀ {i : Nat} {d : D}, ds[i]? = some d → ∃ v, vs[i]? = some v ∧ Rp G Hs d v := by
  induction ds generalizing vs with
  | nil => intro i d e; simp at e
  | cons d0 r ih =>
    rw [RpL] at h
    obtain ⟨v, rest, rfl, q, t⟩ := h
    intro i d e
    cases i with
    | zero =>
      rw [List.getElem?_cons_zero] at e ⊢
      cases e
      exact ⟨v, rfl, q⟩
    | succ i =>
      rw [List.getElem?_cons_succ] at e ⊢
      exact ih t e
theorem rpl_at {ds : List D} {vs : List V} (h : RpL G Hs ds vs) {i : Int} {d : D} (e : atI ds i = some d) : ∃ v, atI vs i = some v ∧ Rp G Hs d v := by
  unfold atI at e ⊢
  rw [← rpl_length h]
  cases q : ixN ds.length i with
  | none => rw [q] at e; cases e
  | some j =>
    rw [q] at e
    exact rpl_get h e
theorem rpl_ints : ∀ {ns : List Int} {vs : List V}, RpL G Hs (ns.map .int) vs → vs = ns.map V.int
  | [], vs, h => by
    rw [List.map_nil, RpL] at h
    rw [h, List.map_nil]
  | n :: ns, vs, h => by
    rw [List.map_cons, RpL] at h
    obtain ⟨v, rest, rfl, q, t⟩ := h
    rw [Rp] at q
    rw [q, rpl_ints t, List.map_cons]
theorem rpl_bls : ∀ {bs : List Bool} {vs : List V}, RpL G Hs (bs.map .bl) vs → vs = bs.map V.bl
  | [], vs, h => by
    rw [List.map_nil, RpL] at h
    rw [h, List.map_nil]
  | n :: ns, vs, h => by
    rw [List.map_cons, RpL] at h
    obtain ⟨v, rest, rfl, q, t⟩ := h
    rw [Rp] at q
    rw [q, rpl_bls t, List.map_cons]
theorem rpl_strs : ∀ {bs : List Str} {vs : List V}, RpL G Hs (bs.map .str) vs → vs = bs.map V.str
  | [], vs, h => by
    rw [List.map_nil, RpL] at h
    rw [h, List.map_nil]
  | n :: ns, vs, h => by
    rw [List.map_cons, RpL] at h
    obtain ⟨v, rest, rfl, q, t⟩ := h
    rw [Rp] at q
    rw [q, rpl_strs t, List.map_cons]
theorem rpl_of_ints (ns : List Int) : RpL G Hs (ns.map .int) (ns.map V.int) := by
  induction ns with
  | nil => rw [List.map_nil, RpL, List.map_nil]
  | cons n ns ih => rw [List.map_cons, RpL]; exact ⟨_, _, rfl, by rw [Rp], ih⟩
theorem rpl_of_strs (ns : List Str) : RpL G Hs (ns.map .str) (ns.map V.str) := by
  induction ns with
  | nil => rw [List.map_nil, RpL, List.map_nil]
  | cons n ns ih => rw [List.map_cons, RpL]; exact ⟨_, _, rfl, by rw [Rp], ih⟩
end

/-! subscripts, slices -/
def dIx : D → D → Option D
  | .lst xs, .int i => atI xs i
  | .tup xs, .int i => atI xs i
  | .scr ns, .int i => (atI ns i).map .int
  | .str z, .int i => if z.length ≤ LIM then (atI z.cps.toList i).map fun c => .str ⟨#[c]⟩ else none
  | _, _ => none
def cutD (xs : List D) (lo hi : Option Int) : List D := (xs.drop (HT.sIx xs.length 0 lo)).take (HT.sIx xs.length xs.length hi - HT.sIx xs.length 0 lo)
def dSl : D → Option Int → Option Int → Option D
  | .lst xs, lo, hi => some (.lst (cutD xs lo hi))
  | .tup xs, lo, hi => some (.tup (cutD xs lo hi))
  | .scr ns, lo, hi => some (.lst (cutD (ns.map .int) lo hi))
  | .str z, lo, hi => if z.length ≤ LIM then some (.str (cutS z lo hi)) else none
  | _, _, _ => none
def fNoP : En → Rs (Option Int) := fun ρ => .ok none ρ
def asI : D → Option (Option Int)
  | .int i => some (some i)
  | _ => none
def fPart (f : En → Rs D) : En → Rs (Option Int) := fun ρ => (f ρ).bind fun d ρ1 => lift (asI d) ρ1
def fSl (f : En → Rs D) (lo hi : En → Rs (Option Int)) : En → Rs D := fun ρ => (f ρ).bind fun d ρ1 => (lo ρ1).bind fun l ρ2 => (hi ρ2).bind fun h ρ3 => lift (dSl d l h) ρ3
def OO : Hp → Option Int → Option Int → Prop := fun _ x y => x = y
abbrev JP (X : Cx) (G : Glob) (a : Act) (W : WX) (e : Option Expr) (f : En → Rs (Option Int)) : Prop := PO X e (tG OO G a W f)
section
variable {X : Cx} {G : Glob} {a : Act} {W : WX} {e e1 e2 : Expr} {f f1 f2 : En → Rs D} {fl fh : En → Rs (Option Int)} {pos p2 : Pos} {lo hi : Option Expr}
theorem opd_ix : OpD G (rIx G.K) dIx := by
  intro Hs H d1 d2 d v1 v2 Q sub r1 r2 hg k
  cases d1 <;> cases d2 <;> first | (simp [dIx] at hg; done) | skip
  · rename_i z i
    simp only [dIx] at hg
    split at hg
    · rename_i hl
      cases ea : atI z.cps.toList i with
      | none => rw [ea] at hg; cases hg
      | some c =>
        rw [ea] at hg
        cases hg
        rw [Rp] at r1
        rw [Rp] at r2
        exact .inr (.inr ⟨z, i, c, r1, r2, by rw [← lim_eq]; exact hl, ea, k _ Hs H Gr.rfl (by rw [Rp])⟩)
    · cases hg
  · rename_i xs i
    simp only [dIx] at hg
    rw [Rp] at r1
    rw [Rp] at r2
    obtain ⟨p, vs, e1, q1, t1⟩ := r1
    obtain ⟨v, hv, rv⟩ := rpl_at t1 hg
    exact .inr (.inl ⟨p, vs, i, v, e1, r2, Same.tup sub q1, hv, k _ Hs H Gr.rfl rv⟩)
  · rename_i xs i
    simp only [dIx] at hg
    rw [Rp] at r1
    rw [Rp] at r2
    obtain ⟨p, vs, e1, q1, t1⟩ := r1
    obtain ⟨v, hv, rv⟩ := rpl_at t1 hg
    exact .inl ⟨p, vs, i, v, e1, r2, SqL.of (sub _ _ q1), hv, k _ Hs H Gr.rfl rv⟩
  · rename_i ns i
    simp only [dIx] at hg
    rw [Rp] at r1
    rw [Rp] at r2
    obtain ⟨p, e1, q1⟩ := r1
    cases ea : atI ns i with
    | none => rw [ea] at hg; cases hg
    | some n =>
      rw [ea] at hg
      cases hg
      refine .inl ⟨p, _, i, .int n, e1, r2, sub.seq q1, ?_, k _ Hs H Gr.rfl (by rw [Rp])⟩
      unfold atI at ea ⊢
      rw [List.length_map]
      cases q : ixN ns.length i with
      | none => rw [q] at ea; cases ea
      | some j =>
        rw [q] at ea
        show (ns.map V.int)[j]? = _
        rw [List.getElem?_map, show ns[j]? = some n from ea] <;> rfl
theorem je_ix (g : X.K = G.K) (h1 : JE X G a W e1 f1) (h2 : JE X G a W e2 f2) (hs : PlainIx e2 := by exact fun _ _ => rfl) : JE X G a W (.Subscript e1 e2 pos) (fBin dIx f1 f2) := by
  have rule : IxR X (rIx X.K) := ix_seq
  rw [g] at rule
  exact (pe_ix rule h1 h2 hs).imp (bin_imp opd_ix)
theorem jp_none : JP X G a W none fNoP := ⟨(fun pins s σ H Q I ⟨ρ, ts, Hs, S, k⟩ => po_none.run pins s σ H Q I (k none Hs H S (Same.refl _) (Kp.refl _) rfl))⟩
theorem jp_some (h : JE X G a W e f) : JP X G a W (some e) (fPart f) := by
  refine ⟨fun pins s σ H Q I ⟨ρ, ts, Hs, S, k⟩ => (po_some h).run pins s σ H Q I ⟨ρ, ts, Hs, S, (Po.bind (R := Rp G) k).mono ?_⟩⟩
  rintro x H1 ⟨d, ρ1, Hs1, S1, s1, s2, r1, k1⟩
  cases d with
  | int i =>
    rw [Rp] at r1
    exact ⟨i, r1, k1 _ Hs1 H1 S1 (Same.refl _) (Kp.refl _) rfl⟩
  | _ => exact False.elim k1
def rSlAll (K : PySem.W.Frag) : V → Option Int → Option Int → Hp → VK → Prop := fun x lo hi H Q => rSlL K x lo hi H Q ∨ (rSlA K x lo hi H Q ∨ rSlS x lo hi H Q)
theorem rpl_cut {Hs : Hp} {ds : List D} {vs : List V} (h : RpL G Hs ds vs) (l u : Option Int) : RpL G Hs (cutD ds l u) (cutV vs l u) := by
  have take : ∀ {ds : List D} {vs : List V} (n : Nat), RpL G Hs ds vs → RpL G Hs (ds.take n) (vs.take n) := by
    intro ds
    induction ds with
    | nil =>
      intro vs n h
      rw [RpL] at h
      subst h
      simp only [List.take_nil]
      rw [RpL]
    | cons d r ih =>
      intro vs n h
      rw [RpL] at h
      obtain ⟨v, rest, rfl, q, t⟩ := h
      cases n with
      | zero => simp only [List.take_zero]; rw [RpL]
      | succ n => rw [List.take_succ_cons, List.take_succ_cons, RpL]; exact ⟨_, _, rfl, q, ih n t⟩
  have drop : ∀ {ds : List D} {vs : List V} (n : Nat), RpL G Hs ds vs → RpL G Hs (ds.drop n) (vs.drop n) := by
    intro ds
    induction ds with
    | nil =>
      intro vs n h
      rw [RpL] at h
      subst h
      simp only [List.drop_nil]
      rw [RpL]
    | cons d r ih =>
      intro vs n h
      cases n with
      | zero => exact h
      | succ n =>
        rw [RpL] at h
        obtain ⟨v, rest, rfl, q, t⟩ := h
        rw [List.drop_succ_cons, List.drop_succ_cons]
        exact ih n t
  unfold cutD cutV
  rw [← rpl_length h]
  exact take _ (drop _ h)
theorem je_sl (g : X.K = G.K) (h1 : JE X G a W e f) (h2 : JP X G a W lo fl) (h3 : JP X G a W hi fh) : JE X G a W (.Subscript e (.Slice lo hi none p2) pos) (fSl f fl fh) := by
  have rule : SlR X (rSlAll X.K) := SlR.or sl_list (SlR.or sl_tupA sl_str)
  rw [g] at rule
  refine (pe_slice rule h1 h2 h3).imp fun σ H Q ⟨ρ, ts, Hs, S, k⟩ => ⟨ρ, ts, Hs, S, (Po.bind (R := Rp G) k).mono ?_⟩
  rintro x H1 ⟨d, ρ1, Hs1, S1, s1, s2, r1, k1⟩
  refine ⟨ρ1, ts, Hs1, S1, (Po.bind (R := OO) k1).mono ?_⟩
  rintro l H2 ⟨l', ρ2, Hs2, S2, s3, s4, r2, k2⟩
  cases r2
  refine ⟨ρ2, ts, Hs2, S2, (Po.bind (R := OO) k2).mono ?_⟩
  rintro u H3 ⟨u', ρ3, Hs3, S3, s5, s6, r3, k3⟩
  cases r3
  have r1' := rp_mono (s3.trans s5) _ _ r1
  cases d with
  | lst xs =>
    rw [Rp] at r1'
    obtain ⟨p, vs, e1, q1, t1⟩ := r1'
    refine .inl ⟨p, vs, e1, SqL.of (S3.sub _ _ q1), fun b hb => po_give S3 k3 rfl (Gr.mk hb) ?_⟩
    rw [Rp]
    exact ⟨b, _, rfl, upd_same, rpl_mono (Same.new (S3.sub.free hb)) _ _ (rpl_cut t1 l u)⟩
  | tup xs =>
    rw [Rp] at r1'
    obtain ⟨p, vs, e1, q1, t1⟩ := r1'
    refine .inr (.inl ⟨p, vs, e1, Same.tup S3.sub q1, fun hw => ?_, fun hw b hb => po_give S3 k3 rfl (Gr.mk hb) ?_⟩)
    · refine po_give S3 k3 rfl Gr.rfl ?_
      have e : cutD xs l u = xs := by
        unfold cutD
        rw [rpl_length t1, hw.1, hw.2, List.drop_zero, ← rpl_length t1]
        simp
      rw [e, Rp]
      exact ⟨p, vs, rfl, q1, t1⟩
    · rw [Rp]
      exact ⟨b, _, rfl, SqT.of upd_same, rpl_mono (Same.new (S3.sub.free hb)) _ _ (rpl_cut t1 l u)⟩
  | str z =>
    rw [Rp] at r1'
    by_cases hl : z.length ≤ LIM
    · have e : dSl (.str z) l u = some (.str (cutS z l u)) := if_pos hl
      rw [e] at k3
      exact .inr (.inr ⟨z, r1', by rw [← lim_eq]; exact hl, po_give S3 k3 rfl Gr.rfl (by rw [Rp])⟩)
    · have e : dSl (.str z) l u = none := if_neg hl
      rw [e] at k3
      exact False.elim k3
  | scr ns =>
    rw [Rp] at r1'
    obtain ⟨p, e1, q1⟩ := r1'
    refine .inl ⟨p, _, e1, Same.seq S3.sub q1, fun b hb => po_give S3 k3 rfl (Gr.mk hb) ?_⟩
    have t1 : ∀ ns : List Int, RpL G Hs3 (ns.map .int) (ns.map V.int) := fun ns => by
      induction ns with
      | nil => rw [List.map_nil, RpL]; rfl
      | cons n l ih =>
        rw [List.map_cons, RpL]
        exact ⟨_, _, rfl, by rw [Rp], ih⟩
    rw [Rp]
    exact ⟨b, _, rfl, upd_same, rpl_mono (Same.new (S3.sub.free hb)) _ _ (rpl_cut (t1 ns) l u)⟩
  | _ => exact False.elim k3
end

/-! built-ins by values -/
def bLen : List D → Option D
  | [.lst xs] => some (.int xs.length)
  | [.tup xs] => some (.int xs.length)
  | [.scr ns] => some (.int ns.length)
  | [.str z] => if z.length ≤ LIM then some (.int z.length) else none
  | _ => none
def bInt : List D → Option D
  | [.int i] => some (.int i)
  | [.bl k] => some (.int (if k then 1 else 0))
  | [.str z] => if z.length ≤ 640 then (PySem.intText? z).map .int else none
  | _ => none
def bStr : List D → Option D
  | [.int i] => if i.natAbs.log2 < 1920 then some (.str (toString i)) else none
  | [.str z] => some (.str z)
  | _ => none
def bAbs : List D → Option D
  | [.int i] => some (.int (if i < 0 then -i else i))
  | _ => none
def maxL : List Int → Option Int
  | [] => none
  | x :: r => some (r.foldl (fun m y => if y > m then y else m) x)
def minL : List Int → Option Int
  | [] => none
  | x :: r => some (r.foldl (fun m y => if y < m then y else m) x)
def intsD : List D → Option (List Int)
  | [] => some []
  | .int i :: r => (intsD r).map (i :: ·)
  | _ => none
def blsD : List D → Option (List Bool)
  | [] => some []
  | .bl i :: r => (blsD r).map (i :: ·)
  | _ => none
def strsD : List D → Option (List Str)
  | [] => some []
  | .str i :: r => (strsD r).map (i :: ·)
  | _ => none
def bMax : List D → Option D
  | [.int i, .int j] => some (.int (if j > i then j else i))
  | [.lst xs] => (intsD xs).bind fun ns => (maxL ns).map .int
  | _ => none
def bMin : List D → Option D
  | [.int i, .int j] => some (.int (if j < i then j else i))
  | [.lst xs] => (intsD xs).bind fun ns => (minL ns).map .int
  | _ => none
def bSum : List D → Option D
  | [.lst xs] => (intsD xs).map fun ns => .int ns.sum
  | _ => none
def bAny : List D → Option D
  | [.lst xs] => (blsD xs).map fun ns => .bl (ns.any id)
  | _ => none
def bAll : List D → Option D
  | [.lst xs] => (blsD xs).map fun ns => .bl (ns.all id)
  | _ => none
def bTuple : List D → Option D
  | [.lst xs] => some (.tup xs)
  | [.tup xs] => some (.tup xs)
  | _ => none
def bList : List D → Option D
  | [.lst xs] => some (.lst xs)
  | [.tup xs] => some (.lst xs)
  | _ => none
def bDivmod : List D → Option D
  | [.int i, .int j] => if 0 < j ∧ j < 1073741824 then some (.tup [.int (i / j), .int (i % j)]) else none
  | _ => none
theorem intsD_eq : ∀ {ds : List D} {ns : List Int}, intsD ds = some ns → ds = ns.map .int
  | [], ns, h => by cases h; rfl
  | d :: r, ns, h => by
    cases d <;> first | (simp [intsD] at h; done) | skip
    rename_i i
    have h' : (intsD r).map (i :: ·) = some ns := h
    cases e : intsD r with
    | none => rw [e] at h'; cases h'
    | some ms => rw [e] at h'; cases h'; rw [intsD_eq e, List.map_cons]
theorem blsD_eq : ∀ {ds : List D} {ns : List Bool}, blsD ds = some ns → ds = ns.map .bl
  | [], ns, h => by cases h; rfl
  | d :: r, ns, h => by
    cases d <;> first | (simp [blsD] at h; done) | skip
    rename_i i
    have h' : (blsD r).map (i :: ·) = some ns := h
    cases e : blsD r with
    | none => rw [e] at h'; cases h'
    | some ms => rw [e] at h'; cases h'; rw [blsD_eq e, List.map_cons]
theorem strsD_eq : ∀ {ds : List D} {ns : List Str}, strsD ds = some ns → ds = ns.map .str
  | [], ns, h => by cases h; rfl
  | d :: r, ns, h => by
    cases d <;> first | (simp [strsD] at h; done) | skip
    rename_i i
    have h' : (strsD r).map (i :: ·) = some ns := h
    cases e : strsD r with
    | none => rw [e] at h'; cases h'
    | some ms => rw [e] at h'; cases h'; rw [strsD_eq e, List.map_cons]
@[simp] theorem intsD_map (ns : List Int) : intsD (ns.map .int) = some ns := by
  induction ns with
  | nil => rfl
  | cons n ns ih => rw [List.map_cons, intsD, ih]; rfl
@[simp] theorem blsD_map (ns : List Bool) : blsD (ns.map .bl) = some ns := by
  induction ns with
  | nil => rfl
  | cons n ns ih => rw [List.map_cons, blsD, ih]; rfl
@[simp] theorem strsD_map (ns : List Str) : strsD (ns.map .str) = some ns := by
  induction ns with
  | nil => rfl
  | cons n ns ih => rw [List.map_cons, strsD, ih]; rfl
theorem foldmax (r : List Int) : ∀ x : Int, (r.foldl (fun m y => if y > m then y else m) x ∈ x :: r) ∧ ∀ y ∈ x :: r, y ≤ r.foldl (fun m y => if y > m then y else m) x := by
  induction r with
  | nil => intro x; simp
  | cons z r ih =>
    intro x
    rw [List.foldl_cons]
    obtain ⟨h1, h2⟩ := ih (if z > x then z else x)
    refine ⟨?_, fun y hy => ?_⟩
    · rcases List.mem_cons.mp h1 with h | h
      · rw [h]
        split <;> simp
      · simp [h]
    · have hz := h2 (if z > x then z else x) (by simp)
      rcases List.mem_cons.mp hy with rfl | hy
      · refine Int.le_trans ?_ hz
        split <;> omega
      · rcases List.mem_cons.mp hy with rfl | hy
        · refine Int.le_trans ?_ hz
          split <;> omega
        · exact h2 y (by simp [hy])
theorem foldmin (r : List Int) : ∀ x : Int, (r.foldl (fun m y => if y < m then y else m) x ∈ x :: r) ∧ ∀ y ∈ x :: r, r.foldl (fun m y => if y < m then y else m) x ≤ y := by
  induction r with
  | nil => intro x; simp
  | cons z r ih =>
    intro x
    rw [List.foldl_cons]
    obtain ⟨h1, h2⟩ := ih (if z < x then z else x)
    refine ⟨?_, fun y hy => ?_⟩
    · rcases List.mem_cons.mp h1 with h | h
      · rw [h]
        split <;> simp
      · simp [h]
    · have hz := h2 (if z < x then z else x) (by simp)
      rcases List.mem_cons.mp hy with rfl | hy
      · refine Int.le_trans hz ?_
        split <;> omega
      · rcases List.mem_cons.mp hy with rfl | hy
        · refine Int.le_trans hz ?_
          split <;> omega
        · exact h2 y (by simp [hy])

section
variable {X : Cx} {G : Glob}
theorem rpl_one {Hs : Hp} {d : D} {vs : List V} (h : RpL G Hs [d] vs) : ∃ v, vs = [v] ∧ Rp G Hs d v := by
  rw [RpL] at h
  obtain ⟨v, rest, rfl, q, t⟩ := h
  rw [RpL] at t
  subst t
  exact ⟨v, rfl, q⟩
theorem rpl_two {Hs : Hp} {d e : D} {vs : List V} (h : RpL G Hs [d, e] vs) : ∃ v w, vs = [v, w] ∧ Rp G Hs d v ∧ Rp G Hs e w := by
  rw [RpL] at h
  obtain ⟨v, rest, rfl, q, t⟩ := h
  obtain ⟨w, rfl, q2⟩ := rpl_one t
  exact ⟨v, w, rfl, q, q2⟩
def rLenA (K : PySem.W.Frag) : List V → Hp → VK → Prop := fun xs H Q => (∃ p ys, xs = [.ref p] ∧ (SqL K H p ys ∨ SqT K H p ys) ∧ Q (.int ys.length) H) ∨ ∃ z, xs = [.str z] ∧ z.length ≤ sizeLine ∧ Q (.int z.length) H
theorem call_lenA : CallR X (.builtin "len") (rLenA X.K) := CallR.or call_len_seq call_len_str
theorem cad_len : CaD G (rLenA G.K) bLen := by
  intro Hs H ds d vs Q sub r hg k
  match ds, hg with
  | [.lst xs], hg =>
    cases hg
    obtain ⟨v, rfl, q⟩ := rpl_one r
    rw [Rp] at q
    obtain ⟨p, ws, rfl, q1, t1⟩ := q
    exact .inl ⟨p, ws, rfl, .inl (SqL.of (sub _ _ q1)), k _ Hs H Gr.rfl (by rw [Rp, rpl_length t1])⟩
  | [.tup xs], hg =>
    cases hg
    obtain ⟨v, rfl, q⟩ := rpl_one r
    rw [Rp] at q
    obtain ⟨p, ws, rfl, q1, t1⟩ := q
    exact .inl ⟨p, ws, rfl, .inr (Same.tup sub q1), k _ Hs H Gr.rfl (by rw [Rp, rpl_length t1])⟩
  | [.scr ns], hg =>
    cases hg
    obtain ⟨v, rfl, q⟩ := rpl_one r
    rw [Rp] at q
    obtain ⟨p, rfl, q1⟩ := q
    exact .inl ⟨p, _, rfl, .inl (sub.seq q1), k _ Hs H Gr.rfl (by rw [Rp, List.length_map])⟩
  | [.str z], hg =>
    simp only [bLen] at hg
    split at hg
    · rename_i hl
      cases hg
      obtain ⟨v, rfl, q⟩ := rpl_one r
      rw [Rp] at q
      subst q
      exact .inr ⟨z, rfl, by rw [← lim_eq]; exact hl, k _ Hs H Gr.rfl (by rw [Rp])⟩
    · cases hg
def rIntA : List V → Hp → VK → Prop := fun xs H Q => ((∃ i, xs = [.int i] ∧ Q (.int i) H) ∨ ∃ k, xs = [.bl k] ∧ Q (.int (if k then 1 else 0)) H) ∨ ∃ a n, xs = [.str a] ∧ PySem.intText? a = some n ∧ a.length ≤ 640 ∧ Q (.int n) H
theorem call_intA : CallR X (.type "int") rIntA := CallR.or call_int1 call_int_str
theorem cad_int : CaD G rIntA bInt := by
  intro Hs H ds d vs Q sub r hg k
  match ds, hg with
  | [.int i], hg =>
    cases hg
    obtain ⟨v, rfl, q⟩ := rpl_one r
    rw [Rp] at q
    subst q
    exact .inl (.inl ⟨i, rfl, k _ Hs H Gr.rfl (by rw [Rp])⟩)
  | [.bl b], hg =>
    cases hg
    obtain ⟨v, rfl, q⟩ := rpl_one r
    rw [Rp] at q
    subst q
    exact .inl (.inr ⟨b, rfl, k _ Hs H Gr.rfl (by rw [Rp])⟩)
  | [.str z], hg =>
    simp only [bInt] at hg
    split at hg
    · rename_i hl
      obtain ⟨v, rfl, q⟩ := rpl_one r
      rw [Rp] at q
      subst q
      cases e : PySem.intText? z with
      | none => rw [e] at hg; cases hg
      | some n =>
        rw [e] at hg
        cases hg
        exact .inr ⟨z, n, rfl, e, hl, k _ Hs H Gr.rfl (by rw [Rp])⟩
    · cases hg
def rStrA : List V → Hp → VK → Prop := fun xs H Q => (∃ i, xs = [.int i] ∧ i.natAbs.log2 < 1920 ∧ Q (.str (toString i)) H) ∨ ∃ a, xs = [.str a] ∧ Q (.str a) H
theorem call_strA : CallR X (.type "str") rStrA := CallR.or call_str_int SkE.call_str_str
theorem cad_str : CaD G rStrA bStr := by
  intro Hs H ds d vs Q sub r hg k
  match ds, hg with
  | [.int i], hg =>
    simp only [bStr] at hg
    split at hg
    · rename_i hl
      cases hg
      obtain ⟨v, rfl, q⟩ := rpl_one r
      rw [Rp] at q
      subst q
      exact .inl ⟨i, rfl, hl, k _ Hs H Gr.rfl (by rw [Rp])⟩
    · cases hg
  | [.str z], hg =>
    cases hg
    obtain ⟨v, rfl, q⟩ := rpl_one r
    rw [Rp] at q
    subst q
    exact .inr ⟨z, rfl, k _ Hs H Gr.rfl (by rw [Rp])⟩
theorem cad_abs : CaD G (fun xs H Q => ∃ i, xs = [.int i] ∧ Q (.int (if i < 0 then -i else i)) H) bAbs := by
  intro Hs H ds d vs Q sub r hg k
  match ds, hg with
  | [.int i], hg =>
    cases hg
    obtain ⟨v, rfl, q⟩ := rpl_one r
    rw [Rp] at q
    subst q
    exact ⟨i, rfl, k _ Hs H Gr.rfl (by rw [Rp])⟩
def rMaxA (K : PySem.W.Frag) : List V → Hp → VK → Prop := fun xs H Q => (∃ i j, xs = [.int i, .int j] ∧ Q (.int (if j > i then j else i)) H) ∨ rMax K xs H Q
def rMinA (K : PySem.W.Frag) : List V → Hp → VK → Prop := fun xs H Q => (∃ i j, xs = [.int i, .int j] ∧ Q (.int (if j < i then j else i)) H) ∨ rMin K xs H Q
theorem call_maxA (hc : X.calm = true) : CallR X (.builtin "max") (rMaxA X.K) := CallR.or (call_max2 hc) (cr_max hc)
theorem call_minA (hc : X.calm = true) : CallR X (.builtin "min") (rMinA X.K) := CallR.or (call_min2 hc) (cr_min hc)
theorem cad_max : CaD G (rMaxA G.K) bMax := by
  intro Hs H ds d vs Q sub r hg k
  match ds, hg with
  | [.int i, .int j], hg =>
    cases hg
    obtain ⟨v, w, rfl, q, q2⟩ := rpl_two r
    rw [Rp] at q q2
    subst q q2
    exact .inl ⟨i, j, rfl, k _ Hs H Gr.rfl (by rw [Rp])⟩
  | [.lst xs], hg =>
    simp only [bMax] at hg
    cases e : intsD xs with
    | none => rw [e] at hg; cases hg
    | some ns =>
      rw [e] at hg
      obtain ⟨v, rfl, q⟩ := rpl_one r
      rw [intsD_eq e, Rp] at q
      obtain ⟨p, ws, rfl, q1, t1⟩ := q
      have ew := rpl_ints t1
      subst ew
      cases ns with
      | nil => cases hg
      | cons n ns =>
        cases hg
        obtain ⟨h1, h2⟩ := foldmax ns n
        refine .inr ⟨p, n :: ns, rfl, SqL.of (sub _ _ q1), by simp, fun m hm hle => ?_⟩
        have e2 : m = ns.foldl (fun m y => if y > m then y else m) n := Int.le_antisymm (h2 m hm) (hle _ h1)
        rw [e2]
        exact k _ Hs H Gr.rfl (by rw [Rp])
theorem cad_min : CaD G (rMinA G.K) bMin := by
  intro Hs H ds d vs Q sub r hg k
  match ds, hg with
  | [.int i, .int j], hg =>
    cases hg
    obtain ⟨v, w, rfl, q, q2⟩ := rpl_two r
    rw [Rp] at q q2
    subst q q2
    exact .inl ⟨i, j, rfl, k _ Hs H Gr.rfl (by rw [Rp])⟩
  | [.lst xs], hg =>
    simp only [bMin] at hg
    cases e : intsD xs with
    | none => rw [e] at hg; cases hg
    | some ns =>
      rw [e] at hg
      obtain ⟨v, rfl, q⟩ := rpl_one r
      rw [intsD_eq e, Rp] at q
      obtain ⟨p, ws, rfl, q1, t1⟩ := q
      have ew := rpl_ints t1
      subst ew
      cases ns with
      | nil => cases hg
      | cons n ns =>
        cases hg
        obtain ⟨h1, h2⟩ := foldmin ns n
        refine .inr ⟨p, n :: ns, rfl, SqL.of (sub _ _ q1), by simp, fun m hm hle => ?_⟩
        have e2 : m = ns.foldl (fun m y => if y < m then y else m) n := Int.le_antisymm (hle _ h1) (h2 m hm)
        rw [e2]
        exact k _ Hs H Gr.rfl (by rw [Rp])
theorem cad_sum : CaD G (rSum G.K) bSum := by
  intro Hs H ds d vs Q sub r hg k
  match ds, hg with
  | [.lst xs], hg =>
    simp only [bSum] at hg
    cases e : intsD xs with
    | none => rw [e] at hg; cases hg
    | some ns =>
      rw [e] at hg
      cases hg
      obtain ⟨v, rfl, q⟩ := rpl_one r
      rw [intsD_eq e, Rp] at q
      obtain ⟨p, ws, rfl, q1, t1⟩ := q
      have ew := rpl_ints t1
      subst ew
      exact ⟨p, ns, rfl, SqL.of (sub _ _ q1), k _ Hs H Gr.rfl (by rw [Rp])⟩
theorem cad_any : CaD G (rAny G.K) bAny := by
  intro Hs H ds d vs Q sub r hg k
  match ds, hg with
  | [.lst xs], hg =>
    simp only [bAny] at hg
    cases e : blsD xs with
    | none => rw [e] at hg; cases hg
    | some ns =>
      rw [e] at hg
      cases hg
      obtain ⟨v, rfl, q⟩ := rpl_one r
      rw [blsD_eq e, Rp] at q
      obtain ⟨p, ws, rfl, q1, t1⟩ := q
      have ew := rpl_bls t1
      subst ew
      exact ⟨p, ns, rfl, SqL.of (sub _ _ q1), k _ Hs H Gr.rfl (by rw [Rp])⟩
theorem cad_all : CaD G (rAll G.K) bAll := by
  intro Hs H ds d vs Q sub r hg k
  match ds, hg with
  | [.lst xs], hg =>
    simp only [bAll] at hg
    cases e : blsD xs with
    | none => rw [e] at hg; cases hg
    | some ns =>
      rw [e] at hg
      cases hg
      obtain ⟨v, rfl, q⟩ := rpl_one r
      rw [blsD_eq e, Rp] at q
      obtain ⟨p, ws, rfl, q1, t1⟩ := q
      have ew := rpl_bls t1
      subst ew
      exact ⟨p, ns, rfl, SqL.of (sub _ _ q1), k _ Hs H Gr.rfl (by rw [Rp])⟩
def rTupA (K : PySem.W.Frag) : List V → Hp → VK → Prop := fun xs H Q => ∃ p ys, xs = [.ref p] ∧ ((SqL K H p ys ∧ ∀ l, H l = none → Q (.ref l) (upd H l (.tup ys))) ∨ (SqT K H p ys ∧ Q (.ref p) H))
theorem cad_tuple : CaD G (rTupA G.K) bTuple := by
  intro Hs H ds d vs Q sub r hg k
  match ds, hg with
  | [.lst xs], hg =>
    cases hg
    obtain ⟨v, rfl, q⟩ := rpl_one r
    rw [Rp] at q
    obtain ⟨p, ws, rfl, q1, t1⟩ := q
    refine ⟨p, ws, rfl, .inl ⟨SqL.of (sub _ _ q1), fun l hl => k _ _ _ (Gr.mk hl) ?_⟩⟩
    rw [Rp]
    exact ⟨l, ws, rfl, SqT.of upd_same, rpl_mono (Same.new (sub.free hl)) _ _ t1⟩
  | [.tup xs], hg =>
    cases hg
    obtain ⟨v, rfl, q⟩ := rpl_one r
    have q' := q
    rw [Rp] at q'
    obtain ⟨p, ws, rfl, q1, t1⟩ := q'
    exact ⟨p, ws, rfl, .inr ⟨Same.tup sub q1, k _ Hs H Gr.rfl q⟩⟩
def rLstA (K : PySem.W.Frag) : List V → Hp → VK → Prop := fun xs H Q => ∃ p ys, xs = [.ref p] ∧ (SqL K H p ys ∨ SqT K H p ys) ∧ ∀ l, H l = none → Q (.ref l) (upd H l (.lst ys))
theorem cad_list : CaD G (rLstA G.K) bList := by
  intro Hs H ds d vs Q sub r hg k
  match ds, hg with
  | [.lst xs], hg =>
    cases hg
    obtain ⟨v, rfl, q⟩ := rpl_one r
    rw [Rp] at q
    obtain ⟨p, ws, rfl, q1, t1⟩ := q
    refine ⟨p, ws, rfl, .inl (SqL.of (sub _ _ q1)), fun l hl => k _ _ _ (Gr.mk hl) ?_⟩
    rw [Rp]
    exact ⟨l, ws, rfl, upd_same, rpl_mono (Same.new (sub.free hl)) _ _ t1⟩
  | [.tup xs], hg =>
    cases hg
    obtain ⟨v, rfl, q⟩ := rpl_one r
    rw [Rp] at q
    obtain ⟨p, ws, rfl, q1, t1⟩ := q
    refine ⟨p, ws, rfl, .inr (Same.tup sub q1), fun l hl => k _ _ _ (Gr.mk hl) ?_⟩
    rw [Rp]
    exact ⟨l, ws, rfl, upd_same, rpl_mono (Same.new (sub.free hl)) _ _ t1⟩
theorem cad_divmod : CaD G (fun xs H Q => ∃ i j, xs = [.int i, .int j] ∧ CDiv i j ∧ ∀ p, H p = none → Q (.ref p) (upd H p (.tup [.int (i / j), .int (i % j)]))) bDivmod := by
  intro Hs H ds d vs Q sub r hg k
  match ds, hg with
  | [.int i, .int j], hg =>
    simp only [bDivmod] at hg
    split at hg
    · rename_i hc
      cases hg
      obtain ⟨v, w, rfl, q, q2⟩ := rpl_two r
      rw [Rp] at q q2
      subst q q2
      refine ⟨i, j, rfl, hc, fun p hp => k _ _ _ (Gr.mk hp) ?_⟩
      rw [Rp]
      exact ⟨p, _, rfl, SqT.of upd_same, by rw [RpL]; exact ⟨_, _, rfl, by rw [Rp], by rw [RpL]; exact ⟨_, _, rfl, by rw [Rp], by rw [RpL]⟩⟩⟩
    · cases hg
end

/-! is; isinstance -/
def isNon : D → Bool
  | .non => true
  | _ => false
def dIs : D → D → Option D
  | d, .non => some (.bl (isNon d))
  | .bl a, .bl b => some (.bl (decide (a = b)))
  | _, _ => none
def dIsN : D → D → Option D
  | d, .non => some (.bl (!isNon d))
  | .bl a, .bl b => some (.bl (!decide (a = b)))
  | _, _ => none
def rIsA : R2 := fun x y H Q => (y = .non ∧ Q (.bl (decide (x = .non))) H) ∨ rIsB x y H Q
def rIsNA : R2 := fun x y H Q => (y = .non ∧ Q (.bl (!decide (x = .non))) H) ∨ rNotB x y H Q
def tyN : D → Option String
  | .non => some "NoneType"
  | .bl _ => some "bool"
  | .int _ => some "int"
  | .str _ => some "str"
  | .tup _ => some "tuple"
  | .lst _ => some "list"
  | _ => none
def tyTab : String → String → Bool
  | "bool", "int" => true
  | a, b => a == b
def isTyD (n : String) : List D → Option D
  | [d, .ty m] => if m = n then (tyN d).map fun t => .bl (tyTab t n) else none
  | _ => none
section
variable {X : Cx} {G : Glob} {Hs H : Hp}
theorem isNon_of {d : D} {v : V} (r : Rp G Hs d v) : decide (v = .non) = isNon d := by
  cases d <;> rw [Rp] at r
  case fn n xs =>
    obtain ⟨ws, q, t⟩ := r
    obtain ⟨b, rfl⟩ := G.fnrr q
    simp [isNon]
  case dct kvs =>
    obtain ⟨p, o, vs, rfl, _⟩ := r
    simp [isNon]
  case obj c xs =>
    obtain ⟨p, C, dx, vs, rfl, _⟩ := r
    simp [isNon]
  all_goals first
    | (subst r; simp [isNon]; done)
    | (obtain ⟨p, ws, rfl, _⟩ := r; simp [isNon]; done)
    | (obtain ⟨p, rfl, _⟩ := r; simp [isNon]; done)
theorem op_isA : OpR X (compareOp .Is) rIsA := OpR.or op_isN op_isBl
theorem op_isNA : OpR X (compareOp .IsNot) rIsNA := OpR.or op_notN op_notBl
end
end Lf

namespace Lf
open PySem L2 PyProof.Rows

/-! what a loop walks -/
def signsD (z : Str) : List D := z.cps.toList.map fun c => .str ⟨#[c]⟩
def dItems : D → Option (List D)
  | .lst xs => some xs
  | .tup xs => some xs
  | .str z => some (signsD z)
  | _ => none
def fItems (f : En → Rs D) : En → Rs (List D) := fun ρ => (f ρ).bind fun d ρ1 => lift (dItems d) ρ1
def rngD (lo : Int) (n : Nat) : List D := (List.range n).map fun (k : Nat) => .int (lo + (k : Int))
def gRng1 : List D → Option (List D)
  | [.int j] => if -(2 ^ 62) ≤ j ∧ j < 2 ^ 62 then some (rngD 0 j.toNat) else none
  | _ => none
def gRng2 : List D → Option (List D)
  | [.int i, .int j] => if -(2 ^ 62) ≤ i ∧ i < 2 ^ 62 ∧ -(2 ^ 62) ≤ j ∧ j < 2 ^ 62 then some (rngD i (j - i).toNat) else none
  | _ => none
def enumD : List D → Nat → List D
  | [], _ => []
  | d :: r, n => .tup [.int (n : Int), d] :: enumD r (n + 1)
def gEnum : List D → Option (List D)
  | [.lst xs] => some (enumD xs 0)
  | _ => none
def zipD : List D → List D → List D
  | d :: r, e :: q => .tup [d, e] :: zipD r q
  | _, _ => []
def gZip : List D → Option (List D)
  | [.lst xs, .lst ys] => some (zipD xs ys)
  | [.tup xs, .tup ys] => some (zipD xs ys)
  | _ => none
def gRev : List D → Option (List D)
  | [.lst xs] => some xs.reverse
  | _ => none
def fWalk (g : List D → Option (List D)) (fa : En → Rs (List D)) : En → Rs (List D) := fun ρ => (fa ρ).bind fun ds ρ1 => lift (g ds) ρ1
theorem enumD_get : ∀ (xs : List D) (n i : Nat), (enumD xs n)[i]? = (xs[i]?).map fun d => .tup [.int ((n + i : Nat) : Int), d]
  | [], n, i => by simp [enumD]
  | d :: r, n, 0 => by simp [enumD]
  | d :: r, n, i + 1 => by
    simp only [enumD, List.getElem?_cons_succ]
    rw [enumD_get r (n + 1) i]
    congr 2
    funext d
    rw [show n + 1 + i = n + (i + 1) by omega]
theorem enumD_length : ∀ (xs : List D) (n : Nat), (enumD xs n).length = xs.length
  | [], n => rfl
  | d :: r, n => by rw [enumD, List.length_cons, List.length_cons, enumD_length]
theorem zipD_get : ∀ (xs ys : List D) (i : Nat), (zipD xs ys)[i]? = (xs[i]?).bind fun d => (ys[i]?).map fun e => .tup [d, e]
  | [], ys, i => by simp [zipD]
  | d :: r, [], i => by cases h : (d :: r)[i]? <;> simp [zipD]
  | d :: r, e :: q, 0 => by simp [zipD]
  | d :: r, e :: q, i + 1 => by
    simp only [zipD, List.getElem?_cons_succ]
    exact zipD_get r q i
theorem zipD_length : ∀ (xs ys : List D), (zipD xs ys).length = min xs.length ys.length
  | [], ys => by simp [zipD]
  | d :: r, [] => by simp [zipD]
  | d :: r, e :: q => by
    rw [zipD, List.length_cons, List.length_cons, List.length_cons, zipD_length r q]
    omega

section
variable {X : Cx} {G : Glob} {a : Act} {W : WX} {tg e e1 e2 : Expr} {f f1 f2 : En → Rs D} {fa : En → Rs (List D)} {pos p tpos : Pos} {elts : List Expr} {kk : Nat}
theorem _root_.L2.PI.imp {iter : Expr} {t t' : TI} (h : PI X tg iter t) (k : ∀ σ H R, t' σ H R → t σ H R) : PI X tg iter t' := ⟨fun pins s σ H R I q => h.run pins s σ H R I (k σ H R q)⟩
theorem _root_.L2.PI.or {iter : Expr} {t t' : TI} (h : PI X tg iter t) (h' : PI X tg iter t') : PI X tg iter (fun σ H R => t σ H R ∨ t' σ H R) := ⟨fun pins s σ H R I q => q.elim (h.run pins s σ H R I) (h'.run pins s σ H R I)⟩
theorem itr_rng (lo : Int) (n : Nat) {Hs0 : Hp} : ItR G Hs0 (rngD lo n) (Itr lo n) := by
  intro Hs H i s1 s2
  unfold rngD
  refine ⟨fun e => ?_, fun d hd => ?_⟩
  · rw [List.length_map, List.length_range] at e
    show n ≤ i
    omega
  · rw [List.getElem?_map] at hd
    by_cases hi : i < n
    · rw [List.getElem?_range hi] at hd
      cases hd
      refine ⟨hi, fun x H' y => ?_⟩
      obtain ⟨e1, e2⟩ := y
      subst e1 e2
      exact ⟨Hs, Gr.rfl, by rw [Rp]⟩
    · rw [List.getElem?_eq_none (by simpa using hi)] at hd
      cases hd
theorem ji_range1 (hg : Gl X "range") (hm : X.mg "range" = none) (ha : JA X G a W [e] fa) (hs : starEach [e] X.env = [(false, eval e X.env)] := by rfl) : JI X G a W tg (.Call (.Name "range" p) [e] [] pos) (fWalk gRng1 fa) := by
  refine (pi_range1 hg hm ha hs).imp fun σ H Q ⟨ρ, ts, Hs, S, k⟩ => ⟨ρ, ts, Hs, S, (Po.bind (R := RpL G) k).mono ?_⟩
  rintro vs H1 ⟨ds, ρ1, Hs1, S1, s1, s2, r1, k1⟩
  cases hg : gRng1 ds with
  | none => rw [hg] at k1; exact False.elim k1
  | some items =>
    rw [hg] at k1
    unfold gRng1 at hg
    split at hg
    · rename_i j
      split at hg
      · rename_i hl
        cases hg
        obtain ⟨v, rfl, q⟩ := rpl_one r1
        rw [Rp] at q
        subst q
        exact ⟨j, rfl, hl.1, hl.2, k1 _ Hs1 H1 S1 (Same.refl _) (Kp.refl _) (itr_rng 0 j.toNat)⟩
      · cases hg
    · cases hg
theorem ji_range2 (hg : Gl X "range") (hm : X.mg "range" = none) (ha : JA X G a W [e, e1] fa) (hs : starEach [e, e1] X.env = [(false, eval e X.env), (false, eval e1 X.env)] := by rfl) (hs2 : starEach [e1] X.env = [(false, eval e1 X.env)] := by rfl) :
    JI X G a W tg (.Call (.Name "range" p) [e, e1] [] pos) (fWalk gRng2 fa) := by
  refine (pi_range2 hg hm ha hs hs2).imp fun σ H Q ⟨ρ, ts, Hs, S, k⟩ => ⟨ρ, ts, Hs, S, (Po.bind (R := RpL G) k).mono ?_⟩
  rintro vs H1 ⟨ds, ρ1, Hs1, S1, s1, s2, r1, k1⟩
  cases hg : gRng2 ds with
  | none => rw [hg] at k1; exact False.elim k1
  | some items =>
    rw [hg] at k1
    unfold gRng2 at hg
    split at hg
    · rename_i i j
      split at hg
      · rename_i hl
        cases hg
        obtain ⟨v, w, rfl, q, q2⟩ := rpl_two r1
        rw [Rp] at q q2
        subst q q2
        exact ⟨i, j, rfl, hl, k1 _ Hs1 H1 S1 (Same.refl _) (Kp.refl _) (itr_rng i (j - i).toNat)⟩
      · cases hg
    · cases hg
theorem itr_lst {Hs0 : Hp} {ds : List D} {p : Addr} {vs : List V} (hp : Hs0 p = some (.lst vs)) (r : RpL G Hs0 ds vs) : ItR G Hs0 ds (Itl G.K p) := by
  intro Hs H i s1 s2
  have q : SqL G.K H p vs := SqL.of (s2 _ _ (s1 _ _ hp))
  refine ⟨fun e => ⟨vs, q, by rw [e, rpl_length r]; exact Nat.le_refl _⟩, fun d hd => ?_⟩
  obtain ⟨v, hv, rv⟩ := rpl_get r hd
  refine ⟨⟨vs, v, q, hv⟩, fun x H' y => ?_⟩
  obtain ⟨e1, e2⟩ := y
  subst e1
  have := e2 vs q
  rw [hv] at this
  cases this
  exact ⟨Hs, Gr.rfl, rp_mono s1 _ _ rv⟩
theorem itr_tup {Hs0 : Hp} {ds : List D} {p : Addr} {vs : List V} (hp : SqT G.K Hs0 p vs) (r : RpL G Hs0 ds vs) : ItR G Hs0 ds (Itt G.K p) := by
  intro Hs H i s1 s2
  have q : SqT G.K H p vs := Same.tup s2 (Same.tup s1 hp)
  refine ⟨fun e => ⟨vs, q, by rw [e, rpl_length r]; exact Nat.le_refl _⟩, fun d hd => ?_⟩
  obtain ⟨v, hv, rv⟩ := rpl_get r hd
  refine ⟨⟨vs, v, q, hv⟩, fun x H' y => ?_⟩
  obtain ⟨e1, e2⟩ := y
  subst e1
  have := e2 vs q
  rw [hv] at this
  cases this
  exact ⟨Hs, Gr.rfl, rp_mono s1 _ _ rv⟩
theorem itr_str {Hs0 : Hp} (z : Str) : ItR G Hs0 (signsD z) (Its z) := by
  intro Hs H i s1 s2
  unfold signsD
  refine ⟨fun e => ?_, fun d hd => ?_⟩
  · rw [List.length_map, Array.length_toList] at e
    show z.cps.size ≤ i
    omega
  · rw [List.getElem?_map, Array.getElem?_toList] at hd
    cases hc : z.cps[i]? with
    | none => rw [hc] at hd; cases hd
    | some c =>
      rw [hc] at hd
      cases hd
      refine ⟨(Array.getElem?_eq_some_iff.mp hc).1, fun x H' y => ?_⟩
      obtain ⟨e1, c', e2, e3⟩ := y
      subst e1
      rw [hc] at e2
      cases e2
      subst e3
      exact ⟨Hs, Gr.rfl, by rw [Rp]⟩
/-- over a list, a tuple or a text -/
theorem ji_items (g : X.K = G.K) (h : JE X G a W e f) : JI X G a W tg e (fItems f) := by
  have h1 : PI X tg e (iList X.K (tG (Rp G) G a W f)) := pi_list h
  have h2 : PI X tg e (iTup X.K (tG (Rp G) G a W f)) := pi_tup h
  have h3 : PI X tg e (iStr (tG (Rp G) G a W f)) := pi_str h
  rw [g] at h1 h2
  refine (PI.or h1 (PI.or h2 h3)).imp fun σ H Q ⟨ρ, ts, Hs, S, k⟩ => ?_
  unfold fItems at k
  cases hf : f ρ with
  | bad => rw [hf] at k; exact False.elim k
  | exc ex ρ1 =>
    rw [hf] at k
    exact .inl ⟨ρ, ts, Hs, S, by rw [hf]; exact k⟩
  | ok d ρ1 =>
    rw [hf] at k
    have k' : Po (ItR G) G a W ts σ Hs H Q (lift (dItems d) ρ1) := k
    cases d with
    | lst xs =>
      refine .inl ⟨ρ, ts, Hs, S, ?_⟩
      rw [hf]
      intro v Hs1 H1 S1 t1 t2 r1
      rw [Rp] at r1
      obtain ⟨p, vs, rfl, q1, t3⟩ := r1
      exact ⟨p, rfl, ⟨vs, SqL.of (S1.sub _ _ q1)⟩, k' _ Hs1 H1 S1 t1 t2 (itr_lst q1 t3)⟩
    | tup xs =>
      refine .inr (.inl ⟨ρ, ts, Hs, S, ?_⟩)
      rw [hf]
      intro v Hs1 H1 S1 t1 t2 r1
      rw [Rp] at r1
      obtain ⟨p, vs, rfl, q1, t3⟩ := r1
      exact ⟨p, rfl, ⟨vs, Same.tup S1.sub q1⟩, k' _ Hs1 H1 S1 t1 t2 (itr_tup q1 t3)⟩
    | str z =>
      refine .inr (.inr ⟨ρ, ts, Hs, S, ?_⟩)
      rw [hf]
      intro v Hs1 H1 S1 t1 t2 r1
      rw [Rp] at r1
      exact ⟨z, r1, k' _ Hs1 H1 S1 t1 t2 (itr_str z)⟩
    | _ => exact False.elim k'
theorem ji_enum (g : X.K = G.K) (hg : Gl X "enumerate") (hm : X.mg "enumerate" = none) (ha : JA X G a W [e] fa) (hs : starEach [e] X.env = [(false, eval e X.env)] := by rfl) : JI X G a W (.Tuple elts kk tpos) (.Call (.Name "enumerate" p) [e] [] pos) (fWalk gEnum fa) := by
  have h := pi_enum (tpos := tpos) (elts := elts) (kk := kk) (p := p) (pos := pos) hg hm ha hs
  rw [g] at h
  refine h.imp fun σ H Q ⟨ρ, ts, Hs, S, k⟩ => ⟨ρ, ts, Hs, S, (Po.bind (R := RpL G) k).mono ?_⟩
  rintro vs H1 ⟨ds, ρ1, Hs1, S1, s1, s2, r1, k1⟩
  cases hg : gEnum ds with
  | none => rw [hg] at k1; exact False.elim k1
  | some items =>
    rw [hg] at k1
    unfold gEnum at hg
    split at hg
    · rename_i xs
      cases hg
      obtain ⟨v, rfl, q⟩ := rpl_one r1
      rw [Rp] at q
      obtain ⟨p, ws, rfl, q1, t1⟩ := q
      refine ⟨p, ws, rfl, SqL.of (S1.sub _ _ q1), k1 _ Hs1 H1 S1 (Same.refl _) (Kp.refl _) ?_⟩
      intro Hs H i s1 s2
      have q : SqL G.K H p ws := SqL.of (s2 _ _ (s1 _ _ q1))
      refine ⟨fun e => ⟨ws, q, by rw [e, enumD_length, rpl_length t1]; exact Nat.le_refl _⟩, fun d hd => ?_⟩
      rw [enumD_get] at hd
      cases hx : xs[i]? with
      | none => rw [hx] at hd; cases hd
      | some d0 =>
        rw [hx] at hd
        cases hd
        obtain ⟨v, hv, rv⟩ := rpl_get t1 hx
        refine ⟨⟨ws, v, q, hv⟩, fun x H' y => ?_⟩
        obtain ⟨T, x0, rfl, hT, rfl, hx0⟩ := y
        have := hx0 ws q
        rw [hv] at this
        cases this
        refine ⟨_, Gr.mk hT, ?_⟩
        have sn : Same Hs (upd Hs T (.tup [.int ((i : Nat) : Int), v])) := Same.new (s2.free hT)
        rw [Rp]
        refine ⟨T, _, rfl, SqT.of upd_same, ?_⟩
        rw [RpL]
        refine ⟨_, _, rfl, by rw [Rp]; simp, ?_⟩
        rw [RpL]
        exact ⟨_, _, rfl, rp_mono sn _ _ (rp_mono s1 _ _ rv), by rw [RpL]⟩
    · cases hg
theorem ji_zip (g : X.K = G.K) (hg : Gl X "zip") (hm : X.mg "zip" = none) (ha : JA X G a W [e, e1] fa) (hs : starEach [e, e1] X.env = (false, eval e X.env) :: starEach [e1] X.env := by rfl) (hpl : (backTo pos (starEach [e1] X.env)).any (·.1) = false := by rfl) :
    JI X G a W (.Tuple elts kk tpos) (.Call (.Name "zip" p) [e, e1] [] pos) (fWalk gZip fa) := by
  have h := RZ.pi_zipA (tpos := tpos) (elts := elts) (kk := kk) (p := p) (pos := pos) hg hm ha hs hpl
  rw [g] at h
  refine h.imp fun σ H Q ⟨ρ, ts, Hs, S, k⟩ => ⟨ρ, ts, Hs, S, (Po.bind (R := RpL G) k).mono ?_⟩
  rintro vs H1 ⟨ds, ρ1, Hs1, S1, s1, s2, r1, k1⟩
  cases hg : gZip ds with
  | none => rw [hg] at k1; exact False.elim k1
  | some items =>
    rw [hg] at k1
    unfold gZip at hg
    split at hg
    · rename_i xs ys
      cases hg
      obtain ⟨v, w, rfl, q, q'⟩ := rpl_two r1
      rw [Rp] at q q'
      obtain ⟨p, ws, rfl, q1, t1⟩ := q
      obtain ⟨p2, us, rfl, q2, t2⟩ := q'
      refine ⟨p, p2, ws, us, rfl, .inl ⟨SqL.of (S1.sub _ _ q1), SqL.of (S1.sub _ _ q2), k1 _ Hs1 H1 S1 (Same.refl _) (Kp.refl _) ?_⟩⟩
      intro Hs H i s1 s2
      have qa : SqL G.K H p ws := SqL.of (s2 _ _ (s1 _ _ q1))
      have qb : SqL G.K H p2 us := SqL.of (s2 _ _ (s1 _ _ q2))
      refine ⟨fun e => ⟨ws, us, qa, qb, by rw [e, zipD_length, rpl_length t1, rpl_length t2]; omega⟩, fun d hd => ?_⟩
      rw [zipD_get] at hd
      cases hx : xs[i]? with
      | none => rw [hx] at hd; cases hd
      | some d0 =>
        rw [hx] at hd
        cases hy : ys[i]? with
        | none => rw [hy] at hd; cases hd
        | some e0 =>
          rw [hy] at hd
          cases hd
          obtain ⟨v, hv, rv⟩ := rpl_get t1 hx
          obtain ⟨w, hw, rw'⟩ := rpl_get t2 hy
          refine ⟨⟨ws, us, v, w, qa, qb, hv, hw⟩, fun x H' y => ?_⟩
          obtain ⟨T, x0, y0, rfl, hT, rfl, hx0, hy0⟩ := y
          have z1 := hx0 ws qa
          have z2 := hy0 us qb
          rw [hv] at z1
          rw [hw] at z2
          cases z1
          cases z2
          refine ⟨_, Gr.mk hT, ?_⟩
          have sn : Same Hs (upd Hs T (.tup [v, w])) := Same.new (s2.free hT)
          rw [Rp]
          refine ⟨T, _, rfl, SqT.of upd_same, ?_⟩
          rw [RpL]
          refine ⟨_, _, rfl, rp_mono sn _ _ (rp_mono s1 _ _ rv), ?_⟩
          rw [RpL]
          exact ⟨_, _, rfl, rp_mono sn _ _ (rp_mono s1 _ _ rw'), by rw [RpL]⟩
    · rename_i xs ys
      cases hg
      obtain ⟨v, w, rfl, q, q'⟩ := rpl_two r1
      rw [Rp] at q q'
      obtain ⟨p, ws, rfl, q1, t1⟩ := q
      obtain ⟨p2, us, rfl, q2, t2⟩ := q'
      refine ⟨p, p2, ws, us, rfl, .inr ⟨Same.tup S1.sub q1, Same.tup S1.sub q2, k1 _ Hs1 H1 S1 (Same.refl _) (Kp.refl _) ?_⟩⟩
      intro Hs H i s1 s2
      have qa : SqT G.K H p ws := Same.tup s2 (Same.tup s1 q1)
      have qb : SqT G.K H p2 us := Same.tup s2 (Same.tup s1 q2)
      refine ⟨fun e => ⟨ws, us, qa, qb, by rw [e, zipD_length, rpl_length t1, rpl_length t2]; omega⟩, fun d hd => ?_⟩
      rw [zipD_get] at hd
      cases hx : xs[i]? with
      | none => rw [hx] at hd; cases hd
      | some d0 =>
        rw [hx] at hd
        cases hy : ys[i]? with
        | none => rw [hy] at hd; cases hd
        | some e0 =>
          rw [hy] at hd
          cases hd
          obtain ⟨v, hv, rv⟩ := rpl_get t1 hx
          obtain ⟨w, hw, rw'⟩ := rpl_get t2 hy
          refine ⟨⟨ws, us, v, w, qa, qb, hv, hw⟩, fun x H' y => ?_⟩
          obtain ⟨T, x0, y0, rfl, hT, rfl, hx0, hy0⟩ := y
          have z1 := hx0 ws qa
          have z2 := hy0 us qb
          rw [hv] at z1
          rw [hw] at z2
          cases z1
          cases z2
          refine ⟨_, Gr.mk hT, ?_⟩
          have sn : Same Hs (upd Hs T (.tup [v, w])) := Same.new (s2.free hT)
          rw [Rp]
          refine ⟨T, _, rfl, SqT.of upd_same, ?_⟩
          rw [RpL]
          refine ⟨_, _, rfl, rp_mono sn _ _ (rp_mono s1 _ _ rv), ?_⟩
          rw [RpL]
          exact ⟨_, _, rfl, rp_mono sn _ _ (rp_mono s1 _ _ rw'), by rw [RpL]⟩
    · cases hg
end

/-! isinstance, names of the module -/
theorem kit_tab {K : PySem.W.Frag} {t n : String} (ht : t ∈ ["NoneType", "bool", "int", "str", "tuple", "list"]) (hn : n ∈ ["int", "bool", "str", "tuple", "list"]) : PySem.W.kitOne K (.type t) (.type n) = some (tyTab t n) := by
  simp only [List.mem_cons, List.not_mem_nil, or_false] at ht hn
  rcases ht with rfl | rfl | rfl | rfl | rfl | rfl <;> rcases hn with rfl | rfl | rfl | rfl | rfl <;> exact kit_ty (by decide +kernel)
theorem tyX_of {K : PySem.W.Frag} {G : Glob} {Hs H : Hp} {d : D} {v : V} {t : String} (g : G.K = K) (sub : Same Hs H) (r : Rp G Hs d v) (h : tyN d = some t) : TyX K H v (.type t) ∧ t ∈ ["NoneType", "bool", "int", "str", "tuple", "list"] := by
  cases d <;> first | (simp [tyN] at h; done) | skip
  · cases h; rw [Rp] at r; subst r; exact ⟨.base .non, by simp⟩
  · cases h; rw [Rp] at r; subst r; exact ⟨.base (.bl _), by simp⟩
  · cases h; rw [Rp] at r; subst r; exact ⟨.base (.int _), by simp⟩
  · cases h; rw [Rp] at r; subst r; exact ⟨.base (.str _), by simp⟩
  · cases h
    rw [Rp] at r
    obtain ⟨p, vs, rfl, q, _⟩ := r
    refine ⟨?_, by simp⟩
    rw [g] at q
    rcases Same.tup sub q with (z | ⟨o, z⟩) | z
    · exact .base (.tup z)
    · exact .fTuple z
    · obtain ⟨o, its, n, z1, z2, _⟩ := z
      exact .kTuple z1 z2
  · cases h
    rw [Rp] at r
    obtain ⟨p, vs, rfl, q, _⟩ := r
    exact ⟨.base (.lst (sub _ _ q)), by simp⟩
end Lf

namespace Lf
open PySem L2 PyProof.Rows

/-! slots forgotten, slots that agree -/
def wipeE (ρ : En) : List Nat → En
  | [] => ρ
  | v :: vs => (wipeE ρ vs).set v none
theorem wipeE_length (ρ : En) : ∀ ws : List Nat, (wipeE ρ ws).length = ρ.length
  | [] => rfl
  | v :: ws => by rw [wipeE, List.length_set, wipeE_length]
theorem wipeE_get {ρ : En} : ∀ {ws : List Nat} {j : Nat}, (wipeE ρ ws)[j]? = if j ∈ ws ∧ j < ρ.length then some none else ρ[j]?
  | [], j => by simp [wipeE]
  | v :: ws, j => by
    unfold wipeE
    rw [List.getElem?_set, wipeE_length, wipeE_get]
    by_cases h : v = j
    · subst h
      by_cases h2 : v < ρ.length
      · simp [h2]
      · simp [h2]
    · rw [if_neg h]
      have e : (j ∈ v :: ws ∧ j < ρ.length) ↔ (j ∈ ws ∧ j < ρ.length) := by
        constructor
        · rintro ⟨h1, h2⟩
          exact ⟨(List.mem_cons.mp h1).resolve_left (fun z => h z.symm), h2⟩
        · rintro ⟨h1, h2⟩
          exact ⟨List.mem_cons_of_mem _ h1, h2⟩
      simp only [e]
section
variable {G : Glob} {a : Act} {W : WX} {ts : Tm} {σ σ2 : L2.St} {Hs H Hs' H' : Hp} {ρ : En}
theorem slo_agree : ∀ {ρ : En} {σ σ2 : L2.St} {f : List Addr}, SlO G H Hs ρ σ f → σ2.length = σ.length → (∀ (i : Nat) o, ρ[i]? = some (some o) → σ2[i]? = σ[i]?) → SlO G H Hs ρ σ2 f
  | [], σ, σ2, f, h, hl, k => by
    obtain ⟨rfl, rfl⟩ := h
    exact ⟨List.eq_nil_of_length_eq_zero hl, rfl⟩
  | x :: ρ, σ, σ2, f, h, hl, k => by
    obtain ⟨y, r, f1, f2, rfl, rfl, q, t⟩ := h
    cases σ2 with
    | nil => cases hl
    | cons y2 r2 =>
      refine ⟨y2, r2, f1, f2, rfl, rfl, ?_, slo_agree t (by simpa using hl) fun i o e => ?_⟩
      · cases x with
        | none => exact q
        | some o =>
          have e := k 0 o rfl
          have e2 : y2 = y := by simpa using e
          rw [e2]
          exact q
      · have e2 := k (i + 1) o (by simpa using e)
        simpa using e2
theorem slo_drop : ∀ {ρ : En} {σ : L2.St} {f : List Addr} (i : Nat), SlO G H Hs ρ σ f → ∃ f', SlO G H Hs (ρ.set i none) σ f' ∧ List.Sublist f' f
  | [], σ, f, i, h => ⟨f, h, List.Sublist.refl _⟩
  | x :: ρ, σ, f, 0, h => by
    obtain ⟨y, r, f1, f2, rfl, rfl, q, t⟩ := h
    exact ⟨f2, ⟨y, r, [], f2, rfl, rfl, rfl, t⟩, List.sublist_append_right _ _⟩
  | x :: ρ, σ, f, i + 1, h => by
    obtain ⟨y, r, f1, f2, rfl, rfl, q, t⟩ := h
    obtain ⟨f', h1, h2⟩ := slo_drop i t
    exact ⟨f1 ++ f', ⟨y, r, f1, f', rfl, rfl, q, h1⟩, List.Sublist.append_left h2 _⟩
theorem slo_wipe (h : SlO G H Hs ρ σ f) : ∀ ws : List Nat, ∃ f', SlO G H Hs (wipeE ρ ws) σ f' ∧ List.Sublist f' f
  | [] => ⟨f, h, List.Sublist.refl _⟩
  | v :: ws => by
    obtain ⟨f1, h1, s1⟩ := slo_wipe h ws
    obtain ⟨f2, h2, s2⟩ := slo_drop v h1
    exact ⟨f2, h2, s2.trans s1⟩
theorem Sta.agree (S : Sta G a ρ ts σ Hs H) (hl : σ2.length = σ.length) (k : ∀ (i : Nat) o, ρ[i]? = some (some o) → σ2[i]? = σ[i]?) (pn : σ2.take a.pv.length = a.pv.map some) : Sta G a ρ ts σ2 Hs H := by
  obtain ⟨f1, f2, h1, h2, nd, hf⟩ := S.own
  exact ⟨S.sub, S.base, S.tabs, S.stab, S.frsh, pn, f1, f2, slo_agree h1 hl k, h2, nd, hf⟩
theorem Sta.wipe (S : Sta G a ρ ts σ Hs H) (ws : List Nat) : Sta G a (wipeE ρ ws) ts σ Hs H := by
  obtain ⟨f1, f2, h1, h2, nd, hf⟩ := S.own
  obtain ⟨f', h3, s3⟩ := slo_wipe h1 ws
  refine ⟨S.sub, S.base, S.tabs, S.stab, S.frsh, S.pin, f', f2, h3, h2, nd.sublist (List.Sublist.append_right s3 _), fun b hb => hf b ?_⟩
  rcases List.mem_append.mp hb with q | q
  · exact List.mem_append_left _ (s3.subset q)
  · exact List.mem_append_right _ q
theorem take_wipe {n : Nat} {σ : L2.St} {ws : List Nat} (h : ∀ v ∈ ws, n ≤ v) : (L2.wipe σ ws).take n = σ.take n := by
  refine List.ext_getElem? fun j => ?_
  rw [List.getElem?_take, List.getElem?_take, wipe_get]
  by_cases hj : j < n
  · rw [if_pos hj, if_pos hj, if_neg (fun z => by have := h j z.1; omega)]
  · rw [if_neg hj, if_neg hj]
/-- from one set of slots to another that differs only where nothing is told -/
theorem Sta.rewipe (S : Sta G a ρ ts σ Hs H) {ws : List Nat} (h : L2.wipe σ2 ws = L2.wipe σ ws) (hp : ∀ v ∈ ws, a.pv.length ≤ v) : Sta G a (wipeE ρ ws) ts σ2 Hs H := by
  have hw := wipe_iff.mp h
  refine (S.wipe ws).agree hw.1 (fun i o e => ?_) ?_
  · refine hw.2 i fun hi => ?_
    rw [wipeE_get] at e
    by_cases hl : i < ρ.length
    · rw [if_pos ⟨hi, hl⟩] at e; cases e
    · rw [if_neg (fun z => hl z.2), List.getElem?_eq_none (by omega)] at e; cases e
  · rw [← take_wipe (ws := ws) hp, h, take_wipe hp]
    exact S.pin
/-- a write to what is owned in the hand -/
theorem Sta.wtop {p : Addr} {u : HO} {o o' : O} {v : V} (S : Sta G a ρ ((o, v) :: ts) σ Hs H) (h : ∀ g, g.Nodup → Own G H Hs o v g → p ∈ g ∧ Own G (upd H p u) Hs o' v g) : Sta G a ρ ((o', v) :: ts) σ Hs (upd H p u) := by
  obtain ⟨f1, f2, h1, h2, nd, hf⟩ := S.own
  obtain ⟨g1, g2, rfl, ow, tm⟩ := h2
  obtain ⟨hp, ow'⟩ := h g1 (by grind) ow
  have np : ∀ b ∈ f1 ++ g2, b ≠ p := fun b hb z => by subst z; grind
  refine S.go (f1 := f1) (f2 := g1 ++ g2) hf (Same.refl _) (fun b w e => ?_) (.of fun b w e hb => ?_) (tabs_upd S.tabs (own_there _ _ _ ow p hp)) (fun b w e e0 => by rw [e0] at e; cases e) S.pin f1 (g1 ++ g2) (slo_frame (Same.refl _) (fun b hb => upd_ne (np b (by simp [hb]))) h1) ⟨g1, g2, rfl, ow', tmo_frame (Same.refl _) (fun b hb => upd_ne (np b (by simp [hb]))) tm⟩ nd fun b hb => ⟨(hf b hb).1, .inr hb⟩
  · rw [upd_ne (fun z => by rw [z, (hf p (by grind)).1] at e; cases e)]
    exact S.sub b w e
  · rw [upd_ne (fun z => hb (by grind))]
    exact e
/-- a write to what is owned in a slot -/
theorem Sta.wslot {i : Nat} {p : Addr} {u : HO} {o o' : O} (S : Sta G a ρ ts σ Hs H) (e : ρ[i]? = some (some o)) (h : ∀ v g, σ[i]? = some (some v) → g.Nodup → Own G H Hs o v g → p ∈ g ∧ Own G (upd H p u) Hs o' v g) :
    Sta G a (ρ.set i (some o')) ts σ Hs (upd H p u) := by
  obtain ⟨f1, f2, h1, h2, nd, hf⟩ := S.own
  obtain ⟨x, y, q1, fo, q2, e1, e2, e3, h3, h4⟩ := slo_at i h1 (List.getElem?_eq_some_iff.mp e).1
  rw [e] at e1
  cases e1
  subst e3
  obtain ⟨v, rfl, ow⟩ := h3
  obtain ⟨hp, ow'⟩ := h v fo e2 (by grind) ow
  have np : ∀ b ∈ (q1 ++ q2) ++ f2, b ≠ p := fun b hb z => by subst z; grind
  have key := h4 (upd H p u) Hs (some o') (some v) fo (Same.refl _) (fun b hb => upd_ne (np b (by grind))) ⟨v, rfl, ow'⟩
  have es : σ.set i (some v) = σ := by
    refine List.ext_getElem? fun j => ?_
    rw [List.getElem?_set]
    by_cases hj : i = j
    · subst hj
      rw [if_pos rfl, e2, if_pos (List.getElem?_eq_some_iff.mp e2).1]
    · rw [if_neg hj]
  rw [es] at key
  refine S.go (f1 := q1 ++ (fo ++ q2)) (f2 := f2) hf (Same.refl _) (fun b w e => ?_) (.of fun b w e hb => ?_) (tabs_upd S.tabs (own_there _ _ _ ow p hp)) (fun b w e e0 => by rw [e0] at e; cases e) S.pin _ f2 key (tmo_frame (Same.refl _) (fun b hb => upd_ne (np b (by simp [hb]))) h2) nd fun b hb => ⟨(hf b hb).1, .inr hb⟩
  · rw [upd_ne (fun z => by rw [z, (hf p (by grind)).1] at e; cases e)]
    exact S.sub b w e
  · rw [upd_ne (fun z => hb (by grind))]
    exact e
theorem Sta.slotO (S : Sta G a ρ ts σ Hs H) {i : Nat} {o : O} (h : ρ[i]? = some (some o)) : ∃ v g, σ[i]? = some (some v) ∧ Own G H Hs o v g := by
  obtain ⟨g1, g2, h1, _⟩ := S.own
  obtain ⟨x, y, p, fo, q, e1, e2, _, h3, _⟩ := slo_at i h1 (List.getElem?_eq_some_iff.mp h).1
  rw [h] at e1
  cases e1
  obtain ⟨v, e, ow⟩ := h3
  exact ⟨v, fo, by rw [e2, e], ow⟩
theorem Sta.topO {o : O} {v : V} (S : Sta G a ρ ((o, v) :: ts) σ Hs H) : ∃ g, Own G H Hs o v g := by
  obtain ⟨f1, f2, h1, h2, nd, hf⟩ := S.own
  obtain ⟨g1, g2, eg, og, tg⟩ := h2
  exact ⟨g1, og⟩
/-- what is owned goes from a slot into the hand -/
theorem Sta.take (S : Sta G a ρ ts σ Hs H) {i : Nat} {o : O} (h : ρ[i]? = some (some o)) : ∃ v, σ[i]? = some (some v) ∧ Sta G a (ρ.set i none) ((o, v) :: ts) σ Hs H := by
  obtain ⟨f1, f2, h1, h2, nd, hf⟩ := S.own
  obtain ⟨x, y, p, fo, q, e1, e2, e3, h3, h4⟩ := slo_at i h1 (List.getElem?_eq_some_iff.mp h).1
  rw [h] at e1
  cases e1
  subst e3
  obtain ⟨v, rfl, ow⟩ := h3
  have key := h4 H Hs none (some v) [] (Same.refl _) (fun _ _ => rfl) rfl
  have es : σ.set i (some v) = σ := by
    refine List.ext_getElem? fun j => ?_
    rw [List.getElem?_set]
    by_cases hj : i = j
    · subst hj
      rw [if_pos rfl, e2, if_pos (List.getElem?_eq_some_iff.mp e2).1]
    · rw [if_neg hj]
  rw [es] at key
  exact ⟨v, e2, S.sub, S.base, S.tabs, S.stab, S.frsh, S.pin, _, _, key, ⟨fo, f2, rfl, ow, h2⟩, by grind, fun b hb => hf b (by grind)⟩
/-- back into the slot where it lay -/
theorem Sta.back {i : Nat} {o : O} {v : V} (S : Sta G a ρ ((o, v) :: ts) σ Hs H) (h : ρ[i]? = some none) (e2 : σ[i]? = some (some v)) : Sta G a (ρ.set i (some o)) ts σ Hs H := by
  obtain ⟨f1, f2, h1, h2, nd, hf⟩ := S.own
  obtain ⟨g1, g2, rfl, og, tg⟩ := h2
  obtain ⟨x, y, p, fo, q, e1, e3, e4, h3, h4⟩ := slo_at i h1 (List.getElem?_eq_some_iff.mp h).1
  rw [h] at e1
  cases e1
  rw [e2] at e3
  cases e3
  have e5 : fo = [] := h3
  subst e4 e5
  have key := h4 H Hs (some o) (some v) g1 (Same.refl _) (fun _ _ => rfl) ⟨v, rfl, og⟩
  have es : σ.set i (some v) = σ := by
    refine List.ext_getElem? fun j => ?_
    rw [List.getElem?_set]
    by_cases hj : i = j
    · subst hj
      rw [if_pos rfl, e2, if_pos (List.getElem?_eq_some_iff.mp e2).1]
    · rw [if_neg hj]
  rw [es] at key
  exact ⟨S.sub, S.base, S.tabs, S.stab, S.frsh, S.pin, _, _, key, tg, by grind, fun b hb => hf b (by grind)⟩
end

/-! reading what is owned: it stands for good from then on -/
def fVarF (i : Nat) : En → Rs D := fun ρ => match ρ[i]? with
  | some (some o) => .ok (fr o) (ρ.set i (some (.stb (fr o))))
  | _ => .bad
/-- it goes along: the slot is left -/
def fMov (i : Nat) : En → Rs O := fun ρ => match ρ[i]? with
  | some (some o) => .ok o (ρ.set i none)
  | _ => .bad
section
variable {X : Cx} {G : Glob} {a : Act} {W : WX} {pos : Pos}
theorem set_set_none {ρ : En} {i : Nat} {x : Option O} : (ρ.set i none).set i x = ρ.set i x := by rw [List.set_set]
theorem je_varF (i : Nat) {x : Str} (hN : X.N[i]? = some x := by rfl) (hv : Vis X.env.scope x := by first | exact Or.inl rfl | exact Or.inr (Or.inl rfl) | exact Or.inr (Or.inr rfl)) (hd : (x == ("__debug__" : Str)) = false := by decide)
    (hcd : (x == ("__classdict__" : Str)) = false := by decide) : JE X G a W (.Name x pos) (fVarF i) := by
  refine (pe_var hN hv hd hcd).imp fun σ H Q ⟨ρ, ts, Hs, S, k⟩ => ?_
  unfold fVarF at k
  cases e : ρ[i]? with
  | none => rw [e] at k; exact False.elim k
  | some x =>
    cases x with
    | none => rw [e] at k; exact False.elim k
    | some o =>
      rw [e] at k
      obtain ⟨v, hv, S1⟩ := S.take e
      obtain ⟨Hs1, t1, S2, r⟩ := S1.fr
      refine ⟨v, hv, k v Hs1 H ?_ t1 (Kp.refl _) r⟩
      have S3 := (S2.push r).back (i := i) (by simp [(List.getElem?_eq_some_iff.mp e).1]) hv
      rw [set_set_none] at S3
      exact S3
theorem jo_mov (i : Nat) {x : Str} (hN : X.N[i]? = some x := by rfl) (hv : Vis X.env.scope x := by first | exact Or.inl rfl | exact Or.inr (Or.inl rfl) | exact Or.inr (Or.inr rfl)) (hd : (x == ("__debug__" : Str)) = false := by decide)
    (hcd : (x == ("__classdict__" : Str)) = false := by decide) : JO X G a W (.Name x pos) (fMov i) := by
  refine (pe_var hN hv hd hcd).imp fun σ H Q ⟨ρ, ts, Hs, S, k⟩ => ?_
  unfold fMov at k
  cases e : ρ[i]? with
  | none => rw [e] at k; exact False.elim k
  | some x =>
    cases x with
    | none => rw [e] at k; exact False.elim k
    | some o =>
      rw [e] at k
      obtain ⟨v, hv, S1⟩ := S.take e
      exact ⟨v, hv, k v Hs H S1 (Same.refl _) (Kp.refl _)⟩
end

/-! a new list, owned -/
def gLstO (ds : List D) : Option O := if ds.length ≤ LIM then some (.lst ds) else none
def fLstO (fa : En → Rs (List D)) : En → Rs O := fun ρ => (fa ρ).bind fun ds ρ1 => lift (gLstO ds) ρ1
section
variable {X : Cx} {G : Glob} {a : Act} {W : WX} {pos : Pos} {es : List Expr} {fa : En → Rs (List D)} {ts : Tm} {σ : L2.St} {Hs H : Hp} {ρ : En}
theorem Sta.newO (S : Sta G a ρ ts σ Hs H) {p : Addr} {ds : List D} {vs : List V} (hp : H p = none) (r : RpL G Hs ds vs) : Sta G a ρ ((.lst ds, .ref p) :: ts) σ Hs (upd H p (.lst vs)) := by
  have hps : Hs p = none := S.sub.free hp
  refine S.calledO (g := [p]) (Same.refl _) (fun b u e => ?_) (Kp.new hp) (S.tabs.ext fun b u e => by rw [upd_ne (ne_of_none e hp)]; exact e) (fun b u e e0 => by rw [e0] at e; cases e) (by rw [Own]; exact ⟨p, vs, rfl, upd_same, rfl, r⟩) (by simp) (fun b hb => ?_)
  · rw [upd_ne (fun z => by rw [z, hps] at e; cases e)]
    exact S.sub b u e
  · rw [List.mem_singleton] at hb
    subst hb
    exact ⟨hps, hp⟩
theorem jo_lst (h : JA X G a W es fa) : JO X G a W (.List es pos) (fLstO fa) := by
  refine (pe_lst h).imp fun σ H Q ⟨ρ, ts, Hs, S, k⟩ => ⟨ρ, ts, Hs, S, (Po.bindO (R := RpL G) k).mono ?_⟩
  rintro x H1 ⟨ds, ρ1, Hs1, S1, s1, s2, r1, k1⟩
  by_cases hl : ds.length ≤ LIM
  · have eg : gLstO ds = some (.lst ds) := if_pos hl
    rw [eg] at k1
    refine ⟨by rw [← rpl_length r1, ← lim_eq]; exact hl, fun p hp => k1 _ Hs1 _ (S1.newO hp r1) (Same.refl _) (Kp.new hp)⟩
  · have eg : gLstO ds = none := if_neg hl
    rw [eg] at k1
    exact False.elim k1
end

/-! comprehensions -/
abbrev WF : WX := fun _ _ _ _ => False
def compL (gt : D → En → Option En) (ft : En → Rs Bool) (fe : En → Rs D) (ws : List Nat) : List D → List D → En → Rs O
  | [], acc, ρ => .ok (.lst acc) (wipeE ρ ws)
  | d :: ds, acc, ρ => match gt d (wipeE ρ ws) with
    | none => .bad
    | some ρ1 => match ft ρ1 with
      | .ok true ρ2 => (match fe ρ2 with
        | .ok x ρ3 => if acc.length < LIM then compL gt ft fe ws ds (acc ++ [x]) ρ3 else .bad
        | _ => .bad)
      | .ok false ρ2 => compL gt ft fe ws ds acc ρ2
      | _ => .bad
def fLc (fi : En → Rs (List D)) (gt : D → En → Option En) (ft : En → Rs Bool) (fe : En → Rs D) (ws : List Nat) : En → Rs O := fun ρ => (fi ρ).bind fun ds ρ1 => compL gt ft fe ws ds [] ρ1
def fYes : En → Rs Bool := fun ρ => .ok true ρ
section
variable {X : Cx} {G : Glob} {a : Act} {W : WX} {pos : Pos} {tg iter elt : Expr} {ifs : List Expr} {scope : Scope} {own : List (Str × Nat)} {fi : En → Rs (List D)} {gt : D → En → Option En} {ft : En → Rs Bool} {fe : En → Rs D} {b1 : En → Rs Bool}
abbrev JTs (X : Cx) (G : Glob) (a : Act) (W : WX) (ifs : List Expr) (f : En → Rs Bool) : Prop := PTs X ifs (tG BB G a W f)
theorem jts_nil : JTs X G a W [] fYes := ⟨fun pins s σ H Q I ⟨ρ, ts, Hs, S, k⟩ => pts_nil.run pins s σ H Q I (k true Hs H S (Same.refl _) (Kp.refl _) rfl)⟩
theorem jts_one {c : Expr} (h : JT X G a W c b1) : JTs X G a W [c] b1 := pts_one h
/-- what a comprehension walks: nothing that stands changes meanwhile -/
def ItQ (G : Glob) (Hs0 H0 : Hp) (ds : List D) (J : It) : Prop := ∀ (Hs H : Hp) (i : Nat), Same Hs0 Hs → Kp H0 H → Same Hs H →
  (i = ds.length → J.stop i H) ∧ (∀ d, ds[i]? = some d → J.go i H ∧ ∀ x H', J.yld i H x H' → ∃ Hs', Gr Hs H Hs' H' ∧ Rp G Hs' d x)
theorem lc_walk {ws : List Nat} (hp : ∀ v ∈ ws, a.pv.length ≤ v) {ts : Tm} {σ : L2.St} {Hs1 H1 : Hp} {ρ1 : En} {ds : List D} {J : It} {Q : VK} (S1 : Sta G a ρ1 ts σ Hs1 H1) (r1 : ItQ G Hs1 H1 ds J) (k1 : PoO G a W ts σ Hs1 H1 Q (compL gt ft fe ws ds [] ρ1)) :
    ∀ Dl, H1 Dl = none → ∃ Wm : Nat → Nat → Hp → Prop, (∃ m, Wm 0 m (upd H1 Dl (.lst []))) ∧ ∀ i m H, Wm i m H →
      (J.stop i H ∧ Q (.ref Dl) H) ∨ (J.go i H ∧ ∃ Nx : Hp → Prop, (∀ H', Nx H' → ∃ m', m' < m ∧ Wm (i + 1) m' H') ∧ ∀ x H', J.yld i H x H' → tT G a ws gt x (L2.wipe σ ws) H' fun σ2 H2 => L2.wipe σ2 ws = L2.wipe σ ws ∧ tG BB G a WF ft σ2 H2 fun b H3 =>
        if b = true then tG (Rp G) G a WF fe σ2 H3 fun y H4 => ∃ acc, H4 Dl = some (.lst acc) ∧ acc.length < sizeLine ∧ Nx (upd H4 Dl (.lst (acc ++ [y]))) else Nx H3) := by
  intro Dl hD
  have SD := S1.newO hD (ds := []) (vs := []) (by rw [RpL])
  refine ⟨fun i m H => m = ds.length - i ∧ i ≤ ds.length ∧ ∃ ρ Hs2 acc σ2, Sta G a ρ ((.lst acc, .ref Dl) :: ts) σ2 Hs2 H ∧ L2.wipe σ2 ws = L2.wipe σ ws ∧ Same Hs1 Hs2 ∧ Kp H1 H ∧ PoO G a W ts σ Hs1 H1 Q (compL gt ft fe ws (ds.drop i) acc ρ),
    ⟨ds.length, by simp, Nat.zero_le _, ρ1, Hs1, [], σ, SD, rfl, Same.refl _, Kp.new hD, k1⟩, ?_⟩
  rintro i m H2 ⟨rfl, hi, ρ2, Hs2, acc, σ2, S2, w2, t3, t4, k2⟩
  have fresh : ∀ {Hx : Hp}, Kp H1 Hx → ∀ {x : HO}, Kp H1 (upd Hx Dl x) := fun {Hx} s {x} b u e n => by
    have nb : b ≠ Dl := fun z => by rw [z, hD] at e; cases e
    rw [upd_ne nb]
    exact s b u e n
  by_cases hlt : i < ds.length
  · obtain ⟨go, yl⟩ := (r1 Hs2 H2 i t3 t4 S2.sub).2 ds[i] (by simp [hlt])
    refine .inr ⟨go, fun H' => ∃ ρ Hs3 acc σ3, Sta G a ρ ((.lst acc, .ref Dl) :: ts) σ3 Hs3 H' ∧ L2.wipe σ3 ws = L2.wipe σ ws ∧ Same Hs1 Hs3 ∧ Kp H1 H' ∧ PoO G a W ts σ Hs1 H1 Q (compL gt ft fe ws (ds.drop (i + 1)) acc ρ), fun H' p' => ⟨ds.length - (i + 1), by omega, rfl, hlt, p'⟩, fun x H' y => ?_⟩
    obtain ⟨Hs3, gr, rx⟩ := yl x H' y
    have S3 := gr.sta S2
    have t5 := gr.same1 S2.sub
    have t6 := gr.same2
    rw [List.drop_eq_getElem_cons hlt] at k2
    have hw : L2.wipe (L2.wipe σ ws) ws = L2.wipe σ ws := wipe_iff.mpr ⟨wipe_length _ _, fun j hj => by rw [wipe_get, if_neg (fun z => hj z.1)]⟩
    have S4 := S3.rewipe (σ2 := L2.wipe σ ws) (ws := ws) (hw.trans w2.symm) hp
    refine ⟨wipeE ρ2 ws, (.lst acc, .ref Dl) :: ts, Hs3, ds[i], S4, rx, ?_⟩
    unfold compL at k2
    cases hgt : gt ds[i] (wipeE ρ2 ws) with
    | none => simp only [hgt] at k2; exact False.elim k2
    | some ρ4 =>
      simp only [hgt] at k2
      intro σ4 Hs4 H4 S5 t7 t8 w4
      have w4' : L2.wipe σ4 ws = L2.wipe σ ws := by rw [w4, hw]
      refine ⟨w4', ρ4, (.lst acc, .ref Dl) :: ts, Hs4, S5, ?_⟩
      cases hft : ft ρ4 with
      | bad => simp only [hft] at k2; exact False.elim k2
      | exc ex ρ5 => simp only [hft] at k2; exact False.elim k2
      | ok bb ρ5 =>
        intro b5 Hs5 H5 S6 t9 t10 rb
        cases rb
        cases bb with
        | false =>
          simp only [hft] at k2
          rw [if_neg Bool.false_ne_true]
          exact ⟨ρ5, Hs5, acc, σ4, S6, w4', ((t3.trans t5).trans t7).trans t9, ((t4.trans t6).trans t8).trans t10, k2⟩
        | true =>
          simp only [hft] at k2
          rw [if_pos rfl]
          refine ⟨ρ5, (.lst acc, .ref Dl) :: ts, Hs5, S6, ?_⟩
          cases hfe : fe ρ5 with
          | bad => simp only [hfe] at k2; exact False.elim k2
          | exc ex ρ6 => simp only [hfe] at k2; exact False.elim k2
          | ok xd ρ6 =>
            simp only [hfe] at k2
            intro y6 Hs6 H6 S7 t11 t12 r6
            obtain ⟨g6, ow6⟩ := S7.topO
            rw [Own] at ow6
            obtain ⟨p6, vs6, ep, hp6, eg, rl6⟩ := ow6
            cases ep
            by_cases hl : acc.length < LIM
            · rw [if_pos hl] at k2
              refine ⟨vs6, hp6, by rw [← rpl_length rl6, ← lim_eq]; exact hl, ρ6, Hs6, acc ++ [xd], σ4, S7.wtop (fun g ng ow => ?_), w4', ((((t3.trans t5).trans t7).trans t9).trans t11), fresh ((((t4.trans t6).trans t8).trans t10).trans t12), k2⟩
              rw [Own] at ow
              obtain ⟨p7, vs7, ep7, hp7, eg7, rl7⟩ := ow
              cases ep7
              subst eg7
              rw [hp6] at hp7
              cases hp7
              refine ⟨by simp, ?_⟩
              rw [Own]
              exact ⟨Dl, _, rfl, upd_same, rfl, rpl_append rl7 (by rw [RpL]; exact ⟨_, _, rfl, r6, by rw [RpL]⟩)⟩
            · rw [if_neg hl] at k2
              exact False.elim k2
  · have e : i = ds.length := by omega
    subst e
    rw [List.drop_length] at k2
    exact .inl ⟨(r1 Hs2 H2 _ t3 t4 S2.sub).1 rfl, k2 _ Hs2 H2 (S2.rewipe w2.symm hp) t3 t4⟩
theorem lc_imp {ws : List Nat} (hp : ∀ v ∈ ws, a.pv.length ≤ v) (σ : L2.St) (H : Hp) (Q : VK) (h : tO G a W (fLc fi gt ft fe ws) σ H Q) :
    tLc (tG (ItR G) G a W fi) (tT G a ws gt) (tG BB G a WF ft) (tG (Rp G) G a WF fe) ws σ H Q := by
  obtain ⟨ρ, ts, Hs, S, k⟩ := h
  refine ⟨ρ, ts, Hs, S, (Po.bindO (R := ItR G) k).mono ?_⟩
  rintro J H1 ⟨ds, ρ1, Hs1, S1, t1, t2, r1, k1⟩
  exact lc_walk hp S1 (fun Hs H i s1 _ s3 => r1 Hs H i s1 s3) k1
theorem jo_lc (hp : ∀ v ∈ own.map (·.2), a.pv.length ≤ v) (hc : X.calm = true) (hN : X.N.Nodup) (hi : JI X G a W tg iter fi) (ok : BlkOk X.N X.env.scope scope own)
    (hg : ∀ (s : Shared) (H : Hp) (C : Addr) (cl : List (Str × Addr)) (fp : List Addr), JG (X.blk s H scope (compEnvC scope cl C X.env) fp) G a (own.map (·.2)) tg gt)
    (ht : ∀ (s : Shared) (H : Hp) (C : Addr) (cl : List (Str × Addr)) (fp : List Addr), JTs (X.blk s H scope (compEnvC scope cl C X.env) fp) G a WF ifs ft)
    (he : ∀ (s : Shared) (H : Hp) (C : Addr) (cl : List (Str × Addr)) (fp : List Addr), JE (X.blk s H scope (compEnvC scope cl C X.env) fp) G a WF elt fe)
    (hs : ∀ x, foldedSetIterable iter X.env x = pure x := by intro _; rfl) : JO X G a W (.ListComp elt [⟨tg, iter, ifs, 0⟩] scope pos) (fLc fi gt ft fe (own.map (·.2))) :=
  (pe_lc hc hN hi ok hg ht he hs).imp (lc_imp hp)
/-- y = [..] on one line -/
theorem js_setLc (i : Nat) {y : Str} {py spos : Pos} (hpi : a.pv.length ≤ i) (hp : ∀ v ∈ own.map (·.2), a.pv.length ≤ v) (hc : X.calm = true) (hN : X.N.Nodup) (hi : JI X G a W tg iter fi) (ok : BlkOk X.N X.env.scope scope own)
    (hg : ∀ (s : Shared) (H : Hp) (C : Addr) (cl : List (Str × Addr)) (fp : List Addr), JG (X.blk s H scope (compEnvC scope cl C X.env) fp) G a (own.map (·.2)) tg gt)
    (ht : ∀ (s : Shared) (H : Hp) (C : Addr) (cl : List (Str × Addr)) (fp : List Addr), JTs (X.blk s H scope (compEnvC scope cl C X.env) fp) G a WF ifs ft)
    (he : ∀ (s : Shared) (H : Hp) (C : Addr) (cl : List (Str × Addr)) (fp : List Addr), JE (X.blk s H scope (compEnvC scope cl C X.env) fp) G a WF elt fe)
    (hy : X.N[i]? = some y := by rfl) (hyl : X.env.scope.names.lookup y = some .local := by rfl)
    (hsw : swapsWith (.ListComp elt [⟨tg, iter, ifs, 0⟩] scope pos) (some (.Name y py)) spos.line X.env = pure true := by exact sw_true rfl rfl rfl (by decide +kernel))
    (hs : ∀ x, foldedSetIterable iter X.env x = pure x := by intro _; rfl) : JS X G a W (.Assign [.Name y py] (.ListComp elt [⟨tg, iter, ifs, 0⟩] scope pos) spos) (fSetO i (fLc fi gt ft fe (own.map (·.2)))) := by
  refine (ps_setLc hc hN hy hyl hsw hi ok hg ht he hs).imp fun D σ H ⟨ρ, ts, Hs, S, k⟩ => lc_imp (W := W) hp σ H _ ⟨ρ, ts, Hs, S, ?_⟩
  unfold fSetO at k
  cases hx : fLc fi gt ft fe (own.map (·.2)) ρ with
  | ok o ρ1 =>
    rw [hx] at k
    exact fun v Hs1 H1 S1 t1 t2 => k _ Hs1 H1 (S1.setO hpi) t1
  | exc ex ρ1 =>
    rw [hx] at k
    exact fun c d Hs1 H1 S1 r1 => k c d σ Hs1 H1 S1 r1
  | bad => rw [hx] at k; exact k
end
end Lf

namespace Lf
open PySem L2 PyProof.Rows

/-! expressions that change what is owned -/
def PoM (G : Glob) (a : Act) (W : WX) (ts : Tm) (σ : L2.St) (Hs : Hp) (Q : VK) : Rs O → Prop
  | .ok o ρ' => ∀ v Hs' H', Sta G a ρ' ((o, v) :: ts) σ Hs' H' → Same Hs Hs' → Q v H'
  | .exc e ρ' => ∀ c d Hs' H', Sta G a ρ' ts σ Hs' H' → ExR G Hs' e c d → W c d σ H'
  | .bad => False
def tM (G : Glob) (a : Act) (W : WX) (f : En → Rs O) : TE := fun σ H Q => ∃ ρ ts Hs, Sta G a ρ ts σ Hs H ∧ PoM G a W ts σ Hs Q (f ρ)
abbrev JM (X : Cx) (G : Glob) (a : Act) (W : WX) (e : Expr) (f : En → Rs O) : Prop := PE X e (tM G a W f)
section
variable {X : Cx} {G : Glob} {a : Act} {W : WX} {e : Expr} {fo : En → Rs O} {pos : Pos} {gt : D → En → Option En} {ws : List Nat} {tg : Expr}
theorem jm_of (h : JO X G a W e fo) : JM X G a W e fo := by
  refine h.imp fun σ H Q ⟨ρ, ts, Hs, S, k⟩ => ⟨ρ, ts, Hs, S, ?_⟩
  cases hx : fo ρ with
  | ok o ρ1 =>
    rw [hx] at k
    exact fun v Hs1 H1 S1 t1 _ => k v Hs1 H1 S1 t1
  | exc ex ρ1 => rw [hx] at k; exact k
  | bad => rw [hx] at k; exact k
theorem jm_fr (h : JM X G a W e fo) : JM X G a W e (fSt (fFr fo)) := by
  refine h.imp fun σ H Q ⟨ρ, ts, Hs, S, k⟩ => ⟨ρ, ts, Hs, S, ?_⟩
  unfold fSt fFr at k
  cases hx : fo ρ with
  | ok o ρ1 =>
    rw [hx] at k
    intro v Hs1 H1 S1 t1
    obtain ⟨Hs2, t2, S2, r⟩ := S1.fr
    exact k v Hs2 H1 (S2.push r) (t1.trans t2)
  | exc ex ρ1 => rw [hx] at k; exact k
  | bad => rw [hx] at k; exact k
def fDropO (f : En → Rs O) : En → Ro := fun ρ => (f ρ).bindS fun _ ρ1 => .nxt ρ1
def fAsgO (gt : D → En → Option En) (f : En → Rs O) : En → Ro := fAsg gt (fFr f)
theorem js_exprM (he : JM X G a W e fo) (hs : swapsWith e none pos.line X.env = pure false := by rfl) : JS X G a W (.Expr e pos) (fDropO fo) := by
  refine (ps_expr he hs).imp fun D σ H ⟨ρ, ts, Hs, S, k⟩ => ⟨ρ, ts, Hs, S, ?_⟩
  unfold fDropO at k
  cases hx : fo ρ with
  | ok o ρ1 =>
    rw [hx] at k
    exact fun v Hs1 H1 S1 t1 => k σ Hs1 H1 S1.drop t1
  | exc ex ρ1 =>
    rw [hx] at k
    exact fun c d Hs1 H1 S1 r1 => k c d σ Hs1 H1 S1 r1
  | bad => rw [hx] at k; exact k
theorem js_setM (i : Nat) {x : Str} {pos' : Pos} (hN : X.N.Nodup) (hp : a.pv.length ≤ i) (he : JM X G a W e fo) (hi : X.N[i]? = some x := by rfl) (hx : Loc X.env.scope x := by first | exact .inl rfl | exact .inr rfl) (hs : swapsWith e (some (.Name x pos')) pos.line X.env = pure false := by rfl)
    (hf : X.fn x = true ∨ X.env.scope.names.lookup x = some .local := by first | exact .inl rfl | exact .inr rfl) : JS X G a W (.Assign [.Name x pos'] e pos) (fSetO i fo) := by
  refine (ps_set hN hi hx he hs hf).imp fun D σ H ⟨ρ, ts, Hs, S, k⟩ => ⟨ρ, ts, Hs, S, ?_⟩
  unfold fSetO at k
  cases hx : fo ρ with
  | ok o ρ1 =>
    rw [hx] at k
    exact fun v Hs1 H1 S1 t1 => k _ Hs1 H1 (S1.setO hp) t1
  | exc ex ρ1 =>
    rw [hx] at k
    exact fun c d Hs1 H1 S1 r1 => k c d σ Hs1 H1 S1 r1
  | bad => rw [hx] at k; exact k
theorem js_asgM (he : JM X G a W e fo) (hg : JG X G a ws tg gt) (hs : swapsWithSole [tg] e pos.line X.env = pure false := by rfl) (hw : swappedStores [tg] e X.env = pure none := by rfl) (h1 : (assignEach [tg] X.env).map (·.2) = [assign tg X.env] := by rfl) : JS X G a W (.Assign [tg] e pos) (fAsgO gt fo) := by
  refine (ps_asg he hg hs hw h1).imp fun D σ H ⟨ρ, ts, Hs, S, k⟩ => ⟨ρ, ts, Hs, S, ?_⟩
  unfold fAsgO fAsg fFr at k
  cases hx : fo ρ with
  | ok o ρ1 =>
    rw [hx] at k
    intro v Hs1 H1 S1 t1
    obtain ⟨Hs2, t2, S2, r⟩ := S1.fr
    have k' : PoS G a W ts Hs D (match gt (fr o) ρ1 with | some ρ2 => .nxt ρ2 | none => .bad) := k
    refine ⟨ρ1, ts, Hs2, fr o, S2, r, ?_⟩
    cases hx : gt (fr o) ρ1 with
    | none => simp only [hx] at k'; exact False.elim k'
    | some ρ2 => simp only [hx] at k'; exact fun σ' Hs' H' S' t' _ _ => k' σ' Hs' H' S' ((t1.trans t2).trans t')
  | exc ex ρ1 =>
    rw [hx] at k
    exact fun c d Hs1 H1 S1 r1 => k c d σ Hs1 H1 S1 r1
  | bad => rw [hx] at k; exact k
theorem js_retM (he : JM X G a W e fo) : JS X G a W (.Return (some e) pos) (fRetO fo) := by
  refine (ps_ret he).imp fun D σ H ⟨ρ, ts, Hs, S, k⟩ => ⟨ρ, ts, Hs, S, ?_⟩
  unfold fRetO at k
  cases hx : fo ρ with
  | ok o ρ1 =>
    rw [hx] at k
    exact fun v Hs1 H1 S1 t1 => k v σ Hs1 H1 S1 t1
  | exc ex ρ1 =>
    rw [hx] at k
    exact fun c d Hs1 H1 S1 r1 => k c d σ Hs1 H1 S1 r1
  | bad => rw [hx] at k; exact k
end

/-! places: a slot, a field of the object in a slot -/
inductive Pl where
  | slot (i : Nat) | fld (i j c : Nat) | tix (pl : Pl) (j : Nat)
def getP : Pl → En → Option O
  | .slot i, ρ => (match ρ[i]? with | some (some o) => some o | _ => none)
  | .fld i j c, ρ => (match ρ[i]? with | some (some (.obj c' os)) => if c' = c then os[j]? else none | _ => none)
  | .tix pl j, ρ => (match getP pl ρ with | some (.tup os) => os[j]? | _ => none)
def setP : Pl → O → En → En
  | .slot i, o, ρ => ρ.set i (some o)
  | .fld i j _, o, ρ => (match ρ[i]? with | some (some (.obj c os)) => ρ.set i (some (.obj c (os.set j o))) | _ => ρ)
  | .tix pl j, o, ρ => (match getP pl ρ with | some (.tup os) => setP pl (.tup (os.set j o)) ρ | _ => ρ)
section
variable {G : Glob} {a : Act} {ts : Tm} {σ : L2.St} {Hs H Hs' H' : Hp} {ρ : En}
theorem ownl_at : ∀ {os : List O} {vs : List V} {f : List Addr} (i : Nat) {o : O}, OwnL G H Hs os vs f → os[i]? = some o →
    ∃ v p fo q, vs[i]? = some v ∧ f = p ++ (fo ++ q) ∧ Own G H Hs o v fo ∧ ∀ H' Hs' o' v' fo', Same Hs Hs' → (∀ b ∈ p ++ q, H' b = H b) → Own G H' Hs' o' v' fo' → OwnL G H' Hs' (os.set i o') (vs.set i v') (p ++ (fo' ++ q))
  | [], vs, f, i, o, h, e => by simp at e
  | x :: os, vs, f, 0, o, h, e => by
    rw [OwnL] at h
    obtain ⟨v, rest, f1, f2, rfl, rfl, q, t⟩ := h
    cases e
    refine ⟨v, [], f1, f2, rfl, rfl, q, fun H' Hs' o' v' fo' s k h' => ?_⟩
    rw [List.set_cons_zero, OwnL]
    exact ⟨v', rest, fo', f2, rfl, rfl, h', ownl_frame s _ _ _ (fun b hb => k b (by simpa using hb)) t⟩
  | x :: os, vs, f, i + 1, o, h, e => by
    rw [OwnL] at h
    obtain ⟨v, rest, f1, f2, rfl, rfl, q, t⟩ := h
    obtain ⟨v2, p, fo, q2, e2, e3, h1, h2⟩ := ownl_at i t (by simpa using e)
    subst e3
    refine ⟨v2, f1 ++ p, fo, q2, by simpa using e2, by simp, h1, fun H' Hs' o' v' fo' s k h' => ?_⟩
    rw [List.set_cons_succ, OwnL]
    refine ⟨v, rest.set i v', f1, p ++ (fo' ++ q2), rfl, by simp, own_frame s _ _ _ (fun b hb => k b (by simp [hb])) q, h2 H' Hs' o' v' fo' s (fun b hb => k b (by
      rcases List.mem_append.mp hb with hb | hb
      · simp [hb]
      · simp [hb])) h'⟩
theorem set_self {α : Type} {l : List α} {i : Nat} {x : α} (h : l[i]? = some x) : l.set i x = l := by
  refine List.ext_getElem? fun j => ?_
  rw [List.getElem?_set]
  by_cases hj : i = j
  · subst hj
    rw [if_pos rfl, h, if_pos (List.getElem?_eq_some_iff.mp h).1]
  · rw [if_neg hj]
/-- what stands at a place, and how it is written -/
def AtP (G : Glob) (a : Act) (ρ : En) (ts : Tm) (σ : L2.St) (Hs H : Hp) (pl : Pl) (v : V) (o : O) : Prop :=
  (∃ g, Own G H Hs o v g) ∧ ∀ p u o', (∀ g, g.Nodup → Own G H Hs o v g → p ∈ g ∧ Own G (upd H p u) Hs o' v g) → Sta G a (setP pl o' ρ) ts σ Hs (upd H p u)
/-- an expression that is a place -/
def PlOk (X : Cx) (G : Glob) (a : Act) (e : Expr) (pl : Pl) : Prop := ∃ to, PE X e to ∧ ∀ ρ ts σ Hs H o, Sta G a ρ ts σ Hs H → getP pl ρ = some o →
  ∃ v, (∀ Q : VK, Q v H → to σ H Q) ∧ ∀ ρ' ts' Hs' H' o', Kp H H' → Sta G a ρ' ts' σ Hs' H' → getP pl ρ' = some o' → AtP G a ρ' ts' σ Hs' H' pl v o'
end
theorem getP_slot {i : Nat} {ρ : En} {o : O} (h : getP (.slot i) ρ = some o) : ρ[i]? = some (some o) := by
  cases e : ρ[i]? with
  | none => simp [getP, e] at h
  | some x =>
    cases x with
    | none => simp [getP, e] at h
    | some o2 => simp only [getP, e] at h; rw [h]
theorem getP_fld {i j c : Nat} {ρ : En} {o : O} (h : getP (.fld i j c) ρ = some o) : ∃ os, ρ[i]? = some (some (.obj c os)) ∧ os[j]? = some o := by
  cases e : ρ[i]? with
  | none => simp [getP, e] at h
  | some x =>
    cases x with
    | none => simp [getP, e] at h
    | some o2 =>
      cases o2 with
      | obj c2 os =>
        simp only [getP, e] at h
        split at h
        · rename_i hc
          subst hc
          exact ⟨os, rfl, h⟩
        · cases h
      | _ => simp [getP, e] at h
section
variable {X : Cx} {G : Glob} {a : Act} {W : WX} {pos : Pos}
theorem pl_slot (i : Nat) {x : Str} (hN : X.N[i]? = some x := by rfl) (hv : Vis X.env.scope x := by first | exact Or.inl rfl | exact Or.inr (Or.inl rfl) | exact Or.inr (Or.inr rfl)) (hd : (x == ("__debug__" : Str)) = false := by decide)
    (hcd : (x == ("__classdict__" : Str)) = false := by decide) : PlOk X G a (.Name x pos) (.slot i) := by
  refine ⟨_, pe_var hN hv hd hcd, fun ρ ts σ Hs H o S e => ?_⟩
  have get : ∀ {ρ : En} {o : O}, getP (.slot i) ρ = some o → ρ[i]? = some (some o) := fun {ρ o} h => getP_slot h
  obtain ⟨v, g, hv, ow⟩ := S.slotO (get e)
  refine ⟨v, fun Q q => ⟨v, hv, q⟩, fun ρ' ts' Hs' H' o' s S' e' => ?_⟩
  obtain ⟨v', g', hv', ow'⟩ := S'.slotO (get e')
  rw [hv] at hv'
  cases hv'
  exact ⟨⟨g', ow'⟩, fun p u o'' h => S'.wslot (get e') fun v2 g2 e2 n2 ow2 => by
    rw [hv] at e2
    cases e2
    exact h g2 n2 ow2⟩
theorem lookup_zip {fs : List Str} {vs : List V} {j : Nat} {f : Str} {v : V} (nd : fs.Nodup) (hf : fs[j]? = some f) (hv : vs[j]? = some v) : (fs.zip vs).lookup f = some v := by
  induction fs generalizing vs j with
  | nil => simp at hf
  | cons f0 fs ih =>
    cases vs with
    | nil => simp at hv
    | cons v0 vs =>
      rw [List.zip_cons_cons, List.lookup_cons]
      cases j with
      | zero =>
        cases hf
        cases hv
        simp
      | succ j =>
        have hf' : fs[j]? = some f := by simpa using hf
        have hv' : vs[j]? = some v := by simpa using hv
        have hne : (f == f0) = false := by
          rw [beq_eq_false_iff_ne]
          rintro rfl
          exact (List.nodup_cons.mp nd).1 (List.mem_of_getElem? hf')
        rw [hne]
        exact ih (List.nodup_cons.mp nd).2 hf' hv'
/-- what a class must have: its fields are no names of the class, each once -/
structure FldOk (G : Glob) (K : PySem.W.Frag) (c j : Nat) (f : Str) : Prop where
  cl : ∀ C, G.cls c = some C → Cls K C ∧ NoAttr K C f
  ix : (G.flds c)[j]? = some f
  nd : (G.flds c).Nodup
theorem pl_fld (i j c : Nat) {x f : Str} {apos : Pos} (ok : FldOk G X.K c j f) (hN : X.N[i]? = some x := by rfl) (hv : Vis X.env.scope x := by first | exact Or.inl rfl | exact Or.inr (Or.inl rfl) | exact Or.inr (Or.inr rfl)) (hd : (x == ("__debug__" : Str)) = false := by decide)
    (hcd : (x == ("__classdict__" : Str)) = false := by decide) (hb : attributeBase (.Name x pos) f X.env (eval (.Name x pos) X.env) = eval (.Name x pos) X.env := by rfl) : PlOk X G a (.Attribute (.Name x pos) f apos) (.fld i j c) := by
  refine ⟨_, pe_fld (pe_var hN hv hd hcd) hb, fun ρ ts σ Hs H o S e => ?_⟩
  obtain ⟨os, e1, e2⟩ := getP_fld e
  obtain ⟨vo, g, hvo, ow⟩ := S.slotO e1
  rw [Own] at ow
  obtain ⟨p, C, dx, vs, f1, rfl, hp, hC, hl, rfl, ol⟩ := ow
  obtain ⟨v, q1, fo, q2, hv, _, _, _⟩ := ownl_at j ol e2
  obtain ⟨cl, na⟩ := ok.cl C hC
  refine ⟨v, fun Q q => ⟨.ref p, hvo, p, C, dx, _, v, rfl, hp, cl, na, lookup_zip ok.nd ok.ix hv, q⟩, fun ρ' ts' Hs' H' o' s S' e' => ?_⟩
  obtain ⟨os', e1', e2'⟩ := getP_fld e'
  obtain ⟨vo', g', hvo', ow'⟩ := S'.slotO e1'
  rw [hvo] at hvo'
  cases hvo'
  have hp' := Kp.at s hp (fun _ z => (nomatch z))
  have ow2 := ow'
  rw [Own] at ow2
  obtain ⟨p', C', dx', vs', f1', ep, hp2, hC', hl', rfl, ol'⟩ := ow2
  cases ep
  rw [hp'] at hp2
  injection hp2 with hp2
  injection hp2 with z1 z2 z3
  have lv : vs'.length = os'.length := (ownl_length ol').symm
  have lvo : vs.length = os.length := (ownl_length ol).symm
  -- the same values stand there
  have hvv : vs'[j]? = some v := by
    have h1 := lookup_zip (vs := vs) ok.nd ok.ix hv
    obtain ⟨v3, _, _, _, hv3, _⟩ := ownl_at j ol' e2'
    have h2 := lookup_zip (vs := vs') ok.nd ok.ix hv3
    rw [← z3, h1] at h2
    cases h2
    exact hv3
  obtain ⟨v3, q1', fo', q2', hv3, _, ow3, _⟩ := ownl_at j ol' e2'
  rw [hvv] at hv3
  cases hv3
  refine ⟨⟨fo', ow3⟩, fun pp u o'' h => ?_⟩
  have key := S'.wslot (p := pp) (u := u) (o' := .obj c (os'.set j o'')) e1' fun v2 g2 ev n2 ow4 => by
    rw [hvo] at ev
    cases ev
    rw [Own] at ow4
    obtain ⟨p4, C4, dx4, vs4, f4, ep4, hp4, hC4, hl4, rfl, ol4⟩ := ow4
    cases ep4
    rw [hp'] at hp4
    injection hp4 with hp4
    injection hp4 with y1 y2 y3
    have hv4 : vs4[j]? = some v := by
      have h1 := lookup_zip (vs := vs) ok.nd ok.ix hv
      obtain ⟨v5, _, _, _, hv5, _⟩ := ownl_at j ol4 e2'
      have h2 := lookup_zip (vs := vs4) ok.nd ok.ix hv5
      rw [← y3, h1] at h2
      cases h2
      exact hv5
    obtain ⟨v5, a1, a2, a3, hv5, rfl, ow5, up5⟩ := ownl_at j ol4 e2'
    rw [hv4] at hv5
    cases hv5
    obtain ⟨m1, m2⟩ := h a2 (by grind) ow5
    refine ⟨by grind, ?_⟩
    rw [Own]
    have npp : ∀ b ∈ a1 ++ a3, b ≠ pp := fun b hb z => by subst z; grind
    have nself : p ≠ pp := fun z => by subst z; grind
    have upd5 := up5 (upd H' pp u) Hs' o'' v a2 (Same.refl _) (fun b hb => upd_ne (npp b hb)) m2
    rw [set_self hv4] at upd5
    exact ⟨p, C4, dx4, vs4, a1 ++ (a2 ++ a3), rfl, by rw [upd_ne nself, hp', y1, y2, y3], hC4, by rw [List.length_set]; exact hl4, rfl, upd5⟩
  simp only [setP, e1']
  exact key
end
end Lf

namespace Lf
open PySem L2 PyProof.Rows

/-! methods of lists that are owned -/
def LmD (G : Glob) (r : V → List V → Hp → VK → Prop) (g : List D → List D → Option (List D × D)) : Prop :=
  ∀ (Hs H : Hp) (p : Addr) (xs ds xs' : List D) (vs us : List V) (d : D) (Q : VK), Same Hs H → H p = some (.lst vs) → RpL G Hs xs vs → RpL G Hs ds us → g xs ds = some (xs', d) →
    (∀ vs' v, RpL G Hs xs' vs' → Rp G Hs d v → Q v (upd H p (.lst vs'))) → r (.ref p) us H Q
def mApp : List D → List D → Option (List D × D)
  | xs, [d] => if xs.length < LIM then some (xs ++ [d], .non) else none
  | _, _ => none
def mExt : List D → List D → Option (List D × D)
  | xs, [.lst ds] => if xs.length + ds.length ≤ LIM then some (xs ++ ds, .non) else none
  | _, _ => none
def mPop : List D → List D → Option (List D × D)
  | xs, [] => (xs[xs.length - 1]?).map fun d => (xs.dropLast, d)
  | _, _ => none
def mRev : List D → List D → Option (List D × D)
  | xs, [] => some (xs.reverse, .non)
  | _, _ => none
def mClr : List D → List D → Option (List D × D)
  | _, [] => some ([], .non)
  | _, _ => none
section
variable {G : Glob}
theorem rpl_dropLast {Hs : Hp} {ds : List D} {vs : List V} (h : RpL G Hs ds vs) : RpL G Hs ds.dropLast vs.dropLast := by
  induction ds generalizing vs with
  | nil =>
    rw [RpL] at h
    subst h
    rw [List.dropLast_nil, RpL, List.dropLast_nil]
  | cons d r ih =>
    rw [RpL] at h
    obtain ⟨v, rest, rfl, q, t⟩ := h
    cases r with
    | nil =>
      rw [RpL] at t
      subst t
      show RpL G Hs [] []
      rw [RpL]
    | cons d2 r2 =>
      cases rest with
      | nil => rw [RpL] at t; obtain ⟨_, _, z, _⟩ := t; cases z
      | cons v2 rest2 =>
        show RpL G Hs (d :: (d2 :: r2).dropLast) (v :: (v2 :: rest2).dropLast)
        rw [RpL]
        exact ⟨v, _, rfl, q, ih t⟩
theorem rpl_reverse {Hs : Hp} {ds : List D} {vs : List V} (h : RpL G Hs ds vs) : RpL G Hs ds.reverse vs.reverse := by
  induction ds generalizing vs with
  | nil =>
    rw [RpL] at h
    subst h
    rw [List.reverse_nil, RpL, List.reverse_nil]
  | cons d r ih =>
    rw [RpL] at h
    obtain ⟨v, rest, rfl, q, t⟩ := h
    rw [List.reverse_cons, List.reverse_cons]
    exact rpl_append (ih t) (by rw [RpL]; exact ⟨_, _, rfl, q, by rw [RpL]⟩)
theorem lmd_app : LmD G rAppend mApp := by
  intro Hs H p xs ds xs' vs us d Q sub hp r1 r2 hg k
  unfold mApp at hg
  split at hg
  · split at hg
    · rename_i hl
      cases hg
      obtain ⟨v, rfl, q⟩ := rpl_one r2
      exact ⟨p, vs, v, rfl, rfl, hp, by rw [← rpl_length r1, ← lim_eq]; exact hl, k _ _ (rpl_append r1 r2) (by rw [Rp])⟩
    · cases hg
  · cases hg
theorem lmd_ext : LmD G rExtend mExt := by
  intro Hs H p xs ds xs' vs us d Q sub hp r1 r2 hg k
  unfold mExt at hg
  split at hg
  · split at hg
    · rename_i hl
      cases hg
      obtain ⟨v, rfl, q⟩ := rpl_one r2
      rw [Rp] at q
      obtain ⟨b, ws, rfl, q1, t1⟩ := q
      exact ⟨p, b, vs, ws, rfl, rfl, hp, sub _ _ q1, by rw [← rpl_length r1, ← rpl_length t1, ← lim_eq]; exact hl, k _ _ (rpl_append r1 t1) (by rw [Rp])⟩
    · cases hg
  · cases hg
theorem lmd_pop : LmD G rPop mPop := by
  intro Hs H p xs ds xs' vs us d Q sub hp r1 r2 hg k
  unfold mPop at hg
  split at hg
  · cases e : xs[xs.length - 1]? with
    | none => rw [e] at hg; cases hg
    | some y =>
      rw [e] at hg
      cases hg
      rw [RpL] at r2
      subst r2
      obtain ⟨v, hv, rv⟩ := rpl_get r1 e
      exact ⟨p, vs, v, rfl, rfl, hp, by rw [← rpl_length r1]; exact hv, k _ _ (rpl_dropLast r1) rv⟩
  · cases hg
theorem lmd_rev : LmD G rReverse mRev := by
  intro Hs H p xs ds xs' vs us d Q sub hp r1 r2 hg k
  unfold mRev at hg
  split at hg
  · cases hg
    rw [RpL] at r2
    subst r2
    exact ⟨p, vs, rfl, rfl, hp, k _ _ (rpl_reverse r1) (by rw [Rp])⟩
  · cases hg
theorem lmd_clr : LmD G rClear mClr := by
  intro Hs H p xs ds xs' vs us d Q sub hp r1 r2 hg k
  unfold mClr at hg
  split at hg
  · cases hg
    rw [RpL] at r2
    subst r2
    exact ⟨p, vs, rfl, rfl, hp, k _ _ (by rw [RpL]) (by rw [Rp])⟩
  · cases hg
end
def fLm (pl : Pl) (g : List D → List D → Option (List D × D)) (fa : En → Rs (List D)) : En → Rs O := fun ρ => match getP pl ρ with
  | some (.lst _) => (fa ρ).bind fun ds ρ1 => match getP pl ρ1 with
    | some (.lst xs) => (match g xs ds with
      | some (xs', d) => .ok (.stb d) (setP pl (.lst xs') ρ1)
      | none => .bad)
    | _ => .bad
  | _ => .bad
def fSetIx (pl : Pl) (fi fv : En → Rs D) : En → Ro := fun ρ => (fv ρ).bindS fun d ρ1 => match getP pl ρ1 with
  | some (.lst _) => (fi ρ1).bindS fun i ρ2 => match getP pl ρ2, i with
    | some (.lst xs), .int k => (match ixN xs.length k with
      | some j => .nxt (setP pl (.lst (xs.set j d)) ρ2)
      | none => .bad)
    | _, _ => .bad
  | _ => .bad
def scalR : D → Bool
  | .non => true | .bl _ => true | .int _ => true | .str _ => true
  | _ => false
def liftS (x : Option D) (ρ : En) : Rs D := match x with
  | some d => if scalR d = true then .ok d ρ else .bad
  | none => .bad
def fCallP (pl : Pl) (g : List D → Option D) : En → Rs D := fun ρ => match getP pl ρ with
  | some o => liftS (g [fr o]) ρ
  | none => .bad
def fBinR (g : D → D → Option D) (f1 : En → Rs D) (pl : Pl) : En → Rs D := fun ρ => (f1 ρ).bind fun d1 ρ1 => match getP pl ρ1 with
  | some o => liftS (g d1 (fr o)) ρ1
  | none => .bad
def fBinL (g : D → D → Option D) (pl : Pl) (f2 : En → Rs D) : En → Rs D := fun ρ => match getP pl ρ with
  | some _ => (f2 ρ).bind fun d2 ρ1 => (match getP pl ρ1 with
    | some o => liftS (g (fr o) d2) ρ1
    | none => .bad)
  | none => .bad
def fIxP (pl : Pl) (f2 : En → Rs D) : En → Rs D := fun ρ => match getP pl ρ with
  | some _ => (f2 ρ).bind fun d2 ρ1 => (match getP pl ρ1, d2 with
    | some (.lst xs), .int i => lift (atI xs i) ρ1
    | some (.lsl xs), .int i => (match atI xs i with | some (.stb d) => .ok d ρ1 | _ => .bad)
    | some (.stb d1), d2 => lift (dIx d1 d2) ρ1
    | _, _ => .bad)
  | none => .bad
def fCopyP (pl : Pl) (g : List D → Option D) : En → Rs D := fun ρ => match getP pl ρ with
  | some (.lst xs) => lift (g [.lst xs]) ρ
  | some (.stb d) => lift (g [d]) ρ
  | _ => .bad
def fLcP (pl : Pl) (gt : D → En → Option En) (ft : En → Rs Bool) (fe : En → Rs D) (ws : List Nat) : En → Rs O := fun ρ => match getP pl ρ with
  | some (.lst xs) => compL gt ft fe ws xs [] ρ
  | some (.stb (.lst xs)) => compL gt ft fe ws xs [] ρ
  | _ => .bad

section
variable {X : Cx} {G : Glob} {a : Act} {W : WX} {e e1 e2 : Expr} {f f1 f2 fi fv : En → Rs D} {fa : En → Rs (List D)} {pos apos cpos p2 tpos : Pos} {es : List Expr} {pl : Pl} {g : List D → List D → Option (List D × D)} {id : String} {name : Str} {r : V → List V → Hp → VK → Prop}
theorem rp_scal {H Hs : Hp} {d : D} {v : V} (s : scalR d = true) (h : Rp G H d v) : Rp G Hs d v := by
  cases d <;> first | (simp [scalR] at s; done) | (rw [Rp] at h ⊢; exact h)
theorem AtP.rp {ρ : En} {ts : Tm} {σ : L2.St} {Hs H : Hp} {v : V} {o : O} (S : Sta G a ρ ts σ Hs H) (h : AtP G a ρ ts σ Hs H pl v o) : Rp G H (fr o) v := by
  obtain ⟨⟨g, ow⟩, _⟩ := h
  exact own_fr S.sub o v g (fun _ _ => rfl) ow
theorem jm_lm (pk : PlOk X G a e pl) (hr : LmD G r g) (gk : X.K = G.K) (pa : PlainAttrs "list") (slot : Slot "list" name id) (hty : typeOf (.builtin id) = pure (.type "method_descriptor")) (hm : MtR X id r) (ha : JA X G a W (e1 :: es) fa)
    (hb : attributeBase e name X.env (eval e X.env) = eval e X.env := by rfl)
    (hfew : ((backTo cpos (starEach (e1 :: es) X.env)).all (fun x => !x.1) && (backToKw cpos (keywordEach [] X.env)).all (fun x => x.1.isSome) && decide ((e1 :: es).length + ([] : List Keyword).length + (if ([] : List Keyword).isEmpty then 0 else 1) < 30)) = true := by rfl)
    (hl : (apos.endLine == cpos.line) = true := by rfl) (hs : starEach (e1 :: es) X.env = (false, eval e1 X.env) :: starEach es X.env := by rfl) (hpl : (backTo cpos (starEach es X.env)).any (·.1) = false := by rfl) :
    JM X G a W (.Call (.Attribute e name apos) (e1 :: es) [] cpos) (fLm pl g fa) := by
  obtain ⟨to, ho, hat⟩ := pk
  refine (pe_bm pa slot hty hm ho ha hb hfew hl hs hpl).imp fun σ H Q ⟨ρ, ts, Hs, S, k⟩ => ?_
  unfold fLm at k
  cases hg : getP pl ρ with
  | none => rw [hg] at k; exact False.elim k
  | some o =>
    cases o with
    | lst xs0 =>
      rw [hg] at k
      obtain ⟨v, hv, later⟩ := hat ρ ts σ Hs H _ S hg
      obtain ⟨⟨g0, ow0⟩, _⟩ := later ρ ts Hs H _ (Kp.refl _) S hg
      rw [Own] at ow0
      obtain ⟨p, vs0, rfl, hp0, _, _⟩ := ow0
      refine hv _ ⟨.inl ⟨rfl, vs0, SqL.of hp0⟩, ρ, ts, Hs, S, ?_⟩
      have k' : PoM G a W ts σ Hs Q ((fa ρ).bind fun ds ρ1 => match getP pl ρ1 with
        | some (.lst xs) => (match g xs ds with | some (xs', d) => .ok (.stb d) (setP pl (.lst xs') ρ1) | none => .bad)
        | _ => .bad) := k
      cases hfa : fa ρ with
      | bad => rw [hfa] at k'; exact False.elim k'
      | exc ex ρ1 => rw [hfa] at k'; exact k'
      | ok ds ρ1 =>
        rw [hfa] at k'
        intro us Hs1 H1 S1 t1 t2 r1
        have k2 : PoM G a W ts σ Hs Q (match getP pl ρ1 with
          | some (.lst xs) => (match g xs ds with | some (xs', d) => .ok (.stb d) (setP pl (.lst xs') ρ1) | none => .bad)
          | _ => .bad) := k'
        cases hg1 : getP pl ρ1 with
        | none => rw [hg1] at k2; exact False.elim k2
        | some o1 =>
          cases o1 with
          | lst xs =>
            rw [hg1] at k2
            obtain ⟨⟨g1, ow1⟩, up⟩ := later ρ1 ts Hs1 H1 _ t2 S1 hg1
            rw [Own] at ow1
            obtain ⟨p1, vs1, ep, hp1, _, rl1⟩ := ow1
            cases ep
            cases hgg : g xs ds with
            | none => simp only [hgg] at k2; exact False.elim k2
            | some res =>
              obtain ⟨xs', d⟩ := res
              simp only [hgg] at k2
              refine hr Hs1 H1 p xs ds xs' vs1 us d Q S1.sub hp1 rl1 r1 hgg fun vs' w rl' rd' => ?_
              have S2 := up p (.lst vs') (.lst xs') fun g2 n2 ow2 => by
                rw [Own] at ow2
                obtain ⟨p2, vs2, ep2, hp2, eg2, _⟩ := ow2
                cases ep2
                subst eg2
                refine ⟨by simp, ?_⟩
                rw [Own]
                exact ⟨p, vs', rfl, upd_same, rfl, rl'⟩
              exact k2 w Hs1 _ (S2.push rd') t1
          | _ => rw [hg1] at k2; exact False.elim k2
    | _ => rw [hg] at k; exact False.elim k
theorem jm_lm0 (pk : PlOk X G a e pl) (hr : LmD G r g) (pa : PlainAttrs "list") (slot : Slot "list" name id) (hty : typeOf (.builtin id) = pure (.type "method_descriptor")) (hm : MtR X id r)
    (hb : attributeBase e name X.env (eval e X.env) = eval e X.env := by rfl) (hl : (apos.endLine == cpos.line) = true := by rfl) :
    JM X G a W (.Call (.Attribute e name apos) [] [] cpos) (fLm pl g fNil) := by
  obtain ⟨to, ho, hat⟩ := pk
  refine (pe_bm0 pa slot hty hm ho hb hl).imp fun σ H Q ⟨ρ, ts, Hs, S, k⟩ => ?_
  unfold fLm at k
  cases hg : getP pl ρ with
  | none => rw [hg] at k; exact False.elim k
  | some o =>
    cases o with
    | lst xs =>
      have k2 : PoM G a W ts σ Hs Q (match getP pl ρ with
        | some (.lst xs) => (match g xs [] with | some (xs', d) => .ok (.stb d) (setP pl (.lst xs') ρ) | none => .bad)
        | _ => .bad) := by rw [hg] at k; exact k
      rw [hg] at k2
      obtain ⟨v, hv, later⟩ := hat ρ ts σ Hs H _ S hg
      obtain ⟨⟨g1, ow1⟩, up⟩ := later ρ ts Hs H _ (Kp.refl _) S hg
      rw [Own] at ow1
      obtain ⟨p, vs1, rfl, hp1, _, rl1⟩ := ow1
      refine hv _ ⟨.inl ⟨rfl, vs1, SqL.of hp1⟩, ?_⟩
      cases hgg : g xs [] with
      | none => simp only [hgg] at k2; exact False.elim k2
      | some res =>
        obtain ⟨xs', d⟩ := res
        simp only [hgg] at k2
        refine hr Hs H p xs [] xs' vs1 [] d Q S.sub hp1 rl1 (by rw [RpL]) hgg fun vs' w rl' rd' => ?_
        have S2 := up p (.lst vs') (.lst xs') fun g2 n2 ow2 => by
          rw [Own] at ow2
          obtain ⟨p2, vs2, ep2, hp2, eg2, _⟩ := ow2
          cases ep2
          subst eg2
          refine ⟨by simp, ?_⟩
          rw [Own]
          exact ⟨p, vs', rfl, upd_same, rfl, rl'⟩
        exact k2 w Hs _ (S2.push rd') (Same.refl _)
    | _ => rw [hg] at k; exact False.elim k
end
end Lf

namespace Lf
open PySem L2 PyProof.Rows

/-! in -/
def flatD : D → Bool
  | .non => true | .bl _ => true | .int _ => true | .str _ => true
  | _ => false
def inB (d : D) : D → Option Bool
  | .str y => (match d with
    | .str x => some (!(Builtin.Str.occurrences y x 0 y.length 1).isEmpty)
    | _ => none)
  | .tup ds => if flatD d && ds.all flatD then some (ds.any fun z => deq z d) else none
  | .lst ds => if okD 59 d && okL 59 ds then some (ds.any fun z => deq z d) else none
  | _ => none
def dIn (d e : D) : Option D := (inB d e).map .bl
def dNotIn (d e : D) : Option D := (inB d e).map fun b => .bl (!b)
def rInA (K : PySem.W.Frag) : R2 := fun x y H Q => (∃ i j, x = .str i ∧ y = .str j ∧ Q (.bl (!(Builtin.Str.occurrences j i 0 j.length 1).isEmpty)) H) ∨ (rIn K false x y H Q ∨ rInD K x y H Q)
def rNotInA (K : PySem.W.Frag) : R2 := fun x y H Q => (∃ i j, x = .str i ∧ y = .str j ∧ Q (.bl (!(!(Builtin.Str.occurrences j i 0 j.length 1).isEmpty))) H) ∨ (rIn K true x y H Q ∨ rNotInD K x y H Q)
section
variable {X : Cx} {G : Glob}
theorem op_inA (hu : X.A.units + 65 < cLine) : OpR X (compareOp .In) (rInA X.K) := OpR.or op_in_str (OpR.or op_in_seq (op_inD hu))
theorem op_notInA (hu : X.A.units + 65 < cLine) : OpR X (compareOp .NotIn) (rNotInA X.K) := OpR.or L2.op_notIn_str (OpR.or op_notIn_seq (op_notInD hu))
theorem flat_v {Hs : Hp} {d : D} {v : V} (h : flatD d = true) (r : Rp G Hs d v) : flatV v = true := by
  cases d <;> first | (simp [flatD] at h; done) | (rw [Rp] at r; subst r; rfl)
theorem flat_eq {Hs : Hp} {d e : D} {v w : V} (h : flatD d = true) (h2 : flatD e = true) (r : Rp G Hs d v) (r2 : Rp G Hs e w) : eqV v w = deq d e := by
  cases d <;> first | (simp [flatD] at h; done) | skip
  all_goals
    cases e <;> first | (simp [flatD] at h2; done) | skip
    all_goals
      rw [Rp] at r
      rw [Rp] at r2
      subst r r2
      simp only [eqV, deq]
theorem flat_all {Hs : Hp} : ∀ {ds : List D} {vs : List V}, ds.all flatD = true → RpL G Hs ds vs → vs.all flatV = true
  | [], vs, h, r => by rw [RpL] at r; subst r; rfl
  | d :: ds, vs, h, r => by
    rw [RpL] at r
    obtain ⟨v, rest, rfl, q, t⟩ := r
    rw [List.all_cons, Bool.and_eq_true] at h ⊢
    exact ⟨flat_v h.1 q, flat_all h.2 t⟩
theorem inV_eq {Hs : Hp} {e : D} {w : V} (h2 : flatD e = true) (r2 : Rp G Hs e w) : ∀ {ds : List D} {vs : List V}, ds.all flatD = true → RpL G Hs ds vs → inV w vs = ds.any fun z => deq z e
  | [], vs, h, r => by rw [RpL] at r; subst r; rfl
  | d :: ds, vs, h, r => by
    rw [RpL] at r
    obtain ⟨v, rest, rfl, q, t⟩ := r
    rw [List.all_cons, Bool.and_eq_true] at h
    have ih := inV_eq h2 r2 h.2 t
    unfold inV at ih ⊢
    rw [List.any_cons, List.any_cons, ih, flat_eq h.1 h2 q r2]
theorem any_eqv {e : D} (he : okD 59 e = true) : ∀ {ds : List D}, okL 59 ds = true → ((toPs ds).any fun z => PyData.eqv z (toP e)) = ds.any fun z => deq z e
  | [], h => rfl
  | d :: ds, h => by
    have h' : okD 59 d = true ∧ okL 59 ds = true := by simpa only [okL, Bool.and_eq_true] using h
    rw [toPs, List.any_cons, List.any_cons, any_eqv he h'.2, eqv_deq d e 59 59 h'.1 he]
theorem in_any {d e : D} {b : Bool} {Hs H : Hp} {v w : V} {Q : Bool → Prop} (sub : Same Hs H) (r1 : Rp G Hs d v) (r2 : Rp G Hs e w) (h : inB d e = some b) (k : Q b) :
    (∃ i j, v = .str i ∧ w = .str j ∧ Q (!(Builtin.Str.occurrences j i 0 j.length 1).isEmpty)) ∨
    ((∃ p xs, w = .ref p ∧ (SqL G.K H p xs ∨ SqT G.K H p xs) ∧ flatV v = true ∧ xs.all flatV = true ∧ Q (inV v xs)) ∨
     (∃ d' ds, Dp G.K H v d' ∧ Dp G.K H w (.list ds) ∧ SeqAt.shaped d' = true ∧ SeqAt.shaped (.list ds) = true ∧ Q (ds.any fun z => PyData.eqv z d'))) := by
  cases e <;> first | (simp [inB] at h; done) | skip
  · rename_i y
    cases d <;> first | (simp [inB] at h; done) | skip
    rename_i x
    simp only [inB, Option.some.injEq] at h
    subst h
    rw [Rp] at r1 r2
    exact .inl ⟨x, y, r1, r2, k⟩
  · rename_i ds
    simp only [inB] at h
    split at h
    · rename_i hc
      rw [Bool.and_eq_true] at hc
      cases h
      rw [Rp] at r2
      obtain ⟨p, vs, rfl, q, t⟩ := r2
      refine .inr (.inl ⟨p, vs, rfl, .inr (Same.tup sub q), flat_v hc.1 r1, flat_all hc.2 t, ?_⟩)
      rw [inV_eq hc.1 r1 hc.2 t]
      exact k
    · cases h
  · rename_i ds
    simp only [inB] at h
    split at h
    · rename_i hc
      rw [Bool.and_eq_true] at hc
      cases h
      rw [Rp] at r2
      obtain ⟨p, vs, rfl, q, t⟩ := r2
      have o1 := okD_fit d 59 hc.1
      have o2 := okL_fit ds 59 hc.2
      refine .inr (.inr ⟨_, toPs ds, Dp.mono' sub (okD_dp d 59 v hc.1 r1), .lst (SqL.of (sub _ _ q)) ?_, ?_, ?_, ?_⟩)
      · have z := okL_dp ds 59 vs hc.2 t
        exact DpAll.rec (motive_1 := fun v d _ => Dp G.K H v d) (motive_2 := fun vs ds _ => DpAll G.K H vs ds) .non .bl .int .str (fun q _ t => .lst (sub.seq q) t) (fun q _ t => .tup (Same.tup sub q) t) .nil (fun _ _ a b => .cons a b) z
      · unfold SeqAt.shaped
        rw [o1.1, Bool.true_and]
        exact decide_eq_true (by omega)
      · unfold SeqAt.shaped
        simp only [PyData.canLay0, PyData.depth, o2.1, Bool.true_and]
        exact decide_eq_true (by omega)
      · rw [any_eqv hc.1 hc.2]
        exact k
    · cases h
theorem opd_in : OpD G (rInA G.K) dIn := by
  intro Hs H d1 d2 d v1 v2 Q sub r1 r2 hg k
  unfold dIn at hg
  cases e : inB d1 d2 with
  | none => rw [e] at hg; cases hg
  | some b =>
    rw [e] at hg
    cases hg
    rcases in_any (Q := fun b => Q (.bl b) H) sub r1 r2 e (k _ Hs H Gr.rfl (by rw [Rp])) with z | ⟨p, xs, z1, z2, z3, z4, z5⟩ | z
    · exact .inl z
    · exact .inr (.inl ⟨p, xs, z1, z2, z3, z4, z5⟩)
    · exact .inr (.inr z)
theorem opd_notIn : OpD G (rNotInA G.K) dNotIn := by
  intro Hs H d1 d2 d v1 v2 Q sub r1 r2 hg k
  unfold dNotIn at hg
  cases e : inB d1 d2 with
  | none => rw [e] at hg; cases hg
  | some b =>
    rw [e] at hg
    cases hg
    rcases in_any (Q := fun b => Q (.bl (!b)) H) sub r1 r2 e (k _ Hs H Gr.rfl (by rw [Rp])) with z | ⟨p, xs, z1, z2, z3, z4, z5⟩ | z
    · exact .inl z
    · exact .inr (.inl ⟨p, xs, z1, z2, z3, z4, z5⟩)
    · exact .inr (.inr z)
theorem opd_is : OpD G rIsA dIs := by
  intro Hs H d1 d2 d v1 v2 Q sub r1 r2 hg k
  unfold dIs at hg
  split at hg
  · cases hg
    rw [Rp] at r2
    exact .inl ⟨r2, by rw [isNon_of r1]; exact k _ Hs H Gr.rfl (by rw [Rp])⟩
  · cases hg
    rw [Rp] at r1 r2
    exact .inr ⟨_, _, r1, r2, k _ Hs H Gr.rfl (by rw [Rp])⟩
  · cases hg
theorem opd_isN : OpD G rIsNA dIsN := by
  intro Hs H d1 d2 d v1 v2 Q sub r1 r2 hg k
  unfold dIsN at hg
  split at hg
  · cases hg
    rw [Rp] at r2
    exact .inl ⟨r2, by rw [isNon_of r1]; exact k _ Hs H Gr.rfl (by rw [Rp])⟩
  · cases hg
    rw [Rp] at r1 r2
    exact .inr ⟨_, _, r1, r2, k _ Hs H Gr.rfl (by rw [Rp])⟩
  · cases hg
end

/-! isinstance of plain values; names of the module -/
def bIsi : List D → Option D
  | [d, .ty m] => if m = "int" ∨ m = "bool" ∨ m = "str" ∨ m = "tuple" ∨ m = "list" then (tyN d).map fun t => .bl (tyTab t m) else none
  | _ => none
/-- a constant of the module -/
structure GlC (G : Glob) (mg : Str → Option Value) (x : Str) (d : D) : Prop where
  ex : ∃ v u, mg x = some u ∧ RelV v u ∧ ∀ Hs, Rp G Hs d v
section
variable {X : Cx} {G : Glob} {a : Act} {W : WX} {e e1 e2 : Expr} {f f1 f2 : En → Rs D} {pos p apos : Pos} {x : Str}
theorem cad_isi : CaD G (rIsi G.K) bIsi := by
  intro Hs H ds d vs Q sub r hg k
  unfold bIsi at hg
  split at hg
  · rename_i d0 m
    split at hg
    · rename_i hm
      cases et : tyN d0 with
      | none => rw [et] at hg; cases hg
      | some t =>
        rw [et] at hg
        cases hg
        obtain ⟨v, w, rfl, q, q2⟩ := rpl_two r
        rw [Rp] at q2
        subst q2
        obtain ⟨ty, mem⟩ := tyX_of (K := G.K) rfl sub q et
        exact ⟨v, .ty m, _, _, _, rfl, .ty m, ty, kit_tab mem (by simpa using hm), k _ Hs H Gr.rfl (by rw [Rp])⟩
    · cases hg
  · cases hg
theorem je_ty {n : String} (hg : Gl X x) (hm : X.mg x = none) (hv : bootBuiltins x = some (.type n)) (hn : x ≠ "__name__" := by decide) (hd : (x == ("__debug__" : Str)) = false := by decide) : JE X G a W (.Name x pos) (fC (.ty n)) :=
  je_of (pe_bltn (v := .ty n) hg hm hv rfl hn hd) fun _ => by rw [Rp]
theorem je_glob {d : D} (c : GlC G X.mg x d) (hg : Gl X x) (hd : (x == ("__debug__" : Str)) = false := by decide) : JE X G a W (.Name x pos) (fC d) := by
  obtain ⟨v, u, hm, r, h⟩ := c.ex
  exact je_of (pe_glob hg hm r hd) h
/-! methods of texts -/
def mSplit (a : Str) : D → Option D
  | .str b => if (b.length == 0) = false ∧ a.length + 2 ≤ LIM then some (.lst ((Txt.split a b).map .str)) else none
  | _ => none
def mJoin (a : Str) : D → Option D
  | .lst xs => (strsD xs).bind fun ys => if (ys.map (·.length)).sum + ys.length * a.length ≤ LIM then some (.str (Txt.join a ys)) else none
  | _ => none
def mCount (a : Str) : D → Option D
  | .str b => some (.int (Txt.count a b))
  | _ => none
def mFind (a : Str) : D → Option D
  | .str b => some (.int (Txt.find a b))
  | _ => none
def mPart (a : Str) : D → Option D
  | .str b => if (b.length == 0) = false ∧ a.length ≤ LIM then some (.tup [.str (Txt.partition a b).1, .str (Txt.partition a b).2.1, .str (Txt.partition a b).2.2]) else none
  | _ => none
def MtD (G : Glob) (r : V → List V → Hp → VK → Prop) (g : Str → D → Option D) : Prop := ∀ (Hs H : Hp) (z : Str) (d2 d : D) (w : V) (Q : VK), Same Hs H → Rp G Hs d2 w → g z d2 = some d →
  (∀ v Hs' H', Gr Hs H Hs' H' → Rp G Hs' d v → Q v H') → r (.str z) [w] H Q
def fM1 (g : Str → D → Option D) (fo fe : En → Rs D) : En → Rs D := fun ρ => (fo ρ).bind fun d1 ρ1 => match d1 with
  | .str z => (fe ρ1).bind fun d2 ρ2 => lift (g z d2) ρ2
  | _ => .bad
theorem je_m1 {id : String} {name : Str} {r : V → List V → Hp → VK → Prop} {g : Str → D → Option D} (hr : MtD G r g) (slot : Slot "str" name id) (ty : typeOf (.builtin id) = pure (.type "method_descriptor")) (rule : MtR X id r) (h1 : JE X G a W e1 f1) (h2 : JE X G a W e2 f2)
    (hs : starEach [e2] X.env = [(false, eval e2 X.env)] := by rfl) (hbase : attributeBase e1 name X.env (eval e1 X.env) = eval e1 X.env := by rfl) (hline : (apos.endLine == pos.line) = true := by rfl) : JE X G a W (.Call (.Attribute e1 name apos) [e2] [] pos) (fM1 g f1 f2) := by
  refine (pe_m1 slot ty rule h1 h2 hs hbase hline).imp fun σ H Q ⟨ρ, ts, Hs, S, k⟩ => ⟨ρ, ts, Hs, S, (Po.bind (R := Rp G) k).mono ?_⟩
  rintro x H1 ⟨d1, ρ1, Hs1, S1, s1, s2, r1, k1⟩
  cases d1 with
  | str z =>
    rw [Rp] at r1
    subst r1
    refine ⟨⟨z, rfl⟩, ρ1, ts, Hs1, S1, (Po.bind (R := Rp G) k1).mono ?_⟩
    rintro y H2 ⟨d2, ρ2, Hs2, S2, s3, s4, r2, k2⟩
    cases hg : g z d2 with
    | none => rw [hg] at k2; exact False.elim k2
    | some d =>
      rw [hg] at k2
      exact hr Hs2 H2 z d2 d y Q S2.sub r2 hg fun v Hs' H' g r => po_give S2 k2 rfl g r
  | _ => exact False.elim k1
theorem mtd_split : MtD G (fun x xs H Q => ∃ a b, x = .str a ∧ xs = [.str b] ∧ (b.length == 0) = false ∧ a.length + 2 ≤ sizeLine ∧ rNewStrs (Txt.split a b) H Q) mSplit := by
  intro Hs H z d2 d w Q sub r2 hg k
  cases d2 <;> first | (simp [mSplit] at hg; done) | skip
  rename_i b
  simp only [mSplit] at hg
  split at hg
  · rename_i hc
    cases hg
    rw [Rp] at r2
    subst r2
    refine ⟨z, b, rfl, rfl, hc.1, by rw [← lim_eq]; exact hc.2, fun p hp => k _ _ _ (Gr.mk hp) ?_⟩
    rw [Rp]
    exact ⟨p, _, rfl, upd_same, rpl_of_strs _⟩
  · cases hg
theorem mtd_join : MtD G (fun x xs H Q => ∃ a p, ∃ ys : List Str, x = .str a ∧ xs = [.ref p] ∧ (SqL G.K H p (ys.map V.str) ∨ SqT G.K H p (ys.map V.str)) ∧ (ys.map (·.length)).sum + ys.length * a.length ≤ 16777216 ∧ Q (.str (Txt.join a ys)) H) mJoin := by
  intro Hs H z d2 d w Q sub r2 hg k
  cases d2 <;> first | (simp [mJoin] at hg; done) | skip
  rename_i xs
  simp only [mJoin] at hg
  cases e : strsD xs with
  | none => rw [e] at hg; cases hg
  | some ys =>
    rw [e] at hg
    have hg' : (if (ys.map (·.length)).sum + ys.length * z.length ≤ LIM then some (D.str (Txt.join z ys)) else none) = some d := hg
    split at hg'
    · rename_i hc
      cases hg'
      rw [strsD_eq e, Rp] at r2
      obtain ⟨p, vs, rfl, q, t⟩ := r2
      have ev := rpl_strs t
      subst ev
      exact ⟨z, p, ys, rfl, rfl, .inl (SqL.of (sub _ _ q)), hc, k _ Hs H Gr.rfl (by rw [Rp])⟩
    · cases hg'
theorem mtd_count : MtD G (fun x xs H Q => ∃ a b, x = .str a ∧ xs = [.str b] ∧ Q (.int (Txt.count a b)) H) mCount := by
  intro Hs H z d2 d w Q sub r2 hg k
  cases d2 <;> first | (simp [mCount] at hg; done) | (simp only [mCount] at hg; cases hg; rw [Rp] at r2; subst r2; exact ⟨z, _, rfl, rfl, k _ Hs H Gr.rfl (by rw [Rp])⟩)
theorem mtd_find : MtD G (fun x xs H Q => ∃ a b, x = .str a ∧ xs = [.str b] ∧ Q (.int (Txt.find a b)) H) mFind := by
  intro Hs H z d2 d w Q sub r2 hg k
  cases d2 <;> first | (simp [mFind] at hg; done) | (simp only [mFind] at hg; cases hg; rw [Rp] at r2; subst r2; exact ⟨z, _, rfl, rfl, k _ Hs H Gr.rfl (by rw [Rp])⟩)
theorem mtd_part : MtD G (fun x xs H Q => ∃ a b, x = .str a ∧ xs = [.str b] ∧ (b.length == 0) = false ∧ a.length ≤ sizeLine ∧ ∀ p, H p = none → Q (.ref p) (upd H p (.tup [.str (Txt.partition a b).1, .str (Txt.partition a b).2.1, .str (Txt.partition a b).2.2]))) mPart := by
  intro Hs H z d2 d w Q sub r2 hg k
  cases d2 <;> first | (simp [mPart] at hg; done) | skip
  rename_i b
  simp only [mPart] at hg
  split at hg
  · rename_i hc
    cases hg
    rw [Rp] at r2
    subst r2
    refine ⟨z, b, rfl, rfl, hc.1, by rw [← lim_eq]; exact hc.2, fun p hp => k _ _ _ (Gr.mk hp) ?_⟩
    rw [Rp]
    refine ⟨p, _, rfl, SqT.of upd_same, ?_⟩
    exact rpl_of_strs [(Txt.partition z b).1, (Txt.partition z b).2.1, (Txt.partition z b).2.2]
  · cases hg
end
end Lf

namespace Lf
open PySem L2 PyProof.Rows

theorem u65 {k : Nat} {A : Around} (r : Room k A) : A.units + 65 < cLine := by have := r.un; omega

/-! chains -/
def fChain (g g' : D → D → Option D) (f1 f2 f3 : En → Rs D) : En → Rs D := fun ρ => (f1 ρ).bind fun d1 ρ1 => (f2 ρ1).bind fun d2 ρ2 => match g d1 d2 with
  | some (.bl true) => (f3 ρ2).bind fun d3 ρ3 => lift (g' d2 d3) ρ3
  | some (.bl false) => .ok (.bl false) ρ2
  | _ => .bad
section
variable {X : Cx} {G : Glob} {a : Act} {W : WX} {e e1 e2 e3 : Expr} {f f1 f2 f3 : En → Rs D} {pos : Pos}
theorem chain_imp {r r' : R2} {g g' : D → D → Option D} (hr : OpD G r g) (hr' : OpD G r' g') (σ : L2.St) (H : Hp) (Q : VK) (h : tG (Rp G) G a W (fChain g g' f1 f2 f3) σ H Q) :
    tChain r r' (tG (Rp G) G a W f1) (tG (Rp G) G a W f2) (tG (Rp G) G a W f3) σ H Q := by
  obtain ⟨ρ, ts, Hs, S, k⟩ := h
  refine ⟨ρ, ts, Hs, S, (Po.bind (R := Rp G) k).mono ?_⟩
  rintro x H1 ⟨d1, ρ1, Hs1, S1, s1, s2, r1, k1⟩
  refine ⟨ρ1, ts, Hs1, S1, (Po.bind (R := Rp G) k1).mono ?_⟩
  rintro y H2 ⟨d2, ρ2, Hs2, S2, s3, s4, r2, k2⟩
  cases hg : g d1 d2 with
  | none => rw [hg] at k2; exact False.elim k2
  | some d =>
    rw [hg] at k2
    cases d with
    | bl b =>
      refine hr Hs2 H2 d1 d2 (.bl b) x y _ S2.sub (rp_mono s3 _ _ r1) r2 hg fun v Hs' H' gr rv => ?_
      rw [Rp] at rv
      refine ⟨b, rv, ?_⟩
      have S3 := gr.sta S2
      have t1 := gr.same1 S2.sub
      have t2 := gr.same2
      cases b with
      | false =>
        rw [if_neg Bool.false_ne_true]
        exact k2 _ Hs' H' S3 t1 t2 (by rw [Rp])
      | true =>
        rw [if_pos rfl]
        refine ⟨ρ2, ts, Hs', S3, (Po.bind (R := Rp G) (Po.later k2 t1 t2)).mono ?_⟩
        rintro z H3 ⟨d3, ρ3, Hs3, S4, s5, s6, r3, k3⟩
        cases hg' : g' d2 d3 with
        | none => rw [hg'] at k3; exact False.elim k3
        | some d =>
          rw [hg'] at k3
          exact hr' Hs3 H3 d2 d3 d y z Q S4.sub (rp_mono (t1.trans s5) _ _ r2) r3 hg' fun v Hs' H' g r => po_give S4 k3 rfl g r
    | _ => exact False.elim k2
theorem je_chain {op op' : CmpOp} {r r' : R2} {g g' : D → D → Option D} (ho : OpR X (compareOp op) r) (hr : OpD G r g) (ho' : OpR X (compareOp op') r') (hr' : OpD G r' g') (h1 : JE X G a W e1 f1) (h2 : JE X G a W e2 f2) (h3 : JE X G a W e3 f3)
    (hm : lastMarks [op, op'] [e2, e3] = false := by with_unfolding_all rfl) : JE X G a W (.Compare e1 [op, op'] [e2, e3] pos) (fChain g g' f1 f2 f3) := (pe_chain ho ho' h1 h2 h3 hm).imp (chain_imp hr hr')
theorem jt_chain {op op' : CmpOp} {r r' : R2} {g g' : D → D → Option D} (ho : OpR X (compareOp op) r) (hr : OpD G r g) (ho' : OpR X (compareOp op') r') (hr' : OpD G r' g') (h1 : JE X G a W e1 f1) (h2 : JE X G a W e2 f2) (h3 : JE X G a W e3 f3)
    (hm : lastMarks [op, op'] [e2, e3] = false := by with_unfolding_all rfl) : JT X G a W (.Compare e1 [op, op'] [e2, e3] pos) (fTest (fChain g g' f1 f2 f3)) := (pt_chain ho ho' h1 h2 h3 hm).imp fun σ H Q h => chain_imp hr hr' σ H _ (test_imp σ H Q h)
end

/-! the text's defs -/
structure DefOk (K : PySem.W.Frag) (mg : Str → Option Value) (x : Str) (st : Stmt) (ps : List Str) : Prop where
  ex : ∃ fA fd, Fun K x x st fA fd ∧ mg x = some (.ref fA) ∧ Binds K fd ps []
theorem defok_mk {K : PySem.W.Frag} {h : Heap} {mg : Str → Option Value} {x : Str} {st : Stmt} {ps : List Str} {f : Addr} {oc : Value} {od an : Option Addr} {osl : Array (Option Value)} {kV doc pm cdv ct : Value} (X : K.In h) (G : h.Ns mainGlobals mg)
    (a : PySem.W.nsIn K mainGlobals x = some (some (.ref f))) (l : K.lookup f = some ⟨oc, od, .func (PySem.W.fnOf x x (defArgs st) (defBody st) (defScope st) .none kV doc pm an cdv ct), osl⟩)
    (c : PySem.W.codeIn K cdv x = true) (k : PySem.W.keepIn K (.ref f) = true)
    (b : ∀ (kV doc pm : Value) (an : Option Addr) (cdv ct : Value) (us : List Value), us.length = ps.length → bindArgs (PySem.W.fnOf x x (defArgs st) (defBody st) (defScope st) .none kV doc pm an cdv ct) ⟨us, []⟩ = pure (ps.zip us)) : DefOk K mg x st ps :=
  ⟨f, _, fun_mk l c k, PySem.W.mg_of X G a, (fun_mk l c k).binds b⟩
theorem cal_mk {P : Program} {w : World} {mg : Str → Option Value} {base : Heap} {G : Glob} {x : Str} {st : Stmt} {N ps : List Str} {k : Nat} {f : En → Ro} (d : DefOk G.K mg x st ps) (S : FnScope N ps (defScope st))
    (hb : ∀ (fA : Addr) (cdv : Value) (A : Around) (outer : List PySem.Env) (s : Shared) (H : Hp) (E : XK) (a : Act), Room k (A.deeper (envOfC x (defScope st) s.heap.objs.size fA cdv)) → a.pv.length = 0 →
      JB (cxOf (L2N.CX P w) P w G.K mg base N x (defScope st) fA cdv A outer s H E) G a (fun c d _ H => E c d H) (defBody st) f) :
    Cal G P w mg base x (k + 1) ps.length (mkF 0 N.length f) := by
  obtain ⟨fA, fd, F, hm, b⟩ := d.ex
  exact cal_of F hm b S (hb fA)
theorem no_cx {P : Program} {w : World} {H : Hp} {s : Shared} {e : Value} {s' : Shared} (h : L2N.CX P w [] H s (fun _ _ _ => False) e s') : False := by
  obtain ⟨_, _, _, _, _, _, _, _, _, _, _, _, z⟩ := h
  exact z
theorem none_of {K : PySem.W.Frag} {h : Heap} {mg : Str → Option Value} {x : Str} (X : K.In h) (G : h.Ns mainGlobals mg) (a : PySem.W.nsIn K mainGlobals x = some none) : mg x = none := PySem.W.mg_none_of X G a
end Lf

namespace Lf
open PySem L2 PyProof.Rows
theorem takesF {X : Cx} : L2N.Takes X WF := fun u s' ⟨_, _, _, _, _, _, _, _, _, _, _, _, _, _, _, _, w⟩ => False.elim w
theorem jt_w {X : Cx} {G : Glob} {a : Act} {W : WX} {e : Expr} {f : En → Rs Bool} (h : JW X G a W e f) : JT X G a W e f := h.pt
section
variable {X : Cx} {G : Glob} {a : Act} {W : WX} {pos : Pos} {tg iter elt : Expr} {ifs : List Expr} {scope : Scope} {own : List (Str × Nat)} {fi : En → Rs (List D)} {gt : D → En → Option En} {ft : En → Rs Bool} {fe : En → Rs D} {b1 : En → Rs Bool}
/-- y = [..] on one line, kept as a plain value -/
theorem js_setLcF (i : Nat) {y : Str} {py spos : Pos} (hpi : a.pv.length ≤ i) (hp : ∀ v ∈ own.map (·.2), a.pv.length ≤ v) (hc : X.calm = true) (hN : X.N.Nodup) (hi : JI X G a W tg iter fi) (ok : BlkOk X.N X.env.scope scope own)
    (hg : ∀ (s : Shared) (H : Hp) (C : Addr) (cl : List (Str × Addr)) (fp : List Addr), JG (X.blk s H scope (compEnvC scope cl C X.env) fp) G a (own.map (·.2)) tg gt)
    (ht : ∀ (s : Shared) (H : Hp) (C : Addr) (cl : List (Str × Addr)) (fp : List Addr), JTs (X.blk s H scope (compEnvC scope cl C X.env) fp) G a WF ifs ft)
    (he : ∀ (s : Shared) (H : Hp) (C : Addr) (cl : List (Str × Addr)) (fp : List Addr), JE (X.blk s H scope (compEnvC scope cl C X.env) fp) G a WF elt fe)
    (hy : X.N[i]? = some y := by rfl) (hyl : X.env.scope.names.lookup y = some .local := by rfl)
    (hsw : swapsWith (.ListComp elt [⟨tg, iter, ifs, 0⟩] scope pos) (some (.Name y py)) spos.line X.env = pure true := by exact sw_true rfl rfl rfl (by decide +kernel))
    (hs : ∀ x, foldedSetIterable iter X.env x = pure x := by intro _; rfl) : JS X G a W (.Assign [.Name y py] (.ListComp elt [⟨tg, iter, ifs, 0⟩] scope pos) spos) (fSet i (fFr (fLc fi gt ft fe (own.map (·.2))))) := by
  refine (ps_setLc hc hN hy hyl hsw hi ok hg ht he hs).imp fun D σ H ⟨ρ, ts, Hs, S, k⟩ => lc_imp (W := W) hp σ H _ ⟨ρ, ts, Hs, S, ?_⟩
  unfold fSet fFr at k
  cases hx : fLc fi gt ft fe (own.map (·.2)) ρ with
  | ok o ρ1 =>
    rw [hx] at k
    intro v Hs1 H1 S1 t1 t2
    obtain ⟨Hs', t3, S3, r3⟩ := S1.fr
    exact k _ Hs' H1 (S3.set r3 hpi) (t1.trans t3)
  | exc ex ρ1 =>
    rw [hx] at k
    exact fun c d Hs1 H1 S1 r1 => k c d σ Hs1 H1 S1 r1
  | bad => rw [hx] at k; exact k
end
end Lf

namespace Lf
open PySem L2 PyProof.Rows

/-! borrowing: what is owned is looked at as a plain value while one expression runs, and is owned again behind it -/
mutual
/-- nothing in it that changes -/
def imm : D → Bool
  | .non => true | .bl _ => true | .int _ => true | .str _ => true | .ty _ => true
  | .tup xs => immL xs
  | _ => false
def immL : List D → Bool
  | [] => true
  | x :: r => imm x && immL r
end
mutual
def immO : O → Bool
  | .stb d => imm d
  | .tup xs => immOL xs
  | .lst xs => immL xs
  | .lsl xs => immOL xs
  | .dct _ => false
  | .obj _ xs => immOL xs
def immOL : List O → Bool
  | [] => true
  | x :: r => immO x && immOL r
end
def frE (ρ : En) : En := ρ.map (Option.map fun o => .stb (fr o))
def fBor (f : En → Rs D) : En → Rs D := fun ρ => match f (frE ρ) with
  | .ok d _ => if imm d = true then .ok d ρ else .bad
  | .exc e _ => if immL e.fs = true then .exc e ρ else .bad
  | .bad => .bad
def fBorT (f : En → Rs Bool) : En → Rs Bool := fun ρ => match f (frE ρ) with
  | .ok d _ => .ok d ρ
  | .exc e _ => if immL e.fs = true then .exc e ρ else .bad
  | .bad => .bad
def fBorO (f : En → Rs O) : En → Rs O := fun ρ => match f (frE ρ) with
  | .ok o _ => if immO o = true then .ok o ρ else .bad
  | .exc e _ => if immL e.fs = true then .exc e ρ else .bad
  | .bad => .bad

/-- no tuple stands there -/
def NoTup (H : Hp) (b : Addr) : Prop := (∀ vs, H b ≠ some (.tup vs) ∧ ∀ u, H b ≠ some (.frz u (.tup vs))) ∧ ∀ fs, H b ≠ some (.xd fs)
section
variable {G : Glob}
mutual
theorem own_kind {H Hs : Hp} : ∀ (o : O) (v : V) (fp : List Addr), Own G H Hs o v fp → ∀ b ∈ fp, NoTup H b
  | .stb d, v, fp, h => by
    rw [Own] at h
    rw [h.1]; simp
  | .tup xs, v, fp, h => by
    rw [Own] at h
    obtain ⟨p, vs, e, q, r⟩ := h
    exact ownl_kind xs vs fp r
  | .lst xs, v, fp, h => by
    rw [Own] at h
    obtain ⟨p, vs, e, q, f, r⟩ := h
    subst f
    intro b hb
    have hb : b = p := by simpa using hb
    subst hb
    unfold NoTup
    rw [q]
    exact ⟨fun vs => ⟨by simp, fun u => by simp⟩, by simp⟩
  | .lsl xs, v, fp, h => by
    rw [Own] at h
    obtain ⟨p, vs, f, e, q, ef, r⟩ := h
    subst ef
    intro b hb
    rcases List.mem_cons.mp hb with hb | hb
    · subst hb
      unfold NoTup
      rw [q]
      exact ⟨fun vs => ⟨by simp, fun u => by simp⟩, by simp⟩
    · exact ownl_kind xs vs f r b hb
  | .dct kvs, v, fp, h => by
    rw [Own] at h
    obtain ⟨p, o, vs, e, q, f, r, t⟩ := h
    subst f
    intro b hb
    have hb : b = p := by simpa using hb
    subst hb
    unfold NoTup
    rw [q]
    obtain ⟨z1, z2, _⟩ := G.dck r
    exact ⟨fun vs => ⟨fun z => (z1 vs).1 (Option.some.inj z), fun u z => (z1 vs).2 u (Option.some.inj z)⟩, fun fs z => z2 fs (Option.some.inj z)⟩
  | .obj c xs, v, fp, h => by
    rw [Own] at h
    obtain ⟨p, C, dx, vs, f, e, q, r, l, ef, t⟩ := h
    subst ef
    intro b hb
    rcases List.mem_cons.mp hb with hb | hb
    · subst hb
      unfold NoTup
      rw [q]
      exact ⟨fun vs => ⟨by simp, fun u => by simp⟩, by simp⟩
    · exact ownl_kind xs vs f t b hb
theorem ownl_kind {H Hs : Hp} : ∀ (os : List O) (vs : List V) (fp : List Addr), OwnL G H Hs os vs fp → ∀ b ∈ fp, NoTup H b
  | [], vs, fp, h => by
    rw [OwnL] at h
    rw [h.2]; simp
  | o :: r, vs, fp, h => by
    rw [OwnL] at h
    obtain ⟨v, rest, f1, f2, e, ef, q, t⟩ := h
    subst ef
    intro b hb
    rcases List.mem_append.mp hb with hb | hb
    · exact own_kind o v f1 q b hb
    · exact ownl_kind r rest f2 t b hb
end
theorem slo_kind {H Hs : Hp} : ∀ {ρ : En} {σ : L2.St} {f : List Addr}, SlO G H Hs ρ σ f → ∀ b ∈ f, NoTup H b
  | [], σ, f, h => by rw [h.2]; simp
  | x :: ρ, σ, f, h => by
    obtain ⟨y, r, f1, f2, e, ef, q, t⟩ := h
    subst ef
    intro b hb
    rcases List.mem_append.mp hb with hb | hb
    · cases x with
      | none =>
        have e : f1 = [] := q
        rw [e] at hb
        simp at hb
      | some o =>
        obtain ⟨v, e, q⟩ := q
        exact own_kind o v f1 q b hb
    · exact slo_kind t b hb
theorem slo_frE {H Hs Hs' : Hp} (s : Same Hs Hs') : ∀ {ρ : En} {σ : L2.St} {f : List Addr}, (∀ b ∈ f, Hs' b = H b) → SlO G H Hs ρ σ f → SlO G H Hs' (frE ρ) σ []
  | [], σ, f, k, h => ⟨h.1, rfl⟩
  | x :: ρ, σ, f, k, h => by
    obtain ⟨y, r, f1, f2, e, ef, q, t⟩ := h
    subst ef
    refine ⟨y, r, [], [], e, rfl, ?_, slo_frE s (fun b hb => k b (List.mem_append_right _ hb)) t⟩
    cases x with
    | none => rfl
    | some o =>
      obtain ⟨v, e, q⟩ := q
      exact ⟨v, e, by rw [Own]; exact ⟨rfl, own_fr s o v f1 (fun b hb => k b (List.mem_append_left _ hb)) q⟩⟩
/-! what never changes stands behind the owned things, too -/
theorem sqt_cut {H1 H2 : Hp} {p : Addr} {vs : List V} (k : ∀ b, NoTup H1 b ∨ H2 b = H1 b) (h : SqT G.K H1 p vs) : SqT G.K H2 p vs := by
  rcases h with (h | ⟨o, h⟩) | h
  · rcases k p with z | z
    · exact absurd h (z.1 vs).1
    · exact .inl (.inl (z.trans h))
  · rcases k p with z | z
    · exact absurd h ((z.1 vs).2 o)
    · exact .inl (.inr ⟨o, z.trans h⟩)
  · exact .inr h
mutual
theorem rp_cut {H1 H2 : Hp} (k : ∀ b, NoTup H1 b ∨ H2 b = H1 b) : ∀ (d : D) (v : V), imm d = true → Rp G H1 d v → Rp G H2 d v
  | .non, v, _, h => by simpa only [Rp] using h
  | .bl _, v, _, h => by simpa only [Rp] using h
  | .int _, v, _, h => by simpa only [Rp] using h
  | .str _, v, _, h => by simpa only [Rp] using h
  | .ty _, v, _, h => by simpa only [Rp] using h
  | .tup xs, v, i, h => by
    rw [Rp] at h ⊢
    rw [imm] at i
    obtain ⟨p, vs, e, q, r⟩ := h
    exact ⟨p, vs, e, sqt_cut k q, rpl_cut' k xs vs i r⟩
  | .lst xs, v, i, h => by simp [imm] at i
  | .dct kvs, v, i, h => by simp [imm] at i
  | .obj c xs, v, i, h => by simp [imm] at i
  | .fn n xs, v, i, h => by simp [imm] at i
  | .scr ns, v, i, h => by simp [imm] at i
theorem rpl_cut' {H1 H2 : Hp} (k : ∀ b, NoTup H1 b ∨ H2 b = H1 b) : ∀ (ds : List D) (vs : List V), immL ds = true → RpL G H1 ds vs → RpL G H2 ds vs
  | [], vs, _, h => by simpa only [RpL] using h
  | d :: r, vs, i, h => by
    rw [RpL] at h ⊢
    rw [immL, Bool.and_eq_true] at i
    obtain ⟨v, rest, e, q, t⟩ := h
    exact ⟨v, rest, e, rp_cut k d v i.1 q, rpl_cut' k r rest i.2 t⟩
end
mutual
theorem own_cut {H H1 H2 : Hp} (k : ∀ b, NoTup H1 b ∨ H2 b = H1 b) : ∀ (o : O) (v : V) (fp : List Addr), immO o = true → Own G H H1 o v fp → Own G H H2 o v fp
  | .stb d, v, fp, i, h => by
    rw [immO] at i
    rw [Own] at h ⊢
    exact ⟨h.1, rp_cut k d v i h.2⟩
  | .tup xs, v, fp, i, h => by
    rw [immO] at i
    rw [Own] at h ⊢
    obtain ⟨p, vs, e, q, r⟩ := h
    refine ⟨p, vs, e, ?_, ownl_cut k xs vs fp i r⟩
    rcases k p with z | z
    · exact absurd q (z.1 vs).1
    · exact z.trans q
  | .lst xs, v, fp, i, h => by
    rw [immO] at i
    rw [Own] at h ⊢
    obtain ⟨p, vs, e, q, f, r⟩ := h
    exact ⟨p, vs, e, q, f, rpl_cut' k xs vs i r⟩
  | .lsl xs, v, fp, i, h => by
    rw [immO] at i
    rw [Own] at h ⊢
    obtain ⟨p, vs, f, e, q, ef, r⟩ := h
    exact ⟨p, vs, f, e, q, ef, ownl_cut k xs vs f i r⟩
  | .dct kvs, v, fp, i, h => by simp [immO] at i
  | .obj c xs, v, fp, i, h => by
    rw [immO] at i
    rw [Own] at h ⊢
    obtain ⟨p, C, dx, vs, f, e, q, r, l, ef, t⟩ := h
    exact ⟨p, C, dx, vs, f, e, q, r, l, ef, ownl_cut k xs vs f i t⟩
theorem ownl_cut {H H1 H2 : Hp} (k : ∀ b, NoTup H1 b ∨ H2 b = H1 b) : ∀ (os : List O) (vs : List V) (fp : List Addr), immOL os = true → OwnL G H H1 os vs fp → OwnL G H H2 os vs fp
  | [], vs, fp, _, h => by simpa only [OwnL] using h
  | o :: r, vs, fp, i, h => by
    rw [immOL, Bool.and_eq_true] at i
    rw [OwnL] at h ⊢
    obtain ⟨v, rest, f1, f2, e, ef, q, t⟩ := h
    exact ⟨v, rest, f1, f2, e, ef, own_cut k o v f1 i.1 q, ownl_cut k r rest f2 i.2 t⟩
end

variable {a : Act} {ρ : En} {ts : Tm} {σ : L2.St} {H Hs : Hp}
open Classical in
/-- THE RULE of borrowing, by states -/
theorem Sta.bor (S : Sta G a ρ ts σ Hs H) : ∃ Hs' : Hp, Sta G ⟨H, Hs', [], []⟩ (frE ρ) [] σ Hs' H ∧ ∀ (ρ1 : En) (tt : Tm) (Hs1 H1 : Hp), Sta G ⟨H, Hs', [], []⟩ ρ1 tt σ Hs1 H1 → Same Hs' Hs1 → Kp H H1 →
    ∃ Hs2 : Hp, Same Hs Hs2 ∧ (∀ b, NoTup Hs1 b ∨ Hs2 b = Hs1 b) ∧ ((∀ x ∈ tt, immO x.1 = true) → Sta G a ρ (tt ++ ts) σ Hs2 H1) := by
  obtain ⟨f1, f2, h1, h2, nd, hf⟩ := S.own
  let Hs' : Hp := fun b => if b ∈ f1 then H b else Hs b
  have e1 : ∀ b ∈ f1, Hs' b = H b := fun b hb => if_pos hb
  have e2 : ∀ b, b ∉ f1 → Hs' b = Hs b := fun b hb => if_neg hb
  have s1 : Same Hs Hs' := fun b u e => by
    by_cases hb : b ∈ f1
    · rw [(hf b (List.mem_append_left _ hb)).1] at e; cases e
    · rw [e2 b hb]; exact e
  refine ⟨Hs', ⟨fun b u e => ?_, .of fun b u e _ => e, ⟨S.tabs.1, fun b ps e => by
    by_cases hb : b ∈ f1
    · rw [e1 b hb] at e; exact noT_own (slo_there h1 b hb) e
    · rw [e2 b hb] at e; exact S.tabs.2 b ps e⟩, Same.refl _, fun b u e e0 => ?_, rfl, [], [], slo_frE s1 e1 h1, rfl, List.nodup_nil, by simp⟩, fun ρ1 tt Hs1 H1 S1 t1 t2 => ?_⟩
  · by_cases hb : b ∈ f1
    · rw [e1 b hb] at e; exact e
    · rw [e2 b hb] at e; exact S.sub b u e
  · have e0' : Hs' b = none := e0
    rw [e0'] at e; cases e
  · have n1 : ∀ b ∈ f1, NoTup H b := slo_kind h1
    let Hs2 : Hp := fun b => if b ∈ f1 then none else Hs1 b
    have d1 : ∀ b ∈ f1, Hs2 b = none := fun b hb => if_pos hb
    have d2 : ∀ b, b ∉ f1 → Hs2 b = Hs1 b := fun b hb => if_neg hb
    have s2 : Same Hs Hs2 := fun b u e => by
      by_cases hb : b ∈ f1
      · rw [(hf b (List.mem_append_left _ hb)).1] at e; cases e
      · rw [d2 b hb]
        exact t1 b u (s1 b u e)
    have kk : ∀ b, NoTup Hs1 b ∨ Hs2 b = Hs1 b := fun b => by
      by_cases hb : b ∈ f1
      · left
        obtain ⟨u, eu, _⟩ := slo_there h1 b hb
        have q : Hs1 b = H b := (t1 b u ((e1 b hb).trans eu)).trans eu.symm
        unfold NoTup
        rw [q]
        exact n1 b hb
      · exact .inr (d2 b hb)
    refine ⟨Hs2, s2, kk, fun him => ?_⟩
    obtain ⟨g1, g2, k1, k2, nd', hg⟩ := S1.own
    have there : ∀ b ∈ f1 ++ f2, H1 b = H b := fun b hb => by
      rcases List.mem_append.mp hb with hb | hb
      · exact Kp.eq t2 (slo_there h1 b hb)
      · exact Kp.eq t2 (tmo_there h2 b hb)
    have live : ∀ b ∈ f1 ++ f2, ∃ u, H b = some u := fun b hb => by
      rcases List.mem_append.mp hb with hb | hb
      · exact (slo_there h1 b hb).imp fun _ z => z.1
      · exact (tmo_there h2 b hb).imp fun _ z => z.1
    have fresh : ∀ b ∈ g1 ++ g2, H b = none := fun b hb => by
      rcases (hg b hb).2 with z | z
      · exact z
      · exact absurd z (by simp)
    have tmc : ∀ {tt : Tm} {g : List Addr}, (∀ x ∈ tt, immO x.1 = true) → TmO G H1 Hs1 tt g → TmO G H1 Hs2 tt g := by
      intro tt
      induction tt with
      | nil => intro g _ h; exact h
      | cons x tt ih =>
        obtain ⟨o, v⟩ := x
        rintro g hi ⟨g3, g4, e, q, t⟩
        exact ⟨g3, g4, e, own_cut kk o v g3 (hi (o, v) (by simp)) q, ih (fun x hx => hi x (by simp [hx])) t⟩
    have tma : ∀ {tt : Tm} {g : List Addr}, TmO G H1 Hs2 tt g → TmO G H1 Hs2 (tt ++ ts) (g ++ f2) := by
      intro tt
      induction tt with
      | nil =>
        intro g h
        have e : g = [] := h
        rw [e]
        exact tmo_frame s2 (fun b hb => there b (List.mem_append_right _ hb)) h2
      | cons x tt ih =>
        obtain ⟨o, v⟩ := x
        rintro g ⟨g3, g4, e, q, t⟩
        exact ⟨g3, g4 ++ f2, by rw [e, List.append_assoc], q, ih t⟩
    have new2 : ∀ b ∈ f2, Hs2 b = none := fun b hb => by
      obtain ⟨u, eu⟩ := live b (List.mem_append_right _ hb)
      have nb : b ∉ f1 := fun hb1 => by
        rw [List.nodup_append] at nd
        exact nd.2.2 b hb1 b hb rfl
      rw [d2 b nb]
      cases q : Hs1 b with
      | none => rfl
      | some w =>
        have e0 : Hs' b = none := by rw [e2 b nb]; exact (hf b (List.mem_append_right _ hb)).1
        rcases S1.frsh b w q e0 with z | z
        · exact (z.no (tmo_there h2 b hb)).elim
        · exact absurd z (by simp)
    refine ⟨fun b u e => ?_, fun b u e hb => (S.base b u e hb).elim (fun z => t2 b u z (by simp)) fun ⟨z, w, q⟩ => .inr ⟨z, t2.there q (by simp)⟩, ⟨S1.tabs.1, fun b ps e => by
      by_cases hb : b ∈ f1
      · rw [d1 b hb] at e; cases e
      · rw [d2 b hb] at e; exact S1.tabs.2 b ps e⟩, S.stab.trans s2, fun b u e e0 => ?_, S.pin, f1, g2 ++ f2, slo_frame s2 (fun b hb => there b (List.mem_append_left _ hb)) h1, tma (tmc him k2), ?_, ?_⟩
    · by_cases hb : b ∈ f1
      · rw [d1 b hb] at e; cases e
      · rw [d2 b hb] at e; exact S1.sub b u e
    · by_cases hb : b ∈ f1
      · rw [d1 b hb] at e; cases e
      · rw [d2 b hb] at e
        cases q : Hs b with
        | some w => exact S.frsh b w q e0
        | none =>
          have e0' : Hs' b = none := by rw [e2 b hb]; exact q
          rcases S1.frsh b u e e0' with z | z
          · by_cases hio : b ∈ a.io
            · exact .inr hio
            · left
              intro w r ow
              rcases S.base b w r hio with z2 | ⟨⟨ps, z2⟩, _⟩
              · exact z w z2 ow
              · exact ow.1 ps z2
          · exact absurd z (by simp)
    · have nd3 : (g1 ++ g2).Nodup := nd'
      rw [List.nodup_append] at nd nd3
      have x1 : ∀ b ∈ f1, b ∉ g2 := fun b hb hg2 => by
        obtain ⟨u, eu⟩ := live b (List.mem_append_left _ hb)
        rw [fresh b (List.mem_append_right _ hg2)] at eu; cases eu
      have x2 : ∀ b ∈ g2, b ∉ f2 := fun b hb hg2 => by
        obtain ⟨u, eu⟩ := live b (List.mem_append_right _ hg2)
        rw [fresh b (List.mem_append_right _ hb)] at eu; cases eu
      rw [List.nodup_append]
      refine ⟨nd.1, ?_, fun x hx y hy => ?_⟩
      · rw [List.nodup_append]
        exact ⟨nd3.2.1, nd.2.1, fun x hx y hy e => x2 x hx (e ▸ hy)⟩
      · rcases List.mem_append.mp hy with hy | hy
        · exact fun e => x1 x hx (e ▸ hy)
        · exact nd.2.2 x hx y hy
    · intro b hb
      rcases List.mem_append.mp hb with hb | hb
      · exact ⟨d1 b hb, (hf b (List.mem_append_left _ hb)).2⟩
      · rcases List.mem_append.mp hb with hb | hb
        · have q := hg b (List.mem_append_right _ hb)
          have z' : H b = none := fresh b (List.mem_append_right _ hb)
          have nb : b ∉ f1 := fun hb1 => by
            obtain ⟨u, eu⟩ := live b (List.mem_append_left _ hb1)
            rw [z'] at eu; cases eu
          refine ⟨by rw [d2 b nb]; exact q.1, ?_⟩
          by_cases hio : b ∈ a.io
          · exact .inr hio
          · left
            cases r : a.H0 b with
            | none => rfl
            | some w => obtain ⟨u', q'⟩ := S.base.there r hio; rw [q'] at z'; cases z'
        · exact ⟨new2 b hb, (hf b (List.mem_append_right _ hb)).2⟩
theorem exr_cut {Hs1 Hs2 : Hp} {e : Ex} {c : Value} {d : Option Addr} (k : ∀ b, NoTup Hs1 b ∨ Hs2 b = Hs1 b) (i : immL e.fs = true) (h : ExR G Hs1 e c d) : ExR G Hs2 e c d := by
  obtain ⟨C, h1, h2, h3⟩ := h
  refine ⟨C, h1, h2, ?_⟩
  rcases h3 with h3 | ⟨q0, dx, vs, q1, q2, q3⟩
  · exact .inl h3
  · refine .inr ⟨q0, dx, vs, q1, ?_, rpl_cut' k _ _ i q3⟩
    rcases k dx with z | z
    · exact absurd q2 (z.2 _)
    · exact z.trans q2
end
section
variable {X : Cx} {G : Glob} {a : Act} {W : WX} {e : Expr} {f : En → Rs D} {ft : En → Rs Bool} {fo : En → Rs O}
theorem je_bor (h : ∀ a : Act, (∀ i : Nat, a.pv.length ≤ i) → (∀ ws : List Nat, ∀ v ∈ ws, a.pv.length ≤ v) → JE X G a W e f) : JE X G a W e (fBor f) := ⟨fun pins s σ H Q I ⟨ρ, ts, Hs, S, k⟩ => by
  obtain ⟨Hs', S', back⟩ := S.bor
  refine (h ⟨H, Hs', [], []⟩ (fun _ => Nat.zero_le _) (fun _ _ _ => Nat.zero_le _)).run pins s σ H Q I ⟨frE ρ, [], Hs', S', ?_⟩
  unfold fBor at k
  cases hx : f (frE ρ) with
  | ok d ρ1 =>
    rw [hx] at k; dsimp only at k
    by_cases hi : imm d = true
    · rw [if_pos hi] at k
      intro y Hs1 H1 S1 t1 t2 r
      obtain ⟨Hs2, s2, kk, S2⟩ := back ρ1 [] Hs1 H1 S1 t1 t2
      exact k y Hs2 H1 (S2 (by simp)) s2 t2 (rp_cut kk d y hi r)
    · rw [if_neg hi] at k; exact False.elim k
  | exc ex ρ1 =>
    rw [hx] at k; dsimp only at k
    by_cases hi : immL ex.fs = true
    · rw [if_pos hi] at k
      intro c d Hs1 H1 S1 r
      obtain ⟨Hs2, s2, kk, S2⟩ := back ρ1 [] Hs1 H1 S1 S1.stab S1.base
      exact k c d Hs2 H1 (S2 (by simp)) (exr_cut kk hi r)
    · rw [if_neg hi] at k; exact False.elim k
  | bad => rw [hx] at k; exact k⟩
theorem jt_bor (h : ∀ a : Act, (∀ i : Nat, a.pv.length ≤ i) → (∀ ws : List Nat, ∀ v ∈ ws, a.pv.length ≤ v) → JT X G a W e ft) : JT X G a W e (fBorT ft) := ⟨fun pins s σ H Q I ⟨ρ, ts, Hs, S, k⟩ => by
  obtain ⟨Hs', S', back⟩ := S.bor
  refine (h ⟨H, Hs', [], []⟩ (fun _ => Nat.zero_le _) (fun _ _ _ => Nat.zero_le _)).run pins s σ H Q I ⟨frE ρ, [], Hs', S', ?_⟩
  unfold fBorT at k
  cases hx : ft (frE ρ) with
  | ok d ρ1 =>
    rw [hx] at k; dsimp only at k
    intro y Hs1 H1 S1 t1 t2 r
    obtain ⟨Hs2, s2, kk, S2⟩ := back ρ1 [] Hs1 H1 S1 t1 t2
    exact k y Hs2 H1 (S2 (by simp)) s2 t2 r
  | exc ex ρ1 =>
    rw [hx] at k; dsimp only at k
    by_cases hi : immL ex.fs = true
    · rw [if_pos hi] at k
      intro c d Hs1 H1 S1 r
      obtain ⟨Hs2, s2, kk, S2⟩ := back ρ1 [] Hs1 H1 S1 S1.stab S1.base
      exact k c d Hs2 H1 (S2 (by simp)) (exr_cut kk hi r)
    · rw [if_neg hi] at k; exact False.elim k
  | bad => rw [hx] at k; exact k⟩
theorem jo_bor (h : ∀ a : Act, (∀ i : Nat, a.pv.length ≤ i) → (∀ ws : List Nat, ∀ v ∈ ws, a.pv.length ≤ v) → JO X G a W e fo) : JO X G a W e (fBorO fo) := ⟨fun pins s σ H Q I ⟨ρ, ts, Hs, S, k⟩ => by
  obtain ⟨Hs', S', back⟩ := S.bor
  refine (h ⟨H, Hs', [], []⟩ (fun _ => Nat.zero_le _) (fun _ _ _ => Nat.zero_le _)).run pins s σ H Q I ⟨frE ρ, [], Hs', S', ?_⟩
  unfold fBorO at k
  cases hx : fo (frE ρ) with
  | ok o ρ1 =>
    rw [hx] at k; dsimp only at k
    by_cases hi : immO o = true
    · rw [if_pos hi] at k
      intro y Hs1 H1 S1 t1 t2
      obtain ⟨Hs2, s2, kk, S2⟩ := back ρ1 [(o, y)] Hs1 H1 S1 t1 t2
      exact k y Hs2 H1 (S2 (by simpa using hi)) s2 t2
    · rw [if_neg hi] at k; exact False.elim k
  | exc ex ρ1 =>
    rw [hx] at k; dsimp only at k
    by_cases hi : immL ex.fs = true
    · rw [if_pos hi] at k
      intro c d Hs1 H1 S1 r
      obtain ⟨Hs2, s2, kk, S2⟩ := back ρ1 [] Hs1 H1 S1 S1.stab S1.base
      exact k c d Hs2 H1 (S2 (by simp)) (exr_cut kk hi r)
    · rw [if_neg hi] at k; exact False.elim k
  | bad => rw [hx] at k; exact k⟩
end
end Lf

namespace Lf
open PySem L2 PyProof.Rows

/-! new lists by operations, owned -/
/-- a rule of two that makes a new list -/
def OpO (G : Glob) (r : R2) (g : D → D → Option (List D)) : Prop := ∀ (Hs H : Hp) (d1 d2 : D) (xs : List D) (v1 v2 : V) (Q : VK), Same Hs H → Rp G Hs d1 v1 → Rp G Hs d2 v2 → g d1 d2 = some xs →
  (∀ p vs, H p = none → RpL G Hs xs vs → Q (.ref p) (upd H p (.lst vs))) → r v1 v2 H Q
def CaO (G : Glob) (r : List V → Hp → VK → Prop) (g : List D → Option (List D)) : Prop := ∀ (Hs H : Hp) (ds xs : List D) (vs : List V) (Q : VK), Same Hs H → RpL G Hs ds vs → g ds = some xs →
  (∀ p us, H p = none → RpL G Hs xs us → Q (.ref p) (upd H p (.lst us))) → r vs H Q
def MtO (G : Glob) (r : V → List V → Hp → VK → Prop) (g : Str → D → Option (List D)) : Prop := ∀ (Hs H : Hp) (z : Str) (d2 : D) (xs : List D) (w : V) (Q : VK), Same Hs H → Rp G Hs d2 w → g z d2 = some xs →
  (∀ p us, H p = none → RpL G Hs xs us → Q (.ref p) (upd H p (.lst us))) → r (.str z) [w] H Q
def fBinO (g : D → D → Option (List D)) (f1 f2 : En → Rs D) : En → Rs O := fun ρ => (f1 ρ).bind fun d1 ρ1 => (f2 ρ1).bind fun d2 ρ2 => lift ((g d1 d2).map .lst) ρ2
def fCallL (g : List D → Option (List D)) (f : En → Rs (List D)) : En → Rs O := fun ρ => (f ρ).bind fun ds ρ1 => lift ((g ds).map .lst) ρ1
def fSlO (f : En → Rs D) (lo hi : En → Rs (Option Int)) : En → Rs O := fun ρ => (f ρ).bind fun d ρ1 => (lo ρ1).bind fun l ρ2 => (hi ρ2).bind fun h ρ3 => match d with
  | .lst xs => .ok (.lst (cutD xs l h)) ρ3
  | _ => .bad
def fM1O (g : Str → D → Option (List D)) (fo fe : En → Rs D) : En → Rs O := fun ρ => (fo ρ).bind fun d1 ρ1 => match d1 with
  | .str z => (fe ρ1).bind fun d2 ρ2 => lift ((g z d2).map .lst) ρ2
  | _ => .bad
def dCatO : D → D → Option (List D)
  | .lst xs, .lst ys => if xs.length + ys.length ≤ LIM then some (xs ++ ys) else none
  | _, _ => none
def bListO : List D → Option (List D)
  | [.lst xs] => some xs
  | [.tup xs] => some xs
  | _ => none
def mSplitO (a : Str) : D → Option (List D)
  | .str b => if (b.length == 0) = false ∧ a.length + 2 ≤ LIM then some ((Txt.split a b).map .str) else none
  | _ => none
section
variable {X : Cx} {G : Glob} {a : Act} {W : WX} {e e1 e2 : Expr} {es : List Expr} {f f1 f2 : En → Rs D} {fa : En → Rs (List D)} {fl fh : En → Rs (Option Int)} {pos p2 apos : Pos} {lo hi : Option Expr} {ts : Tm} {σ : L2.St} {Hs H : Hp} {ρ : En}
theorem poO_new {Q : VK} {x : Option (List D)} {xs : List D} (S : Sta G a ρ ts σ Hs H) (k : PoO G a W ts σ Hs H Q (lift (x.map O.lst) ρ)) (e : x = some xs) {p : Addr} {vs : List V} (hp : H p = none) (r : RpL G Hs xs vs) : Q (.ref p) (upd H p (.lst vs)) := by
  subst e
  exact k _ Hs _ (S.newO hp r) (Same.refl _) (Kp.new hp)
theorem jo_bin {op : Operator} {r : R2} {g : D → D → Option (List D)} (ho : OpR X (binaryOp op) r) (hr : OpO G r g) (h1 : JE X G a W e1 f1) (h2 : JE X G a W e2 f2) : JO X G a W (.BinOp e1 op e2 pos) (fBinO g f1 f2) := by
  refine (pe_op ho h1 h2).imp fun σ H Q ⟨ρ, ts, Hs, S, k⟩ => ⟨ρ, ts, Hs, S, (Po.bindO (R := Rp G) k).mono ?_⟩
  rintro x H1 ⟨d1, ρ1, Hs1, S1, s1, s2, r1, k1⟩
  refine ⟨ρ1, ts, Hs1, S1, (Po.bindO (R := Rp G) k1).mono ?_⟩
  rintro y H2 ⟨d2, ρ2, Hs2, S2, s3, s4, r2, k2⟩
  cases hg : g d1 d2 with
  | none => rw [hg] at k2; exact False.elim k2
  | some xs => exact hr Hs2 H2 d1 d2 xs x y Q S2.sub (rp_mono s3 _ _ r1) r2 hg fun p vs hp r => poO_new S2 k2 hg hp r
theorem jo_callTy {x : Str} {p : Pos} {T : String} {r : List V → Hp → VK → Prop} {g : List D → Option (List D)} (hc : CallR X (.type T) r) (hr : CaO G r g) (hg : Gl X x) (hm : X.mg x = none) (hv : bootBuiltins x = some (.type T)) (h : JA X G a W (e :: es) fa) (hn : x ≠ "__name__" := by decide)
    (hd : (x == ("__debug__" : Str)) = false := by decide) (hs : starEach (e :: es) X.env = (false, eval e X.env) :: starEach es X.env := by rfl) (hpl : (backTo pos (starEach es X.env)).any (·.1) = false := by rfl) :
    JO X G a W (.Call (.Name x p) (e :: es) [] pos) (fCallL g fa) := by
  refine (pe_callTy hc hg hm hv h hn hd hs hpl).imp fun σ H Q ⟨ρ, ts, Hs, S, k⟩ => ⟨ρ, ts, Hs, S, (Po.bindO (R := RpL G) k).mono ?_⟩
  rintro vs H1 ⟨ds, ρ1, Hs1, S1, s1, s2, r1, k1⟩
  cases hgg : g ds with
  | none => rw [hgg] at k1; exact False.elim k1
  | some xs => exact hr Hs1 H1 ds xs vs Q S1.sub r1 hgg fun p us hp r => poO_new S1 k1 hgg hp r
theorem jo_sl (g : X.K = G.K) (h1 : JE X G a W e f) (h2 : JP X G a W lo fl) (h3 : JP X G a W hi fh) : JO X G a W (.Subscript e (.Slice lo hi none p2) pos) (fSlO f fl fh) := by
  have rule : SlR X (rSlL X.K) := sl_list
  rw [g] at rule
  refine (pe_slice rule h1 h2 h3).imp fun σ H Q ⟨ρ, ts, Hs, S, k⟩ => ⟨ρ, ts, Hs, S, (Po.bindO (R := Rp G) k).mono ?_⟩
  rintro x H1 ⟨d, ρ1, Hs1, S1, s1, s2, r1, k1⟩
  refine ⟨ρ1, ts, Hs1, S1, (Po.bindO (R := OO) k1).mono ?_⟩
  rintro l H2 ⟨l', ρ2, Hs2, S2, s3, s4, r2, k2⟩
  cases r2
  refine ⟨ρ2, ts, Hs2, S2, (Po.bindO (R := OO) k2).mono ?_⟩
  rintro u H3 ⟨u', ρ3, Hs3, S3, s5, s6, r3, k3⟩
  cases r3
  have r1' := rp_mono (s3.trans s5) _ _ r1
  cases d with
  | lst xs =>
    rw [Rp] at r1'
    obtain ⟨p, vs, e1, q1, t1⟩ := r1'
    exact ⟨p, vs, e1, SqL.of (S3.sub _ _ q1), fun b hb => k3 _ Hs3 _ (S3.newO hb (rpl_cut t1 l u)) (Same.refl _) (Kp.new hb)⟩
  | _ => exact False.elim k3
theorem jo_m1 {id : String} {name : Str} {r : V → List V → Hp → VK → Prop} {g : Str → D → Option (List D)} (hr : MtO G r g) (slot : Slot "str" name id) (ty : typeOf (.builtin id) = pure (.type "method_descriptor")) (rule : MtR X id r) (h1 : JE X G a W e1 f1) (h2 : JE X G a W e2 f2)
    (hs : starEach [e2] X.env = [(false, eval e2 X.env)] := by rfl) (hbase : attributeBase e1 name X.env (eval e1 X.env) = eval e1 X.env := by rfl) (hline : (apos.endLine == pos.line) = true := by rfl) : JO X G a W (.Call (.Attribute e1 name apos) [e2] [] pos) (fM1O g f1 f2) := by
  refine (pe_m1 slot ty rule h1 h2 hs hbase hline).imp fun σ H Q ⟨ρ, ts, Hs, S, k⟩ => ⟨ρ, ts, Hs, S, (Po.bindO (R := Rp G) k).mono ?_⟩
  rintro x H1 ⟨d1, ρ1, Hs1, S1, s1, s2, r1, k1⟩
  cases d1 with
  | str z =>
    rw [Rp] at r1
    subst r1
    refine ⟨⟨z, rfl⟩, ρ1, ts, Hs1, S1, (Po.bindO (R := Rp G) k1).mono ?_⟩
    rintro y H2 ⟨d2, ρ2, Hs2, S2, s3, s4, r2, k2⟩
    cases hg : g z d2 with
    | none => rw [hg] at k2; exact False.elim k2
    | some xs => exact hr Hs2 H2 z d2 xs y Q S2.sub r2 hg fun p us hp r => poO_new S2 k2 hg hp r
  | _ => exact False.elim k1
theorem opo_cat : OpO G rCat dCatO := by
  intro Hs H d1 d2 xs v1 v2 Q sub r1 r2 hg k
  cases d1 <;> cases d2 <;> first | (simp [dCatO] at hg; done) | skip
  rename_i xs ys
  simp only [dCatO] at hg
  split at hg
  · rename_i hl
    cases hg
    rw [Rp] at r1 r2
    obtain ⟨p, vs, e1, q1, t1⟩ := r1
    obtain ⟨p2, ws, e2, q2, t2⟩ := r2
    exact ⟨p, p2, vs, ws, e1, e2, sub _ _ q1, sub _ _ q2, by rw [← rpl_length t1, ← rpl_length t2, ← lim_eq]; exact hl, fun a ha => k a _ ha (rpl_append t1 t2)⟩
  · cases hg
theorem cao_list : CaO G (rLstA G.K) bListO := by
  intro Hs H ds xs vs Q sub r hg k
  unfold bListO at hg
  split at hg
  · cases hg
    obtain ⟨v, rfl, q⟩ := rpl_one r
    rw [Rp] at q
    obtain ⟨p, ys, e, hp, t⟩ := q
    subst e
    exact ⟨p, ys, rfl, .inl (SqL.of (sub _ _ hp)), fun l hl => k l _ hl t⟩
  · cases hg
    obtain ⟨v, rfl, q⟩ := rpl_one r
    rw [Rp] at q
    obtain ⟨p, ys, e, hp, t⟩ := q
    subst e
    exact ⟨p, ys, rfl, .inr (Same.tup sub hp), fun l hl => k l _ hl t⟩
  · cases hg
theorem mto_split : MtO G (fun x xs H Q => ∃ a b, x = .str a ∧ xs = [.str b] ∧ (b.length == 0) = false ∧ a.length + 2 ≤ sizeLine ∧ rNewStrs (Txt.split a b) H Q) mSplitO := by
  intro Hs H z d2 xs w Q sub r hg k
  cases d2 <;> first | (simp [mSplitO] at hg; done) | skip
  rename_i b
  simp only [mSplitO] at hg
  split at hg
  · rename_i hl
    cases hg
    rw [Rp] at r
    exact ⟨z, b, rfl, by rw [r], hl.1, by rw [← lim_eq]; exact hl.2, fun p hp => k p _ hp (rpl_of_strs _)⟩
  · cases hg
/-! PL[i] = v -/
theorem js_setix {pl : Pl} {i value : Expr} {o : Expr} {fi fv : En → Rs D} {tpos : Pos} (pk : PlOk X G a o pl) (hi : JE X G a W i fi) (hv : JE X G a W value fv)
    (ha : ∀ v, assign (.Subscript o i tpos) X.env v = (do
      let ov ← holding [v] (eval o X.env)
      let iv ← holding [v, ov] (eval i X.env)
      standAt tpos
      holding [v, ov, iv] (setItem ov iv v)
      release [v, ov, iv] []) := by intro _; rfl)
    (hs : swapsWithSole [.Subscript o i tpos] value pos.line X.env = pure false := by rfl) (hw : swappedStores [.Subscript o i tpos] value X.env = pure none := by rfl) (h1 : (assignEach [.Subscript o i tpos] X.env).map (·.2) = [assign (.Subscript o i tpos) X.env] := by rfl) :
    JS X G a W (.Assign [.Subscript o i tpos] value pos) (fSetIx pl fi fv) := by
  obtain ⟨to, ho, hat⟩ := pk
  refine (ps_asg hv (pg_sub ho hi set_list ha) hs hw h1).imp fun D σ H ⟨ρ, ts, Hs, S, k⟩ => ⟨ρ, ts, Hs, S, (Po.bindS (R := Rp G) k).mono ?_⟩
  rintro v H1 ⟨d, ρ1, Hs1, S1, t1, t2, r1, k1⟩
  cases hg : getP pl ρ1 with
  | none => rw [hg] at k1; exact False.elim k1
  | some o =>
    cases o with
    | lst xs0 =>
      rw [hg] at k1
      obtain ⟨vo, hvo, later⟩ := hat ρ1 ts σ Hs1 H1 _ S1 hg
      refine hvo _ ⟨ρ1, ts, Hs1, S1, (Po.bindS (R := Rp G) k1).mono ?_⟩
      rintro y H2 ⟨di, ρ2, Hs2, S2, t3, t4, r2, k2⟩
      cases hg2 : getP pl ρ2 with
      | none => simp only [hg2] at k2; exact False.elim k2
      | some o2 =>
        cases o2 with
        | lst xs =>
          cases di with
          | int j =>
            simp only [hg2] at k2
            cases hj : ixN xs.length j with
            | none => rw [hj] at k2; exact False.elim k2
            | some n =>
              rw [hj] at k2
              obtain ⟨⟨g1, ow1⟩, up⟩ := later ρ2 ts Hs2 H2 _ t4 S2 hg2
              rw [Own] at ow1
              obtain ⟨p1, vs1, ep, hp1, _, rl1⟩ := ow1
              rw [Rp] at r2
              refine ⟨p1, vs1, j, n, ep, r2, hp1, by rw [← rpl_length rl1]; exact hj, ?_⟩
              have rv := rp_mono t3 _ _ r1
              have rset : ∀ {xs : List Lf.D} {vs : List V} (n : Nat), RpL G Hs2 xs vs → RpL G Hs2 (xs.set n d) (vs.set n v) := by
                intro xs
                induction xs with
                | nil => intro vs n h; rw [RpL] at h; subst h; rw [List.set_nil, List.set_nil, RpL]
                | cons z zs ih =>
                  intro vs n h
                  rw [RpL] at h
                  obtain ⟨w, rest, rfl, q, t⟩ := h
                  cases n with
                  | zero => rw [List.set_cons_zero, List.set_cons_zero, RpL]; exact ⟨_, _, rfl, rv, t⟩
                  | succ n => rw [List.set_cons_succ, List.set_cons_succ, RpL]; exact ⟨_, _, rfl, q, ih n t⟩
              have S3 := up p1 (.lst (vs1.set n v)) (.lst (xs.set n d)) fun g2 n2 ow2 => by
                rw [Own] at ow2
                obtain ⟨p2, vs2, ep2, hp2, eg2, _⟩ := ow2
                rw [ep] at ep2
                cases ep2
                subst eg2
                refine ⟨by simp, ?_⟩
                rw [Own]
                exact ⟨p1, _, ep, upd_same, rfl, rset n rl1⟩
              exact k2 _ _ _ S3 (Same.refl _)
          | _ => simp only [hg2] at k2; exact False.elim k2
        | _ => simp only [hg2] at k2; exact False.elim k2
    | _ => rw [hg] at k1; exact False.elim k1
end
/-! range(i, j, -1) -/
def dwnD (i : Int) (n : Nat) : List D := (List.range n).map fun (k : Nat) => .int (i - (k : Int))
def gRng3 : List D → Option (List D)
  | [.int i, .int j, .int c] => if -(2 ^ 62) ≤ i ∧ i < 2 ^ 62 ∧ -(2 ^ 62) ≤ j ∧ j < 2 ^ 62 ∧ c = -1 then some (dwnD i (i - j).toNat) else none
  | _ => none
section
variable {X : Cx} {G : Glob} {a : Act} {W : WX} {tg e e1 e2 : Expr} {f f1 f2 : En → Rs D} {fa : En → Rs (List D)} {pos p tpos : Pos}
theorem itr_dwn (i0 : Int) (n : Nat) {Hs0 : Hp} : ItR G Hs0 (dwnD i0 n) (Itc i0 (-1) n) := by
  intro Hs H i s1 s2
  unfold dwnD
  refine ⟨fun e => ?_, fun d hd => ?_⟩
  · rw [List.length_map, List.length_range] at e
    show n ≤ i
    omega
  · rw [List.getElem?_map] at hd
    by_cases hi : i < n
    · rw [List.getElem?_range hi] at hd
      cases hd
      refine ⟨hi, fun x H' y => ?_⟩
      obtain ⟨e1, e2⟩ := y
      subst e1 e2
      exact ⟨Hs, Gr.rfl, by rw [Rp]; congr 1; omega⟩
    · rw [List.getElem?_eq_none (by simpa using hi)] at hd
      cases hd
theorem rpl_three {Hs : Hp} {d e f : D} {vs : List V} (h : RpL G Hs [d, e, f] vs) : ∃ v w x, vs = [v, w, x] ∧ Rp G Hs d v ∧ Rp G Hs e w ∧ Rp G Hs f x := by
  rw [RpL] at h
  obtain ⟨v, rest, rfl, q, t⟩ := h
  obtain ⟨w, x, rfl, q2, q3⟩ := rpl_two t
  exact ⟨v, w, x, rfl, q, q2, q3⟩
theorem ji_range3 (hg : Gl X "range") (hm : X.mg "range" = none) (ha : JA X G a W [e, e1, e2] fa) (hs : starEach [e, e1, e2] X.env = (false, eval e X.env) :: starEach [e1, e2] X.env := by rfl) (hpl : (backTo pos (starEach [e1, e2] X.env)).any (·.1) = false := by rfl) :
    JI X G a W tg (.Call (.Name "range" p) [e, e1, e2] [] pos) (fWalk gRng3 fa) := by
  refine (pi_range3 hg hm ha hs hpl).imp fun σ H Q ⟨ρ, ts, Hs, S, k⟩ => ⟨ρ, ts, Hs, S, (Po.bind (R := RpL G) k).mono ?_⟩
  rintro vs H1 ⟨ds, ρ1, Hs1, S1, s1, s2, r1, k1⟩
  cases hg : gRng3 ds with
  | none => rw [hg] at k1; exact False.elim k1
  | some items =>
    rw [hg] at k1
    unfold gRng3 at hg
    split at hg
    · rename_i i j c
      split at hg
      · rename_i hl
        cases hg
        obtain ⟨v, w, x, rfl, q, q2, q3⟩ := rpl_three r1
        rw [Rp] at q q2 q3
        subst q q2 q3
        obtain ⟨l1, l2, l3, l4, rfl⟩ := hl
        exact ⟨i, j, -1, _, rfl, RgC.neg l1 l2 l3 l4, k1 _ Hs1 H1 S1 (Same.refl _) (Kp.refl _) (itr_dwn i (i - j).toNat)⟩
      · cases hg
    · cases hg
end
end Lf

namespace Lf
open PySem L2 PyProof.Rows

/-! classes: fields -/
def fFldD (tab : Nat → Option Nat) (fe : En → Rs D) : En → Rs D := fun ρ => (fe ρ).bind fun d ρ1 => match d with
  | .obj c xs => (match tab c with | some j => lift xs[j]? ρ1 | none => .bad)
  | _ => .bad
def fFldS (i j c : Nat) : En → Rs D := fun ρ => match getP (.fld i j c) ρ with
  | some (.stb d) => .ok d ρ
  | _ => .bad
def putO (j : Nat) (os : List O) (o : O) : List O := if j < os.length then os.set j o else os ++ [o]
def fFldSet (i j c : Nat) (f : En → Rs O) : En → Ro := fun ρ => (f ρ).bindS fun o ρ1 => match ρ1[i]? with
  | some (some (.obj c' os)) => if c' = c ∧ j ≤ os.length then .nxt (ρ1.set i (some (.obj c (putO j os o)))) else .bad
  | _ => .bad
section
variable {G : Glob} {a : Act} {ts : Tm} {σ : L2.St} {Hs H Hs' H' : Hp} {ρ : En}
theorem mem_put {q1 g0 q2 go f3 g' : List Addr} {b : Addr} (sub : ∀ b ∈ g', b ∈ g0 ++ go) (hb : b ∈ q1 ++ (g' ++ q2) ++ f3) : b ∈ q1 ++ (g0 ++ q2) ++ (go ++ f3) := by
  have sb := sub b
  simp only [List.mem_append] at *
  grind
/-- a slot takes what stands on top, and one object is written -/
theorem Sta.put {i : Nat} {p : Addr} {u : HO} {o o0 o1 : O} {v : V} (S : Sta G a ρ ((o, v) :: ts) σ Hs H) (e : ρ[i]? = some (some o0))
    (h : ∀ v0 g0 go, σ[i]? = some (some v0) → (g0 ++ go).Nodup → Own G H Hs o0 v0 g0 → Own G H Hs o v go → p ∈ g0 ∧ ∃ g', g'.Nodup ∧ (∀ b ∈ g', b ∈ g0 ++ go) ∧ Own G (upd H p u) Hs o1 v0 g') : Sta G a (ρ.set i (some o1)) ts σ Hs (upd H p u) := by
  obtain ⟨f1, f2, h1, h2, nd, hf⟩ := S.own
  obtain ⟨go, f3, rfl, ow, h3⟩ := h2
  obtain ⟨x, y, q1, g0, q2, e1, e2, rfl, h4, h5⟩ := slo_at i h1 (List.getElem?_eq_some_iff.mp e).1
  rw [e] at e1
  cases e1
  obtain ⟨v0, rfl, ow0⟩ := h4
  have ndA : (g0 ++ go).Nodup := by
    refine nd.sublist ?_
    rw [show q1 ++ (g0 ++ q2) ++ (go ++ f3) = q1 ++ ((g0 ++ q2) ++ (go ++ f3)) by simp]
    refine (List.Sublist.append (List.sublist_append_left g0 q2) (List.sublist_append_left go f3)).trans (List.sublist_append_right _ _)
  obtain ⟨hp, g', nd', sub, ow1⟩ := h v0 g0 go e2 ndA ow0 ow
  have nd1 := List.nodup_append.mp nd
  have nd2 := List.nodup_append.mp nd1.1
  have nd3 := List.nodup_append.mp nd2.2.1
  have nd4 := List.nodup_append.mp nd1.2.1
  have hpn : Hs p = none := (hf p (by grind)).1
  have h6 := h5 (upd H p u) Hs (some o1) (some v0) g' (Same.refl _) (fun b hb => upd_ne (by rintro rfl; grind)) ⟨v0, rfl, ow1⟩
  rw [set_self e2] at h6
  refine S.go hf (Same.refl _) (fun b o eb => ?_) (.of fun b o eb hb => ?_) (tabs_upd S.tabs (own_there _ _ _ ow0 p hp)) (fun b w eb eb0 => by rw [eb0] at eb; cases eb) S.pin _ f3 h6 (tmo_frame (Same.refl _) (fun b hb => upd_ne (by rintro rfl; grind)) h3) ?_ fun b hb => ?_
  · rw [upd_ne (fun z => by rw [z, hpn] at eb; cases eb)]
    exact S.sub b o eb
  · rw [upd_ne (fun z => by subst z; grind)]
    exact eb
  · refine List.nodup_append.mpr ⟨List.nodup_append.mpr ⟨nd2.1, List.nodup_append.mpr ⟨nd', nd3.2.1, fun x hx y hy => ?_⟩, fun x hx y hy => ?_⟩, nd4.2.1, fun x hx y hy => ?_⟩
    · rcases List.mem_append.mp (sub x hx) with z | z
      · exact nd3.2.2 x z y hy
      · exact (nd1.2.2 y (by simp [hy]) x (by simp [z])).symm
    · rcases List.mem_append.mp hy with hy | hy
      · rcases List.mem_append.mp (sub y hy) with z | z
        · exact nd2.2.2 x hx y (by simp [z])
        · exact nd1.2.2 x (by simp [hx]) y (by simp [z])
      · exact nd2.2.2 x hx y (by simp [hy])
    · rcases List.mem_append.mp hx with hx | hx
      · exact nd1.2.2 x (by simp [hx]) y (by simp [hy])
      · rcases List.mem_append.mp hx with hx | hx
        · rcases List.mem_append.mp (sub x hx) with z | z
          · exact nd1.2.2 x (by simp [z]) y (by simp [hy])
          · exact nd4.2.2 x z y hy
        · exact nd1.2.2 x (by simp [hx]) y (by simp [hy])
  · have hb2 : b ∈ q1 ++ (g0 ++ q2) ++ (go ++ f3) := mem_put sub hb
    exact ⟨(hf b hb2).1, .inr hb2⟩
theorem putF_zip {fs : List Str} {vs : List V} {j : Nat} {f : Str} {v : V} (nd : fs.Nodup) (hf : fs[j]? = some f) (hj : j ≤ vs.length) :
    putF f v (fs.zip vs) = fs.zip (if j < vs.length then vs.set j v else vs ++ [v]) := by
  induction fs generalizing vs j with
  | nil => simp at hf
  | cons f0 fs ih =>
    cases j with
    | zero =>
      cases hf
      cases vs with
      | nil => simp [putF]
      | cons v0 vs => simp [putF]
    | succ j =>
      have hf' : fs[j]? = some f := by simpa using hf
      cases vs with
      | nil => simp at hj
      | cons v0 vs =>
        have hne : ¬ f0 = f := by
          rintro rfl
          exact (List.nodup_cons.mp nd).1 (List.mem_of_getElem? hf')
        have := ih (vs := vs) (List.nodup_cons.mp nd).2 hf' (by simpa using hj)
        rw [List.zip_cons_cons, putF, if_neg hne, this]
        by_cases hl : j < vs.length
        · simp [hl]
        · simp [hl]
theorem ownl_snoc : ∀ {os : List O} {vs : List V} {f g : List Addr} {o : O} {v : V}, OwnL G H Hs os vs f → Own G H Hs o v g → OwnL G H Hs (os ++ [o]) (vs ++ [v]) (f ++ g)
  | [], vs, f, g, o, v, h, h2 => by
    rw [OwnL] at h
    obtain ⟨rfl, rfl⟩ := h
    rw [List.nil_append, OwnL]
    exact ⟨v, [], g, [], rfl, by simp, h2, by rw [OwnL]; exact ⟨rfl, rfl⟩⟩
  | x :: os, vs, f, g, o, v, h, h2 => by
    rw [OwnL] at h
    obtain ⟨v0, rest, f1, f2, rfl, rfl, q, t⟩ := h
    rw [List.cons_append, OwnL]
    exact ⟨v0, rest ++ [v], f1, f2 ++ g, rfl, by simp, q, ownl_snoc t h2⟩
end
section
variable {X : Cx} {G : Glob} {a : Act} {W : WX} {e e1 o : Expr} {fe f : En → Rs D} {fo : En → Rs O} {pos pos' npos apos : Pos} {es : List Expr} {fa : En → Rs (List D)} {x m : Str}
theorem je_fldD {tab : Nat → Option Nat} {f : Str} (ok : ∀ c j, tab c = some j → FldOk G X.K c j f) (h : JE X G a W e fe) (hb : attributeBase e f X.env (eval e X.env) = eval e X.env := by rfl) : JE X G a W (.Attribute e f pos) (fFldD tab fe) := by
  refine (pe_fld h hb).imp fun σ H Q ⟨ρ, ts, Hs, S, k⟩ => ⟨ρ, ts, Hs, S, (Po.bind (R := Rp G) k).mono ?_⟩
  rintro x H1 ⟨d, ρ1, Hs1, S1, s1, s2, r1, k1⟩
  cases d with
  | obj c xs =>
    cases ht : tab c with
    | none => simp only [ht] at k1; exact False.elim k1
    | some j =>
      simp only [ht] at k1
      rw [Rp] at r1
      obtain ⟨p, C, dx, vs, rfl, hp, hC, hl, rl⟩ := r1
      cases hx : xs[j]? with
      | none => rw [hx] at k1; exact False.elim k1
      | some d =>
        rw [hx] at k1
        obtain ⟨v, hv, r⟩ := rpl_get rl hx
        obtain ⟨cl, na⟩ := (ok c j ht).cl C hC
        exact ⟨p, C, dx, _, v, rfl, S1.sub _ _ hp, cl, na, lookup_zip (ok c j ht).nd (ok c j ht).ix hv, k1 v Hs1 H1 S1 (Same.refl _) (Kp.refl _) r⟩
  | _ => exact False.elim k1
theorem je_fldS (i j c : Nat) {f : Str} (ok : FldOk G X.K c j f) (hN : X.N[i]? = some x := by rfl) (hv : Vis X.env.scope x := by first | exact Or.inl rfl | exact Or.inr (Or.inl rfl) | exact Or.inr (Or.inr rfl)) (hd : (x == ("__debug__" : Str)) = false := by decide)
    (hcd : (x == ("__classdict__" : Str)) = false := by decide) (hb : attributeBase (.Name x npos) f X.env (eval (.Name x npos) X.env) = eval (.Name x npos) X.env := by rfl) : JE X G a W (.Attribute (.Name x npos) f apos) (fFldS i j c) := by
  refine (pe_fld (pe_var hN hv hd hcd) hb).imp fun σ H Q ⟨ρ, ts, Hs, S, k⟩ => ?_
  unfold fFldS at k
  cases hg : getP (.fld i j c) ρ with
  | none => rw [hg] at k; exact False.elim k
  | some o =>
    cases o with
    | stb d =>
      rw [hg] at k
      obtain ⟨os, h1, h2⟩ := getP_fld hg
      obtain ⟨vo, g, hvo, ow⟩ := S.slotO h1
      rw [Own] at ow
      obtain ⟨p, C, dx, vs, f1, rfl, hp, hC, hl, rfl, ol⟩ := ow
      obtain ⟨v, q1, fo, q2, hv2, _, ow2, _⟩ := ownl_at j ol h2
      obtain ⟨cl, na⟩ := ok.cl C hC
      rw [Own] at ow2
      exact ⟨.ref p, hvo, p, C, dx, _, v, rfl, hp, cl, na, lookup_zip ok.nd ok.ix hv2, k v Hs H S (Same.refl _) (Kp.refl _) ow2.2⟩
    | _ => rw [hg] at k; exact False.elim k
theorem js_fld (i j c : Nat) {f : Str} (ok : FldOk G X.K c j f) (hn : (G.flds c).length < 1000) (he : JM X G a W e fo) (hN : X.N[i]? = some x := by rfl) (hv : Vis X.env.scope x := by first | exact Or.inl rfl | exact Or.inr (Or.inl rfl) | exact Or.inr (Or.inr rfl)) (hd : (x == ("__debug__" : Str)) = false := by decide)
    (hcd : (x == ("__classdict__" : Str)) = false := by decide) (hs : swapsWith e (some (.Attribute (.Name x npos) f pos')) pos.line X.env = pure false := by rfl) : JS X G a W (.Assign [.Attribute (.Name x npos) f pos'] e pos) (fFldSet i j c fo) := by
  refine (ps_fld (pe_var hN hv hd hcd) he hs).imp fun D σ H ⟨ρ, ts, Hs, S, k⟩ => ⟨ρ, ts, Hs, S, ?_⟩
  unfold fFldSet at k
  cases hx : fo ρ with
  | exc ex ρ1 => rw [hx] at k; exact fun c d Hs1 H1 S1 r1 => k c d σ Hs1 H1 S1 r1
  | bad => rw [hx] at k; exact k
  | ok o ρ1 =>
    rw [hx] at k
    intro v Hs1 H1 S1 t1
    have k' : PoS G a W ts Hs D (match ρ1[i]? with
      | some (some (.obj c' os)) => if c' = c ∧ j ≤ os.length then .nxt (ρ1.set i (some (.obj c (putO j os o)))) else .bad
      | _ => .bad) := k
    cases hr : ρ1[i]? with
    | none => rw [hr] at k'; exact False.elim k'
    | some x1 =>
      cases x1 with
      | none => rw [hr] at k'; exact False.elim k'
      | some o1 =>
        cases o1 with
        | obj c' os =>
          rw [hr] at k'
          by_cases hc : c' = c ∧ j ≤ os.length
          · simp only [if_pos hc] at k'
            obtain ⟨rfl, hj⟩ := hc
            obtain ⟨vo, g, hvo, ow⟩ := S1.slotO hr
            rw [Own] at ow
            obtain ⟨p, C, dx, vs, f1, rfl, hp, hC, hl, rfl, ol⟩ := ow
            obtain ⟨cl, na⟩ := ok.cl C hC
            have lv := ownl_length ol
            have hlz : ((G.flds c').zip vs).length < 1000 := by rw [List.length_zip]; omega
            refine ⟨_, hvo, p, C, dx, _, rfl, hp, cl, na, hlz, ?_⟩
            refine k' σ Hs1 _ (S1.put (p := p) (o1 := .obj c' (putO j os o)) hr fun v0 g0 go hv0 nd0 ow0 owo => ?_) t1
            rw [hvo] at hv0
            cases hv0
            rw [Own] at ow0
            obtain ⟨p', C', dx', vs', f1', ep, hp', hC', hl', rfl, ol'⟩ := ow0
            cases ep
            rw [hp] at hp'
            injection hp' with hp'
            injection hp' with z1 z2 z3
            have lv' := ownl_length ol'
            have hpn : p ∉ f1' ++ go := by grind
            refine ⟨by simp, ?_⟩
            rw [z3, putF_zip ok.nd ok.ix (by omega)]
            by_cases hjl : j < os.length
            · obtain ⟨oj, hoj⟩ : ∃ oj, os[j]? = some oj := ⟨_, List.getElem?_eq_getElem hjl⟩
              obtain ⟨vj, a1, aj, a2, hvj, rfl, owj, upj⟩ := ownl_at j ol' hoj
              have owo' : Own G (upd H1 p (.ins C dx ((G.flds c').zip (vs'.set j v)))) Hs1 o v go := own_frame (Same.refl _) _ _ _ (fun b hb => upd_ne (by rintro rfl; grind)) owo
              have up := upj (upd H1 p (.ins C dx ((G.flds c').zip (vs'.set j v)))) Hs1 o v go (Same.refl _) (fun b hb => upd_ne (by rintro rfl; grind)) owo'
              refine ⟨p :: (a1 ++ (go ++ a2)), by grind, by grind, ?_⟩
              rw [Own]
              refine ⟨p, C, dx, vs'.set j v, a1 ++ (go ++ a2), rfl, ?_, hC, ?_, rfl, ?_⟩
              · rw [if_pos (by omega), upd_same]
              · unfold putO; rw [if_pos hjl, List.length_set]; exact hl
              · unfold putO; rw [if_pos hjl, if_pos (by omega)]; exact up
            · have hje : j = os.length := by omega
              have hlt : os.length < (G.flds c').length := by
                rw [← hje]; exact (List.getElem?_eq_some_iff.mp ok.ix).1
              have owo' : Own G (upd H1 p (.ins C dx ((G.flds c').zip (vs' ++ [v])))) Hs1 o v go := own_frame (Same.refl _) _ _ _ (fun b hb => upd_ne (by rintro rfl; grind)) owo
              have ol2 : OwnL G (upd H1 p (.ins C dx ((G.flds c').zip (vs' ++ [v])))) Hs1 os vs' f1' := ownl_frame (Same.refl _) _ _ _ (fun b hb => upd_ne (by rintro rfl; grind)) ol'
              refine ⟨p :: (f1' ++ go), by grind, by grind, ?_⟩
              rw [Own]
              refine ⟨p, C, dx, vs' ++ [v], f1' ++ go, rfl, ?_, hC, ?_, rfl, ?_⟩
              · rw [if_neg (by omega), upd_same]
              · unfold putO; rw [if_neg hjl, List.length_append]; simp; omega
              · unfold putO; rw [if_neg hjl, if_neg (by omega)]; exact ownl_snoc ol2 owo'
          · simp only [if_neg hc] at k'
            exact False.elim k'
        | _ => rw [hr] at k'; exact False.elim k'
end
end Lf

namespace Lf
open PySem L2 PyProof.Rows

/-! classes: making, methods -/
structure MakOk (G : Glob) (P : Program) (w : World) (mg : Str → Option Value) (base : Heap) (x : Str) (c k na : Nat) (Fi : List O → Rf) : Prop where
  ex : ∃ C fI fd ps, G.cls c = some C ∧ Mk G.K C fI ∧ FnOk P w G.K mg base (L2N.CX P w) k fI fd ps (SpF G na 1 Fi) ∧ Binds G.K fd ps [] ∧ mg x = some (.ref C)
structure Mak0 (G : Glob) (mg : Str → Option Value) (x : Str) (c : Nat) : Prop where
  ex : ∃ C, G.cls c = some C ∧ PySem.W.makesIn G.K C = true ∧ PySem.W.findIn G.K (.ref C) "__init__" = some (some (.builtin "object.__init__")) ∧ PySem.W.keepIn G.K (.ref C) = true ∧ mg x = some (.ref C)
structure MetOk (G : Glob) (P : Program) (w : World) (mg : Str → Option Value) (base : Heap) (c : Nat) (m : Str) (k na np : Nat) (Fm : List O → Rf) : Prop where
  ex : ∃ C fA fd ps, G.cls c = some C ∧ Cls G.K C ∧ Meth G.K C m fA ∧ FnOk P w G.K mg base (L2N.CX P w) k fA fd ps (SpF G na np Fm) ∧ Binds G.K fd ps [] ∧ m ∉ G.flds c

def fMake (c : Nat) (Fi : List O → Rf) (na : Nat) (fa : En → Rs (List D)) : En → Rs O := fun ρ => (fa ρ).bind fun ds ρ1 =>
  if ds.length + 1 = na then (match Fi (.obj c [] :: ds.map .stb) with
    | .ok (.stb .non) [o] => .ok o ρ1
    | .exc e [o] => .exc e ρ1
    | _ => .bad) else .bad
def fMake0 (c : Nat) : En → Rs O := fun ρ => .ok (.obj c []) ρ
def fMethV (tab : Nat → Option (List O → Rf)) (na : Nat) (fe : En → Rs D) (fa : En → Rs (List D)) : En → Rs O := fun ρ => match fe ρ with
  | .ok (.obj c xs) ρ1 => (match tab c with
    | some F => (fa ρ1).bind fun ds ρ2 => if ds.length + 1 = na then ofRf (F (.stb (.obj c xs) :: ds.map .stb)) ρ2 else .bad
    | none => .bad)
  | _ => .bad
def ofRf1 (i : Nat) (x : Rf) (ρ : En) : Rs O := match x with
  | .ok o [o1] => .ok o (ρ.set i (some o1))
  | .exc e [o1] => .exc e (ρ.set i (some o1))
  | _ => .bad
/-- a method of the object in a slot that it owns -/
def fMethO (i c : Nat) (F : List O → Rf) (na : Nat) (fa : En → Rs (List D)) : En → Rs O := fun ρ => match ρ[i]? with
  | some (some (.obj c0 _)) => if c0 = c then ((fa ρ).bind fun ds ρ1 => match ρ1[i]? with
    | some (some (.obj c1 xs)) => if c1 = c ∧ ds.length + 1 = na then ofRf1 i (F (.obj c xs :: ds.map .stb)) ρ1 else .bad
    | _ => .bad) else .bad
  | _ => .bad

theorem upd_non {H : Hp} {a b : Addr} {o : HO} (e : upd H a o b = none) : H b = none := by
  by_cases h : b = a
  · subst h; rw [upd_same] at e; cases e
  · rwa [upd_ne h] at e
theorem lookup_zip_none {fs : List Str} {vs : List V} {m : Str} (h : m ∉ fs) : (fs.zip vs).lookup m = none := by
  induction fs generalizing vs with
  | nil => rfl
  | cons f fs ih =>
    cases vs with
    | nil => rfl
    | cons v vs =>
      rw [List.zip_cons_cons, List.lookup_cons]
      have hne : (m == f) = false := by
        rw [beq_eq_false_iff_ne]
        rintro rfl
        exact h (by simp)
      rw [hne]
      exact ih (fun z => h (List.mem_cons_of_mem _ z))
section
variable {X : Cx} {G : Glob} {a : Act} {W : WX} {e e1 o : Expr} {fe f : En → Rs D} {fo : En → Rs O} {pos pos' npos apos p : Pos} {es : List Expr} {fa : En → Rs (List D)} {x m : Str} {k j na c : Nat}
theorem run_makS {C fI : Addr} {fd : FuncData} {ps : List Str} {sp : Sp} {pins : List (Addr × Obj)} {σ : L2.St} {H : Hp} {s : Shared} {Q : VK} {us : List Value} {vs : List V} (M : Mk X.K C fI) (F : FnOk X.prog X.w X.K X.mg X.base (L2N.CX X.prog X.w) k fI fd ps sp) (hr : Room (k + 1) X.A) (hb : Binds X.K fd ps [])
    (tk : L2N.Takes X W) (I : Inv X pins σ H s) (r : Vals vs us)
    (h : ∀ x dx, H x = none → H dx = none → dx ≠ x → sp (.ref x :: vs) (upd (upd H dx (.own x)) x (.ins C dx [])) (fun v H2 => v = .non ∧ Q (.ref x) H2) (WE W σ)) :
    wpAny (model X.prog X.w) X.A (call (.ref C) us) (EP X pins σ Q) X.xe s := by
  have hq := h (s.heap.objs.size + 1) s.heap.objs.size (I.hok.fresh (Nat.le_succ _)) (I.hok.fresh (Nat.le_refl _)) (Nat.ne_of_lt (Nat.lt_succ_self _))
  have J := Inv.made (C := C) I
  have rr : Vals (V.ref (s.heap.objs.size + 1) :: vs) (Value.ref (s.heap.objs.size + 1) :: us) := .cons rfl r
  have hl : (Value.ref (s.heap.objs.size + 1) :: us).length = ps.length := by rw [← rr.length]; exact F.len _ _ _ _ hq
  have bb := hb _ _ J.kIn (by rw [List.append_nil]; exact hl)
  rw [List.append_nil] at bb
  refine wpAny_call (make_map (f := fI) I.kIn M.makes M.init (beq_iff_eq.mp M.fn) (codeAny_mono (F.run _ X.stack _ _ ⟨_, []⟩ _ _ _ (WE W σ) (hr.make C us []) (J.env0.make C us []) bb rr hq) fun r s' z => ?_))
  rcases r with ee | fl
  · exact L2N.passAt tk σ pins _ _ ee s' J z
  · rcases fl with _ | _ | _ | u
    case ret =>
      obtain ⟨v, H', I3, rv, ev, q3⟩ := J.after z
      subst ev
      exact ⟨rv, ⟨V.ref (s.heap.objs.size + 1), H', I3, rfl, q3⟩⟩
    all_goals exact False.elim z
theorem make_end {C : Addr} {Fi : List O → Rf} (hC : G.cls c = some C) {ts : Tm} {σ : L2.St} {Hs H : Hp} {ρ : En} {ds : List D} {vs : List V} {Q : VK} (S : Sta G a ρ ts σ Hs H) (r : RpL G Hs ds vs)
    (k : PoO G a W ts σ Hs H Q (if ds.length + 1 = na then (match Fi (.obj c [] :: ds.map .stb) with
    | .ok (.stb .non) [o] => .ok o ρ
    | .exc e [o] => .exc e ρ
    | _ => .bad) else .bad)) (x dx : Addr) (hx : H x = none) (hdx : H dx = none) (hne : dx ≠ x) :
    SpF G na 1 Fi (.ref x :: vs) (upd (upd H dx (.own x)) x (.ins C dx [])) (fun v H2 => v = .non ∧ Q (.ref x) H2) (WE W σ) := by
  have hHH : ∀ b u, H b = some u → upd (upd H dx (.own x)) x (.ins C dx []) b = some u := fun b u e => by
    rw [upd_ne (ne_of_none e hx), upd_ne (ne_of_none e hdx)]; exact e
  have hxs : Hs x = none := S.sub.free hx
  have hxd : Hs dx = none := S.sub.free hdx
  by_cases hl : ds.length + 1 = na
  · rw [if_pos hl] at k
    refine ⟨Hs, [x], .obj c [] :: ds.map .stb, by rw [List.length_cons, List.length_map]; exact hl, fun b u e => hHH b u (S.sub b u e), S.tabs.ext hHH, ?_, by simp, by simp [hxs], ?_⟩
    · rw [OwnL]
      refine ⟨.ref x, vs, [x], [], rfl, by simp, ?_, ownl_frame (Same.refl _) _ _ _ (fun b hb => by simp at hb) (ownl_stb (H := H) r)⟩
      rw [Own]
      refine ⟨x, C, dx, [], [], rfl, ?_, hC, Nat.zero_le _, rfl, by rw [OwnL]; exact ⟨rfl, rfl⟩⟩
      rw [upd_same, List.zip_nil_right]
    · have keep : ∀ {H' : Hp}, Kpx [x] (upd (upd H dx (.own x)) x (.ins C dx [])) H' → Kp H H' := fun kk b u e _ => kk b u (hHH b u e) (by
        rw [List.mem_singleton]; exact ne_of_none e hx)
      have back : ∀ {Hs' : Hp}, (∀ b u, Hs' b = some u → Hs b = none → Nt (upd (upd H dx (.own x)) x (.ins C dx [])) b ∨ b ∈ [x]) → ∀ b u, Hs' b = some u → Hs b = none → Nt H b := fun n b u e e0 => by
        rcases n b u e e0 with z | z
        · exact fun w r => z w (hHH b w r)
        · rw [List.mem_singleton] at z; rw [z]; exact .of hx
      cases hf : Fi (.obj c [] :: ds.map .stb) with
      | bad => rw [hf] at k; exact False.elim k
      | exc ex outs =>
        rw [hf] at k
        match outs, k with
        | [o1], k =>
          intro c2 d Hs' H' f1 s1 s2 kk tb n o1 nd hf r'
          exact k c2 d Hs' H' (S.called s1 s2 (keep kk) tb (back n)) r'
        | [], k => exact False.elim k
        | _ :: _ :: _, k => exact False.elim k
      | ok o outs =>
        rw [hf] at k
        match o, outs, k with
        | .stb .non, [o1], k =>
          intro v Hs' H' f1 f2 s1 s2 kk tb n ol ow nd hf
          rw [Own, Rp] at ow
          refine ⟨ow.2, ?_⟩
          rw [List.take_succ_cons, List.take_zero, OwnL] at ol
          obtain ⟨v1, rest, g1, g2, ev, rfl, ow1, ol2⟩ := ol
          cases ev
          rw [OwnL] at ol2
          obtain ⟨_, rfl⟩ := ol2
          refine k (.ref x) Hs' H' (S.calledO s1 s2 (keep kk) tb (back n) ow1 ?_ fun b hb => ?_) s1 (keep kk)
          · exact (List.nodup_append.mp (List.nodup_append.mp nd).1).1
          · have z := hf b (by simp [hb])
            refine ⟨z.1, ?_⟩
            rcases z.2 with z | z
            · exact upd_non (upd_non z)
            · rw [List.mem_singleton] at z; rw [z]; exact hx
        | .stb .non, [], k => exact False.elim k
        | .stb .non, _ :: _ :: _, k => exact False.elim k
        | .stb (.bl _), _, k => exact False.elim k
        | .stb (.int _), _, k => exact False.elim k
        | .stb (.str _), _, k => exact False.elim k
        | .stb (.ty _), _, k => exact False.elim k
        | .stb (.tup _), _, k => exact False.elim k
        | .stb (.lst _), _, k => exact False.elim k
        | .stb (.dct _), _, k => exact False.elim k
        | .stb (.obj _ _), _, k => exact False.elim k
        | .stb (.fn _ _), _, k => exact False.elim k
        | .stb (.scr _), _, k => exact False.elim k
        | .tup _, _, k => exact False.elim k
        | .lst _, _, k => exact False.elim k
        | .lsl _, _, k => exact False.elim k
        | .dct _, _, k => exact False.elim k
        | .obj _ _, _, k => exact False.elim k
  · rw [if_neg hl] at k
    exact False.elim k
theorem jo_make {Fi : List O → Rf} (M : MakOk G X.prog X.w X.mg X.base x c k na Fi) (g : X.K = G.K) (hr : Room j X.A) (hk : k + 1 ≤ j) (tk : L2N.Takes X W) (hg : Gl X x) (ha : JA X G a W (e :: es) fa) (hdb : (x == ("__debug__" : Str)) = false := by decide)
    (he : starEach (e :: es) X.env = (false, eval e X.env) :: starEach es X.env := by rfl) (hpl : (backTo pos (starEach es X.env)).any (·.1) = false := by rfl) : JO X G a W (.Call (.Name x p) (e :: es) [] pos) (fMake c Fi na fa) := by
  obtain ⟨C, fI, fd, ps, hC, M, F, b, hm⟩ := M.ex
  rw [← g] at M F b
  refine ⟨fun pins s σ H Q I ⟨ρ, ts, Hs, S, k⟩ => ?_⟩
  refine wpAny_Call_Name_kw (ld_glob I hg hm ?_ hdb)
  refine PySem.W.callWith_K (h₀ := X.base) I.ok.mod.kin M.kp (thn (ha.run pos pins s σ H _ I ⟨ρ, ts, Hs, S, (Po.bindO (R := RpL G) k)⟩) fun us s1 ⟨vs, H1, I1, r, ⟨ds, ρ1, Hs1, S1, t1, t2, rl, k1⟩⟩ => ⟨I1.kIn, ?_⟩) he hpl
  exact run_makS M F (hr.mono hk) b tk I1 r fun x dx hx hdx hne => make_end hC S1 rl k1 x dx hx hdx hne
theorem jo_make1 {Fi : List O → Rf} (M : MakOk G X.prog X.w X.mg X.base x c k na Fi) (g : X.K = G.K) (hr : Room j X.A) (hk : k + 1 ≤ j) (tk : L2N.Takes X W) (hg : Gl X x) (hdb : (x == ("__debug__" : Str)) = false := by decide) : JO X G a W (.Call (.Name x p) [] [] pos) (fMake c Fi na fNil) := by
  obtain ⟨C, fI, fd, ps, hC, M, F, b, hm⟩ := M.ex
  rw [← g] at M F b
  refine ⟨fun pins s σ H Q I ⟨ρ, ts, Hs, S, k⟩ => wpAny_Call_Name_kw (ld_glob I hg hm (PySem.W.callWith_K0 I.kIn M.kp (run_makS (us := []) M F (hr.mono hk) b tk I .nil ?_)) hdb)⟩
  exact fun x dx hx hdx hne => make_end hC S (by rw [RpL]) k x dx hx hdx hne
theorem run_mak0 {C : Addr} {pins : List (Addr × Obj)} {σ : L2.St} {H : Hp} {s : Shared} {Q : VK} (hm : PySem.W.makesIn X.K C = true) (hi : PySem.W.findIn X.K (.ref C) "__init__" = some (some (.builtin "object.__init__"))) (I : Inv X pins σ H s)
    (h : ∀ x dx, H x = none → H dx = none → dx ≠ x → Q (.ref x) (upd (upd H dx (.own x)) x (.ins C dx []))) : wpAny (model X.prog X.w) X.A (call (.ref C) []) (EP X pins σ Q) X.xe s := by
  have hq := h (s.heap.objs.size + 1) s.heap.objs.size (I.hok.fresh (Nat.le_succ _)) (I.hok.fresh (Nat.le_refl _)) (Nat.ne_of_lt (Nat.lt_succ_self _))
  have J := Inv.made (C := C) I
  refine wpAny_call (make_map0 I.kIn hm hi (fun self => PySem.W.Looks.of_pure (PySem.W.oi_bind self)) ?_)
  have Y := PySem.W.makes_of (M := model X.prog X.w) I.kIn hm
  have hx : ((s.heap.push PySem.W.emptyDict).push (PySem.W.instObj C s.heap.objs.size)).get? (s.heap.objs.size + 1) = some (PySem.W.instObj C s.heap.objs.size) := by
    have z := Heap.get?_push_size (s.heap.push PySem.W.emptyDict) (o := PySem.W.instObj C s.heap.objs.size) rfl
    rwa [Heap.size_push] at z
  have t1 : PySem.W.Looks (model X.prog X.w) ((s.heap.push PySem.W.emptyDict).push (PySem.W.instObj C s.heap.objs.size)) (typeOf (.ref (s.heap.objs.size + 1))) (.ref C) := (PySem.W.Looks.ld hx).andThen .now
  have t2 : PySem.W.Looks (model X.prog X.w) ((s.heap.push PySem.W.emptyDict).push (PySem.W.instObj C s.heap.objs.size)) (isInstance (.ref (s.heap.objs.size + 1)) (.type "object")) true := t1.andThen (Y.top.keeps fun b o e => Heap.get?_push_of_some (PySem.W.instObj C s.heap.objs.size) (Heap.get?_push_of_some PySem.W.emptyDict e))
  refine codeAny_call_builtin (id := "object.__init__") PySem.W.oi_plain PySem.W.entry_oi
    (@PySem.W.check_slot (model X.prog X.w) _ _ _ "object.__init__" "object" "__init__" (.ref (s.heap.objs.size + 1)) [] [] _ PySem.W.oi_kind PySem.W.oi_split t2 (PySem.W.oi_args (.ref (s.heap.objs.size + 1))) ?_)
  rw [PySem.W.oi_run]
  exact wpAny_pure (And.intro rfl ⟨V.ref (s.heap.objs.size + 1), _, J, rfl, hq⟩)
theorem jo_make0 (M : Mak0 G X.mg x c) (g : X.K = G.K) (hg : Gl X x) (hdb : (x == ("__debug__" : Str)) = false := by decide) : JO X G a W (.Call (.Name x p) [] [] pos) (fMake0 c) := by
  obtain ⟨C, hC, hmk, hi, hkp, hm⟩ := M.ex
  rw [← g] at hmk hi hkp
  refine ⟨fun pins s σ H Q I ⟨ρ, ts, Hs, S, k⟩ => wpAny_Call_Name_kw (ld_glob I hg hm (PySem.W.callWith_K0 I.kIn hkp (run_mak0 hmk hi I fun x dx hx hdx hne => ?_)) hdb)⟩
  have hHH : Same H (upd (upd H dx (.own x)) x (.ins C dx [])) := fun b u e => by
    rw [upd_ne (ne_of_none e hx), upd_ne (ne_of_none e hdx)]; exact e
  refine k (.ref x) Hs _ (S.calledO (g := [x]) (Same.refl _) (S.sub.trans hHH) (.of hHH) (S.tabs.ext hHH) (fun b u e e0 => by rw [e0] at e; cases e) ?_ (by simp) fun b hb => ?_) (Same.refl _) (.of hHH)
  · rw [Own]
    refine ⟨x, C, dx, [], [], rfl, ?_, hC, Nat.zero_le _, rfl, by rw [OwnL]; exact ⟨rfl, rfl⟩⟩
    rw [upd_same, List.zip_nil_right]
  · rw [List.mem_singleton] at hb
    subst hb
    exact ⟨S.sub.free hx, hx⟩
end
end Lf

namespace Lf
open PySem L2 PyProof.Rows
section
variable {X : Cx} {G : Glob} {a : Act} {W : WX} {e e1 o : Expr} {fe f : En → Rs D} {fo : En → Rs O} {pos pos' npos apos p : Pos} {es : List Expr} {fa : En → Rs (List D)} {x m : Str} {k j na c : Nat}
/-- a method of what stands for good: the class at hand tells which def -/
theorem jo_methV {tab : Nat → Option (List O → Rf)} {pl : Sem Bool} (he : JE X G a W o fe) (T : ∀ c F, tab c = some F → ∃ k, k ≤ j ∧ MetOk G X.prog X.w X.mg X.base c m k na 0 F) (g : X.K = G.K) (hr : Room j X.A) (tk : L2N.Takes X W) (ha : JA X G a W (e :: es) fa)
    (hst : starEach (e :: es) X.env = (false, eval e X.env) :: starEach es X.env := by rfl) (hpl : (backTo pos (starEach es X.env)).any (·.1) = false := by rfl)
    (ht : eval (.Call (.Attribute o m apos) (e :: es) [] pos) X.env = (do
      let ov ← eval o X.env
      standAt apos.atName
      let (f, first) ← holding [ov] (getMethod ov m pl)
      callWith pos f first (backTo pos (starEach (e :: es) X.env)) (backToKw pos (keywordEach [] X.env))) := by rfl) : JO X G a W (.Call (.Attribute o m apos) (e :: es) [] pos) (fMethV tab na fe fa) := by
  refine ⟨fun pins s σ H Q I ⟨ρ, ts, Hs, S, k⟩ => ?_⟩
  unfold fMethV at k
  cases hx : fe ρ with
  | exc ex ρ1 => rw [hx] at k; exact False.elim k
  | bad => rw [hx] at k; exact False.elim k
  | ok d ρ1 =>
    rw [hx] at k
    cases d with
    | obj c xs =>
      cases hc : tab c with
      | none => simp only [hc] at k; exact False.elim k
      | some F =>
        simp only [hc] at k
        obtain ⟨k0, hk0, C, fA, fd, ps, hC, cl, hM, F1, b, hm⟩ := T c F hc
        rw [← g] at cl hM F1 b
        refine PySem.W.methodCall_KW (pl := pl) (thn (he.run pins s σ H (fun x H1 => ∃ Hs1, Sta G a ρ1 ts σ Hs1 H1 ∧ Same Hs Hs1 ∧ Kp H H1 ∧ Rp G Hs1 (.obj c xs) x) I ⟨ρ, ts, Hs, S, ?_⟩) fun u s1 ⟨x, H1, I1, rx, q⟩ => ?_) ht
        · rw [hx]
          exact fun y Hs1 H1 S1 t1 t2 r1 => ⟨Hs1, S1, t1, t2, r1⟩
        · obtain ⟨Hs1, S1, t1, t2, r1⟩ := q
          have r1' := r1
          rw [Rp] at r1'
          obtain ⟨q0, C', dx, vs0, rfl, hp, hC', hl, rl⟩ := r1'
          rw [hC] at hC'
          cases hC'
          obtain rfl : u = Value.ref q0 := rx
          have k1 : PoO G a W ts σ Hs1 H1 Q ((fa ρ1).bind fun ds ρ2 => if ds.length + 1 = na then ofRf (F (.stb (.obj c xs) :: ds.map .stb)) ρ2 else .bad) := PoO.later k t1 t2
          refine getmeth_ok I1 (S1.sub _ _ hp) cl hM (lookup_zip_none hm) ?_
          refine PySem.W.callWith_K (first := [.ref q0]) (h₀ := X.base) I.ok.mod.kin hM.kp (thn (ha.run pos pins s1 σ H1 _ I1 ⟨ρ1, ts, Hs1, S1, (Po.bindO (R := RpL G) k1)⟩) fun us s2 ⟨vs, H2, I2, r, ⟨ds, ρ2, Hs2, S2, t3, t4, rl2, k2⟩⟩ => ⟨I2.kIn, ?_⟩) hst hpl
          refine run_fnS (E := WE W) F1 (hr.mono hk0) b (L2N.passAt tk σ) I2 (.cons (show L2.RelV (.ref q0) (Value.ref q0) from rfl) r) ?_
          refine call_end (Fm := F) (na := na) (ds := .obj c xs :: ds) S2 (by rw [RpL]; exact ⟨_, _, rfl, rp_mono t3 _ _ r1, rl2⟩) ?_
          rw [List.length_cons]
          exact k2
    | _ => exact False.elim k
theorem jo_methV0 {tab : Nat → Option (List O → Rf)} {pl : Sem Bool} (he : JE X G a W o fe) (T : ∀ c F, tab c = some F → ∃ k, k ≤ j ∧ MetOk G X.prog X.w X.mg X.base c m k na 0 F) (g : X.K = G.K) (hr : Room j X.A) (tk : L2N.Takes X W)
    (ht : eval (.Call (.Attribute o m apos) [] [] pos) X.env = (do
      let ov ← eval o X.env
      standAt apos.atName
      let (f, first) ← holding [ov] (getMethod ov m pl)
      callWith pos f first (backTo pos (starEach [] X.env)) (backToKw pos (keywordEach [] X.env))) := by rfl) : JO X G a W (.Call (.Attribute o m apos) [] [] pos) (fMethV tab na fe fNil) := by
  refine ⟨fun pins s σ H Q I ⟨ρ, ts, Hs, S, k⟩ => ?_⟩
  unfold fMethV at k
  cases hx : fe ρ with
  | exc ex ρ1 => rw [hx] at k; exact False.elim k
  | bad => rw [hx] at k; exact False.elim k
  | ok d ρ1 =>
    rw [hx] at k
    cases d with
    | obj c xs =>
      cases hc : tab c with
      | none => simp only [hc] at k; exact False.elim k
      | some F =>
        simp only [hc] at k
        obtain ⟨k0, hk0, C, fA, fd, ps, hC, cl, hM, F1, b, hm⟩ := T c F hc
        rw [← g] at cl hM F1 b
        refine PySem.W.methodCall_KW (pl := pl) (thn (he.run pins s σ H (fun x H1 => ∃ Hs1, Sta G a ρ1 ts σ Hs1 H1 ∧ Same Hs Hs1 ∧ Kp H H1 ∧ Rp G Hs1 (.obj c xs) x) I ⟨ρ, ts, Hs, S, ?_⟩) fun u s1 ⟨x, H1, I1, rx, q⟩ => ?_) ht
        · rw [hx]
          exact fun y Hs1 H1 S1 t1 t2 r1 => ⟨Hs1, S1, t1, t2, r1⟩
        · obtain ⟨Hs1, S1, t1, t2, r1⟩ := q
          have r1' := r1
          rw [Rp] at r1'
          obtain ⟨q0, C', dx, vs0, rfl, hp, hC', hl, rl⟩ := r1'
          rw [hC] at hC'
          cases hC'
          obtain rfl : u = Value.ref q0 := rx
          have k1 : PoO G a W ts σ Hs1 H1 Q (if ([] : List D).length + 1 = na then ofRf (F (.stb (.obj c xs) :: ([] : List D).map .stb)) ρ1 else .bad) := PoO.later k t1 t2
          refine getmeth_ok I1 (S1.sub _ _ hp) cl hM (lookup_zip_none hm) ?_
          refine PySem.W.callWith_K0 (first := [.ref q0]) I1.kIn hM.kp (run_fnS (E := WE W) (us := [.ref q0]) F1 (hr.mono hk0) b (L2N.passAt tk σ) I1 (.cons (show L2.RelV (.ref q0) (Value.ref q0) from rfl) .nil) ?_)
          exact call_end (Fm := F) (na := na) (ds := [.obj c xs]) S1 (by rw [RpL]; exact ⟨_, _, rfl, r1, by rw [RpL]⟩) k1
    | _ => exact False.elim k

/-- the object in a slot: a call that may change it -/
theorem callO_end {i : Nat} {F : List O → Rf} {ts : Tm} {σ : L2.St} {Hs H : Hp} {ρ : En} {ds : List D} {v0 : V} {vs : List V} {Q : VK} {xs : List O} (S : Sta G a ρ ts σ Hs H) (hi : ρ[i]? = some (some (.obj c xs))) (hv : σ[i]? = some (some v0)) (r : RpL G Hs ds vs)
    (hl : ds.length + 1 = na) (k : PoM G a W ts σ Hs Q (ofRf1 i (F (.obj c xs :: ds.map .stb)) ρ)) : SpF G na 1 F (v0 :: vs) H Q (WE W σ) := by
  obtain ⟨f1, f2, h1, h2, nd, hf⟩ := S.own
  obtain ⟨x, y, q1, g0, q2, e1, e2, rfl, h4, h5⟩ := slo_at i h1 (List.getElem?_eq_some_iff.mp hi).1
  rw [hi] at e1
  cases e1
  obtain ⟨v0', rfl, ow0⟩ := h4
  rw [hv] at e2
  cases e2
  have nd1 := List.nodup_append.mp nd
  have nd2 := List.nodup_append.mp nd1.1
  have nd3 := List.nodup_append.mp nd2.2.1
  have th : ∀ b ∈ q1 ++ (g0 ++ q2) ++ f2, ∃ u, H b = some u ∧ Ownd u := fun b hb => by
    rcases List.mem_append.mp hb with q | q
    · exact slo_there h1 b q
    · exact tmo_there h2 b q
  refine ⟨Hs, g0, .obj c xs :: ds.map .stb, by rw [List.length_cons, List.length_map]; exact hl, S.sub, S.tabs, ?_, nd3.1, fun b hb => (hf b (by simp [hb])).1, ?_⟩
  · rw [OwnL]
    exact ⟨v0, vs, g0, [], rfl, by simp, ow0, ownl_stb r⟩
  · have key : ∀ {Hs' H' : Hp} {o1 : O} {g1 : List Addr} {tl : Tm} {g2 : List Addr}, Same Hs Hs' → Same Hs' H' → Kpx g0 H H' → Tbs G.tabs Hs' H' → (∀ b u, Hs' b = some u → Hs b = none → Nt H b ∨ b ∈ g0) → Own G H' Hs' o1 v0 g1 → TmO G H' Hs' tl g2 →
        (g1 ++ g2).Nodup → (∀ b ∈ g1 ++ g2, Hs' b = none ∧ (H b = none ∨ b ∈ g0)) → Sta G a (ρ.set i (some o1)) (tl ++ ts) σ Hs' H' := by
      intro Hs' H' o1 g1 tl g2 s1 s2 kk tb n ow1 tm nd' hg
      have rest : ∀ b ∈ q1 ++ q2 ++ f2, b ∉ g0 ∧ (∃ u, H b = some u ∧ Ownd u) ∧ b ∈ q1 ++ (g0 ++ q2) ++ f2 := fun b hb => by
        have hb2 : b ∈ q1 ++ (g0 ++ q2) ++ f2 := by simp at hb ⊢; grind
        refine ⟨fun z => ?_, th b hb2, hb2⟩
        rcases List.mem_append.mp hb with hb | hb
        · rcases List.mem_append.mp hb with hb | hb
          · exact nd2.2.2 b hb b (by simp [z]) rfl
          · exact nd3.2.2 b z b hb rfl
        · exact nd1.2.2 b (by simp [z]) b hb rfl
      have stay : ∀ b ∈ q1 ++ q2 ++ f2, H' b = H b := fun b hb => by
        obtain ⟨a1, ⟨u, a2, aw⟩, _⟩ := rest b hb
        rw [a2]; exact kk.at a2 aw.1 a1
      have apart : ∀ b ∈ q1 ++ q2 ++ f2, b ∉ g1 ++ g2 := fun b hb z => by
        obtain ⟨a1, ⟨u, a2, aw⟩, _⟩ := rest b hb
        rcases (hg b z).2 with q | q
        · rw [a2] at q; cases q
        · exact a1 q
      have h6 := h5 H' Hs' (some o1) (some v0) g1 s1 (fun b hb => stay b (by simp at hb ⊢; grind)) ⟨v0, rfl, ow1⟩
      rw [set_self hv] at h6
      have tm2 : TmO G H' Hs' (tl ++ ts) (g2 ++ f2) := by
        have t2 : TmO G H' Hs' ts f2 := tmo_frame s1 (fun b hb => stay b (by simp [hb])) h2
        clear apart stay rest h6 nd' hg th
        induction tl generalizing g2 with
        | nil =>
          have : g2 = [] := tm
          subst this
          exact t2
        | cons p tl ih =>
          obtain ⟨ga, gb, rfl, oa, ob⟩ := tm
          exact ⟨ga, gb ++ f2, by simp, oa, ih ob⟩
      refine S.go hf s1 s2 (fun b u eb hb => kk b u eb (fun z => hb (by simp [z]))) tb (fun b u eb eb0 => ?_) S.pin _ (g2 ++ f2) h6 tm2 ?_ fun b hb => ?_
      · rcases n b u eb eb0 with z | z
        · exact .inl z
        · exact .inr (by simp [z])
      · have na1 := List.nodup_append.mp nd'
        refine List.nodup_append.mpr ⟨List.nodup_append.mpr ⟨nd2.1, List.nodup_append.mpr ⟨na1.1, nd3.2.1, fun x hx y hy z => ?_⟩, fun x hx y hy z => ?_⟩, List.nodup_append.mpr ⟨na1.2.1, nd1.2.1, fun x hx y hy z => ?_⟩, fun x hx y hy z => ?_⟩
        · subst z; exact apart x (by simp [hy]) (by simp [hx])
        · subst z
          rcases List.mem_append.mp hy with hy | hy
          · exact apart x (by simp [hx]) (by simp [hy])
          · exact nd2.2.2 x hx x (by simp [hy]) rfl
        · subst z; exact apart x (by simp [hy]) (by simp [hx])
        · subst z
          rcases List.mem_append.mp hy with hy | hy
          · rcases List.mem_append.mp hx with hx | hx
            · exact apart x (by simp [hx]) (by simp [hy])
            · rcases List.mem_append.mp hx with hx | hx
              · exact na1.2.2 x hx x hy rfl
              · exact apart x (by simp [hx]) (by simp [hy])
          · rcases List.mem_append.mp hx with hx | hx
            · exact nd1.2.2 x (by simp [hx]) x hy rfl
            · rcases List.mem_append.mp hx with hx | hx
              · exact apart x (by simp [hy]) (by simp [hx])
              · exact nd1.2.2 x (by simp [hx]) x hy rfl
      · by_cases hbg : b ∈ g1 ++ g2
        · refine ⟨(hg b hbg).1, ?_⟩
          rcases (hg b hbg).2 with z | z
          · exact .inl z
          · exact .inr (by simp [z])
        · have hb3 : b ∈ q1 ++ q2 ++ f2 := by simp at hb hbg ⊢; grind
          obtain ⟨a1, ⟨u, a2, aw⟩, a3⟩ := rest b hb3
          refine ⟨?_, .inr a3⟩
          cases eh : Hs' b with
          | none => rfl
          | some u2 =>
            rcases n b u2 eh (hf b a3).1 with z | z
            · exact absurd aw (z u a2)
            · exact absurd z a1
    cases hF : F (.obj c xs :: ds.map .stb) with
    | bad => rw [hF] at k; exact False.elim k
    | ok o outs =>
      rw [hF] at k
      match outs, k with
      | [o1], k =>
        intro v Hs' H' g1 g2 s1 s2 kk tb n ol ow nd' hg
        rw [List.take_succ_cons, List.take_zero, OwnL] at ol
        obtain ⟨v1, rest, ga, gb, ev, rfl, ow1, ol2⟩ := ol
        cases ev
        rw [OwnL] at ol2
        obtain ⟨_, rfl⟩ := ol2
        rw [List.append_nil] at nd' hg
        exact k v Hs' H' (key (tl := [(o, v)]) (g2 := g2) s1 s2 kk tb n ow1 ⟨g2, [], by simp, ow, rfl⟩ nd' hg) s1
      | [], k => exact False.elim k
      | _ :: _ :: _, k => exact False.elim k
    | exc ex outs =>
      rw [hF] at k
      match outs, k with
      | [o1], k =>
        intro c2 d Hs' H' g1 s1 s2 kk tb n ol nd' hg r'
        rw [List.take_succ_cons, List.take_zero, OwnL] at ol
        obtain ⟨v1, rest, ga, gb, ev, rfl, ow1, ol2⟩ := ol
        cases ev
        rw [OwnL] at ol2
        obtain ⟨_, rfl⟩ := ol2
        rw [List.append_nil] at nd' hg
        exact k c2 d Hs' H' (key (tl := []) (g2 := []) s1 s2 kk tb n ow1 rfl (by simpa using nd') (by simpa using hg)) r'
      | [], k => exact False.elim k
      | _ :: _ :: _, k => exact False.elim k
theorem jm_methO (i : Nat) {F : List O → Rf} {pl : Sem Bool} (M : MetOk G X.prog X.w X.mg X.base c m k na 1 F) (g : X.K = G.K) (hr : Room j X.A) (hk : k ≤ j) (tk : L2N.Takes X W) (ha : JA X G a W (e :: es) fa) (hN : X.N[i]? = some x := by rfl)
    (hvis : Vis X.env.scope x := by first | exact Or.inl rfl | exact Or.inr (Or.inl rfl) | exact Or.inr (Or.inr rfl)) (hd : (x == ("__debug__" : Str)) = false := by decide) (hcd : (x == ("__classdict__" : Str)) = false := by decide)
    (hst : starEach (e :: es) X.env = (false, eval e X.env) :: starEach es X.env := by rfl) (hpl : (backTo pos (starEach es X.env)).any (·.1) = false := by rfl)
    (ht : eval (.Call (.Attribute (.Name x npos) m apos) (e :: es) [] pos) X.env = (do
      let ov ← eval (.Name x npos) X.env
      standAt apos.atName
      let (f, first) ← holding [ov] (getMethod ov m pl)
      callWith pos f first (backTo pos (starEach (e :: es) X.env)) (backToKw pos (keywordEach [] X.env))) := by rfl) : JM X G a W (.Call (.Attribute (.Name x npos) m apos) (e :: es) [] pos) (fMethO i c F na fa) := by
  obtain ⟨C, fA, fd, ps, hC, cl, hM, F1, b, hm⟩ := M.ex
  rw [← g] at cl hM F1 b
  refine ⟨fun pins s σ H Q I ⟨ρ, ts, Hs, S, k0⟩ => ?_⟩
  unfold fMethO at k0
  cases hx : ρ[i]? with
  | none => rw [hx] at k0; exact False.elim k0
  | some x0 =>
    cases x0 with
    | none => rw [hx] at k0; exact False.elim k0
    | some o0 =>
      cases o0 with
      | obj c0 xs0 =>
        rw [hx] at k0
        by_cases hc0 : c0 = c
        · subst hc0
          simp only [if_pos True.intro] at k0
          obtain ⟨v0, g0, hv0, ow0⟩ := S.slotO hx
          rw [Own] at ow0
          obtain ⟨q0, C', dx, vs0, f0, rfl, hp, hC', _, _, _⟩ := ow0
          rw [hC] at hC'
          cases hC'
          refine PySem.W.methodCall_KW (pl := pl) (thn ((pe_var hN hvis hd hcd).run pins s σ H (fun v H1 => v = .ref q0 ∧ H1 = H) I ⟨.ref q0, hv0, rfl, rfl⟩) fun u s1 ⟨x, H1, I1, rx, q⟩ => ?_) ht
          obtain ⟨rfl, rfl⟩ := q
          obtain rfl : u = Value.ref q0 := rx
          refine getmeth_ok I1 hp cl hM (lookup_zip_none hm) ?_
          have k1 : PoM G a W ts σ Hs Q ((fa ρ).bind fun ds ρ1 => match ρ1[i]? with
            | some (some (.obj c1 xs)) => if c1 = c0 ∧ ds.length + 1 = na then ofRf1 i (F (.obj c0 xs :: ds.map .stb)) ρ1 else .bad
            | _ => .bad) := k0
          refine PySem.W.callWith_K (first := [.ref q0]) (h₀ := X.base) I.ok.mod.kin hM.kp (thn (ha.run pos pins s1 σ H1 (fun vs H2 => ∃ ds ρ1 Hs1, Sta G a ρ1 ts σ Hs1 H2 ∧ Same Hs Hs1 ∧ RpL G Hs1 ds vs ∧ PoM G a W ts σ Hs Q (match ρ1[i]? with
            | some (some (.obj c1 xs)) => if c1 = c0 ∧ ds.length + 1 = na then ofRf1 i (F (.obj c0 xs :: ds.map .stb)) ρ1 else .bad
            | _ => .bad)) I1 ⟨ρ, ts, Hs, S, ?_⟩) fun us s2 ⟨vs, H2, I2, r, ⟨ds, ρ1, Hs1, S1, t1, rl, k2⟩⟩ => ⟨I2.kIn, ?_⟩) hst hpl
          · cases hfa : fa ρ with
            | bad => rw [hfa] at k1; exact False.elim k1
            | exc ex ρ1 => rw [hfa] at k1; exact k1
            | ok ds ρ1 =>
              rw [hfa] at k1
              exact fun vs Hs1 H2 S1 t1 t2 rl => ⟨ds, ρ1, Hs1, S1, t1, rl, k1⟩
          · cases hx1 : ρ1[i]? with
            | none => rw [hx1] at k2; exact False.elim k2
            | some x1 =>
              cases x1 with
              | none => rw [hx1] at k2; exact False.elim k2
              | some o1 =>
                cases o1 with
                | obj c1 xs =>
                  rw [hx1] at k2
                  by_cases hc1 : c1 = c0 ∧ ds.length + 1 = na
                  · simp only [if_pos hc1] at k2
                    obtain ⟨rfl, hl⟩ := hc1
                    refine run_fnS (E := WE W) F1 (hr.mono hk) b (L2N.passAt tk σ) I2 (.cons (show L2.RelV (.ref q0) (Value.ref q0) from rfl) r) ?_
                    refine callO_end S1 hx1 hv0 rl hl ?_
                    cases hy : ofRf1 i (F (.obj c1 xs :: ds.map .stb)) ρ1 with
                    | ok o ρ2 => rw [hy] at k2; exact fun v Hs2 H3 S3 t3 => k2 v Hs2 H3 S3 (t1.trans t3)
                    | exc ex ρ2 => rw [hy] at k2; exact k2
                    | bad => rw [hy] at k2; exact k2
                  · simp only [if_neg hc1] at k2
                    exact False.elim k2
                | _ => rw [hx1] at k2; exact False.elim k2
        · simp only [if_neg hc0] at k0
          exact False.elim k0
      | _ => rw [hx] at k0; exact False.elim k0
theorem jm_methO0 (i : Nat) {F : List O → Rf} {pl : Sem Bool} (M : MetOk G X.prog X.w X.mg X.base c m k na 1 F) (g : X.K = G.K) (hr : Room j X.A) (hk : k ≤ j) (tk : L2N.Takes X W) (hN : X.N[i]? = some x := by rfl)
    (hvis : Vis X.env.scope x := by first | exact Or.inl rfl | exact Or.inr (Or.inl rfl) | exact Or.inr (Or.inr rfl)) (hd : (x == ("__debug__" : Str)) = false := by decide) (hcd : (x == ("__classdict__" : Str)) = false := by decide)
    (ht : eval (.Call (.Attribute (.Name x npos) m apos) [] [] pos) X.env = (do
      let ov ← eval (.Name x npos) X.env
      standAt apos.atName
      let (f, first) ← holding [ov] (getMethod ov m pl)
      callWith pos f first (backTo pos (starEach [] X.env)) (backToKw pos (keywordEach [] X.env))) := by rfl) : JM X G a W (.Call (.Attribute (.Name x npos) m apos) [] [] pos) (fMethO i c F na fNil) := by
  obtain ⟨C, fA, fd, ps, hC, cl, hM, F1, b, hm⟩ := M.ex
  rw [← g] at cl hM F1 b
  refine ⟨fun pins s σ H Q I ⟨ρ, ts, Hs, S, k0⟩ => ?_⟩
  unfold fMethO at k0
  cases hx : ρ[i]? with
  | none => rw [hx] at k0; exact False.elim k0
  | some x0 =>
    cases x0 with
    | none => rw [hx] at k0; exact False.elim k0
    | some o0 =>
      cases o0 with
      | obj c0 xs0 =>
        have k1 : PoM G a W ts σ Hs Q (if c0 = c then ((fNil ρ).bind fun ds ρ1 => match ρ1[i]? with
            | some (some (.obj c1 xs)) => if c1 = c ∧ ds.length + 1 = na then ofRf1 i (F (.obj c xs :: ds.map .stb)) ρ1 else .bad
            | _ => .bad) else .bad) := by rw [hx] at k0; exact k0
        by_cases hc0 : c0 = c
        · subst hc0
          rw [if_pos rfl] at k1
          have k2 : PoM G a W ts σ Hs Q (match ρ[i]? with
            | some (some (.obj c1 xs)) => if c1 = c0 ∧ ([] : List D).length + 1 = na then ofRf1 i (F (.obj c0 xs :: ([] : List D).map .stb)) ρ else .bad
            | _ => .bad) := k1
          rw [hx] at k2
          obtain ⟨v0, g0, hv0, ow0⟩ := S.slotO hx
          rw [Own] at ow0
          obtain ⟨q0, C', dx, vs0, f0, rfl, hp, hC', _, _, _⟩ := ow0
          rw [hC] at hC'
          cases hC'
          refine PySem.W.methodCall_KW (pl := pl) (thn ((pe_var hN hvis hd hcd).run pins s σ H (fun v H1 => v = .ref q0 ∧ H1 = H) I ⟨.ref q0, hv0, rfl, rfl⟩) fun u s1 ⟨x, H1, I1, rx, q⟩ => ?_) ht
          obtain ⟨rfl, rfl⟩ := q
          obtain rfl : u = Value.ref q0 := rx
          refine getmeth_ok I1 hp cl hM (lookup_zip_none hm) ?_
          by_cases hl : ([] : List D).length + 1 = na
          · replace k2 : PoM G a W ts σ Hs Q (if c0 = c0 ∧ ([] : List D).length + 1 = na then ofRf1 i (F (.obj c0 xs0 :: ([] : List D).map .stb)) ρ else .bad) := k2
            rw [if_pos ⟨rfl, hl⟩] at k2
            refine PySem.W.callWith_K0 (first := [.ref q0]) I1.kIn hM.kp (run_fnS (E := WE W) (us := [.ref q0]) F1 (hr.mono hk) b (L2N.passAt tk σ) I1 (.cons (show L2.RelV (.ref q0) (Value.ref q0) from rfl) .nil) ?_)
            exact callO_end (ds := []) S hx hv0 (by rw [RpL]) hl k2
          · replace k2 : PoM G a W ts σ Hs Q (if c0 = c0 ∧ ([] : List D).length + 1 = na then ofRf1 i (F (.obj c0 xs0 :: ([] : List D).map .stb)) ρ else .bad) := k2
            rw [if_neg (fun z => hl z.2)] at k2
            exact False.elim k2
        · rw [if_neg hc0] at k1
          exact False.elim k1
      | _ => rw [hx] at k0; exact False.elim k0
end
end Lf

namespace Lf
open PySem L2 PyProof.Rows
/-! what is never reached; isinstance of own classes; the text's classes -/
def fBad : En → Ro := fun _ => .bad
theorem js_bad {X : Cx} {G : Glob} {a : Act} {W : WX} {st : Stmt} : JS X G a W st fBad := (ps_never (X := X) (st := st)).imp fun D σ H ⟨ρ, ts, Hs, S, k⟩ => k

structure InsF (K : PySem.W.Frag) (C : Addr) : Prop where
  ha : PySem.W.findIn K (.ref C) "__class__" = some (some (.builtin "object.__class__"))
  hn : PySem.W.specialIn K (.builtin "object.__class__") "__get__" = some (some (.builtin "getset_descriptor.__get__"))
  htk : PySem.W.takesIn K (.builtin "object.__class__") = some true
  hm : PySem.W.mroIn K C (.type "object") = some true
def plainTys : List String := ["NoneType", "bool", "int", "str", "tuple", "list"]
structure IsF (G : Glob) (mg : Str → Option Value) (x : Str) (cs kids : List Nat) : Prop where
  ex : ∃ C, mg x = some (.ref C) ∧ (∀ c ∈ cs, ∃ D, G.cls c = some D ∧ Cls G.K D ∧ InsF G.K D ∧ PySem.W.kitOne G.K (.ref D) (.ref C) = some (decide (c ∈ kids))) ∧ ∀ t ∈ plainTys, PySem.W.kitOne G.K (.type t) (.ref C) = some false
def fIsC (cs kids : List Nat) (fe : En → Rs D) : En → Rs D := fun ρ => (fe ρ).bind fun d ρ1 => match d with
  | .obj c _ => if c ∈ cs then .ok (.bl (decide (c ∈ kids))) ρ1 else .bad
  | d => (match tyN d with | some _ => .ok (.bl false) ρ1 | none => .bad)
theorem je_isC {X : Cx} {G : Glob} {a : Act} {W : WX} {e : Expr} {x : Str} {fe : En → Rs D} {p p2 pos : Pos} {cs kids : List Nat} (F : IsF G X.mg x cs kids) (g : X.K = G.K) (h : JE X G a W e fe) (hg : Gl X "isinstance") (hm : X.mg "isinstance" = none) (hgx : Gl X x) (hdx : (x == ("__debug__" : Str)) = false := by decide)
    (he : starEach [e, .Name x p2] X.env = (false, eval e X.env) :: starEach [.Name x p2] X.env := by rfl) (he2 : starEach [.Name x p2] X.env = (false, eval (.Name x p2) X.env) :: starEach [] X.env := by rfl) (hpl : (backTo pos (starEach [.Name x p2] X.env)).any (·.1) = false := by rfl) :
    JE X G a W (.Call (.Name "isinstance" p) [e, .Name x p2] [] pos) (fIsC cs kids fe) := by
  obtain ⟨C, hC, hcs, hty⟩ := F.ex
  refine (pe_callB call_isi hg hm (by rfl) (pa_cons h (pa_cons (pe_glob (v := .ref C) hgx hC rfl hdx) pa_nil he2) he) (by decide) (by decide) he hpl).imp fun σ H Q ⟨ρ, ts, Hs, S, k⟩ => ⟨ρ, ts, Hs, S, (Po.bind (R := Rp G) k).mono ?_⟩
  rintro v H1 ⟨d, ρ1, Hs1, S1, s1, s2, r1, k1⟩
  have own : ∀ t, tyN d = some t → Po (Rp G) G a W ts σ Hs1 H1 Q (.ok (.bl false) ρ1) → rIsi X.K [v, .ref C] H1 Q := fun t et k2 => by
    obtain ⟨ty, mem⟩ := tyX_of (K := X.K) g.symm S1.sub r1 et
    exact ⟨v, .ref C, _, _, false, rfl, .own C, ty, by rw [g]; exact hty t mem, k2 _ Hs1 H1 S1 (Same.refl _) (Kp.refl _) (by rw [Rp])⟩
  cases d with
  | obj c xs =>
    by_cases hc : c ∈ cs
    · simp only [if_pos hc] at k1
      obtain ⟨D, hD, cl, ins, hk⟩ := hcs c hc
      rw [Rp] at r1
      obtain ⟨q0, C', dx, vs, rfl, hp, hC', hl, rl⟩ := r1
      rw [hD] at hC'
      cases hC'
      rw [← g] at cl ins hk
      exact ⟨.ref q0, .ref C, _, _, _, rfl, .own C, .base (.ins (S1.sub _ _ hp) cl ins.ha ins.hn ins.htk ins.hm), hk, k1 _ Hs1 H1 S1 (Same.refl _) (Kp.refl _) (by rw [Rp])⟩
    · simp only [if_neg hc] at k1
      exact False.elim k1
  | non => exact own "NoneType" rfl k1
  | bl b => exact own "bool" rfl k1
  | int i => exact own "int" rfl k1
  | str s => exact own "str" rfl k1
  | tup xs => exact own "tuple" rfl k1
  | lst xs => exact own "list" rfl k1
  | _ => exact False.elim k1

theorem kit_own {K : PySem.W.Frag} {t : Value} {C : Addr} {b : Bool} (hd : PySem.W.hasDictIn K C = true) (ht : PySem.W.typeIn K (.ref C) = some (.type "type")) (hs : PySem.W.subIn K (.ref C) (.ref C) = some true) (h : PySem.W.subIn K t (.ref C) = some b) : PySem.W.kitOne K t (.ref C) = some b := by
  obtain ⟨cd, hc, _⟩ := PySem.W.any_some hd
  unfold PySem.W.kitOne
  by_cases e : (t == .ref C) = true
  · rw [if_pos e]
    have e2 : t = .ref C := by simpa using e
    rw [e2, hs] at h
    exact h
  · rw [if_neg e]
    have e3 : ((PySem.W.clsIn K C).isSome && PySem.W.typeIn K (.ref C) == some (.type "type")) = true := by rw [hc, ht]; rfl
    show (if ((PySem.W.clsIn K C).isSome && PySem.W.typeIn K (.ref C) == some (.type "type")) = true then PySem.W.subIn K t (.ref C) else none) = some b
    rw [if_pos e3]
    exact h
/-! tables by class -/
def tabL {α : Type} (l : List (Nat × α)) (c : Nat) : Option α := l.lookup c
theorem tab_nil {α : Type} {P : Nat → α → Prop} : ∀ c F, tabL ([] : List (Nat × α)) c = some F → P c F := fun c F h => by cases h
theorem tab_cons {α : Type} {P : Nat → α → Prop} {c0 : Nat} {x : α} {l : List (Nat × α)} (h0 : P c0 x) (h : ∀ c F, tabL l c = some F → P c F) : ∀ c F, tabL ((c0, x) :: l) c = some F → P c F := fun c F e => by
  unfold tabL at e h
  rw [List.lookup_cons] at e
  cases hb : (c == c0) with
  | true =>
    rw [hb] at e
    cases e
    rw [beq_iff_eq] at hb
    subst hb
    exact h0
  | false =>
    rw [hb] at e
    exact h c F e
structure ClDef (G : Glob) (c : Nat) (fs : List Str) : Prop where
  fl : G.flds c = fs
  ex : ∃ C, G.cls c = some C ∧ Cls G.K C ∧ ∀ f ∈ fs, NoAttr G.K C f
theorem fld_ok {G : Glob} {c j : Nat} {f : Str} {fs : List Str} (d : ClDef G c fs) (hj : fs[j]? = some f) (nd : fs.Nodup) : FldOk G G.K c j f where
  cl := fun C hC => by
    obtain ⟨C', h1, h2, h3⟩ := d.ex
    rw [hC] at h1
    cases h1
    exact ⟨h2, h3 f (List.mem_of_getElem? hj)⟩
  ix := by rw [d.fl]; exact hj
  nd := by rw [d.fl]; exact nd
structure MeDef (G : Glob) (m qual : Str) (st : Stmt) (ps : List Str) (cs : List Nat) : Prop where
  ex : ∃ fA fd, Fun G.K m qual st fA fd ∧ Binds G.K fd ps [] ∧ ∀ c ∈ cs, ∃ C, G.cls c = some C ∧ Cls G.K C ∧ Meth G.K C m fA ∧ m ∉ G.flds c
structure InDef (G : Glob) (mg : Str → Option Value) (qual : Str) (st : Stmt) (ps : List Str) (cs : List (Str × Nat)) : Prop where
  ex : ∃ fA fd, Fun G.K "__init__" qual st fA fd ∧ Binds G.K fd ps [] ∧ ∀ p ∈ cs, ∃ C, G.cls p.2 = some C ∧ Mk G.K C fA ∧ mg p.1 = some (.ref C)
section
variable {P : Program} {w : World} {mg : Str → Option Value} {base : Heap} {G : Glob} {m qual : Str} {st : Stmt} {N ps : List Str} {k np c : Nat} {f : En → Ro}
theorem met_mk {cs : List Nat} (d : MeDef G m qual st ps cs) (S : FnScope N ps (defScope st)) (hnp : np ≤ ps.length) (hc : c ∈ cs)
    (hb : ∀ (fA : Addr) (cdv : Value) (A : Around) (outer : List PySem.Env) (s : Shared) (H : Hp) (E : XK) (a : Act), Room k (A.deeper (envOfC qual (defScope st) s.heap.objs.size fA cdv)) → a.pv.length = np →
      JB (cxOf (L2N.CX P w) P w G.K mg base N qual (defScope st) fA cdv A outer s H E) G a (fun c d _ H => E c d H) (defBody st) f) :
    MetOk G P w mg base c m (k + 1) ps.length np (mkF np N.length f) := by
  obtain ⟨fA, fd, F, b, h⟩ := d.ex
  obtain ⟨C, h1, h2, h3, h4⟩ := h c hc
  exact ⟨C, fA, fd, ps, h1, h2, h3, fn_def F S hnp (hb fA), b, h4⟩
theorem mak_mk {cs : List (Str × Nat)} {x : Str} (d : InDef G mg qual st ps cs) (S : FnScope N ps (defScope st)) (hnp : 1 ≤ ps.length) (hc : (x, c) ∈ cs)
    (hb : ∀ (fA : Addr) (cdv : Value) (A : Around) (outer : List PySem.Env) (s : Shared) (H : Hp) (E : XK) (a : Act), Room k (A.deeper (envOfC qual (defScope st) s.heap.objs.size fA cdv)) → a.pv.length = 1 →
      JB (cxOf (L2N.CX P w) P w G.K mg base N qual (defScope st) fA cdv A outer s H E) G a (fun c d _ H => E c d H) (defBody st) f) :
    MakOk G P w mg base x c (k + 1) ps.length (mkF 1 N.length f) := by
  obtain ⟨fA, fd, F, b, h⟩ := d.ex
  obtain ⟨C, h1, h2, h3⟩ := h _ hc
  exact ⟨C, fA, fd, ps, h1, h2, fn_def F S hnp (hb fA), b, h3⟩
end
theorem all_nil {α : Type} {Q : α → Prop} : ∀ x ∈ ([] : List α), Q x := fun x h => by cases h
theorem all_cons {α : Type} {Q : α → Prop} {a : α} {l : List α} (h0 : Q a) (h : ∀ x ∈ l, Q x) : ∀ x ∈ a :: l, Q x := fun x hx => by
  rcases List.mem_cons.mp hx with rfl | hx
  · exact h0
  · exact h x hx
/-- the classes' addresses and fields -/
def glC (K : PySem.W.Frag) (l : List (Nat × Addr)) (fl : List (Nat × List Str)) : Glob := ⟨K, fun c => l.lookup c, fun c => (fl.lookup c).getD [], fun _ _ _ _ => False, fun _ h => h, fun h => h.elim, fun _ _ => False, fun h => h.elim, []⟩
theorem glc_tup {G : Glob} {mg : Str → Option Value} {x : Str} {a : Addr} {cd : Option Addr} {its : Array Value} {n : Nat} {sl : Array (Option Value)} {vs : List V} {ds : List D} (m : mg x = some (.ref a)) (l : G.K.lookup a = some ⟨.type "tuple", cd, .seq its n, sl⟩)
    (hz : its.size ≤ LIM) (r : Vals vs its.toList) (rp : ∀ Hs, RpL G Hs ds vs) : GlC G mg x (.tup ds) :=
  ⟨.ref a, _, m, rfl, fun Hs => by rw [Rp]; exact ⟨a, vs, rfl, .inr ⟨_, its, n, l, rfl, rfl, by rw [← lim_eq]; exact hz, r⟩, rp Hs⟩⟩
/-- what is tracked but the tables -/
def noTb (H : Hp) : Hp := fun b => match H b with
  | some (.tbl _) => none
  | o => o
theorem noTb_same {H : Hp} : Same (noTb H) H := fun b u e => by
  unfold noTb at e
  split at e
  · cases e
  · exact e
theorem noTb_at {H : Hp} {b : Addr} {o : HO} (e : H b = some o) (n : ∀ ps, o ≠ .tbl ps) : noTb H b = some o := by
  unfold noTb
  split
  · rename_i ps q
    rw [e] at q
    exact absurd (Option.some.inj q) (n ps)
  · exact e
theorem noTb_of {H : Hp} : ∀ b ps, noTb H b ≠ some (.tbl ps) := fun b ps e => by
  unfold noTb at e
  split at e
  · cases e
  · rename_i n
    exact n ps e
theorem noTb_seq {K : PySem.W.Frag} {H : Hp} {a : Addr} {vs : List V} (h : SqL K H a vs) : SqL K (noTb H) a vs := by
  rcases h with (h | ⟨o, h⟩) | h
  · exact .inl (.inl (noTb_at h fun _ z => (nomatch z)))
  · exact .inl (.inr ⟨o, noTb_at h fun _ z => (nomatch z)⟩)
  · exact .inr h
/-- the promise of a law, by its own function; T: its tables -/
def SpXT (K : PySem.W.Frag) (T : List NdefX.NTab) (na : Nat) (F : List O → Rf) : Sp := fun vs H Q _ => ∃ a ns, na = 1 ∧ vs = [.ref a] ∧ SqL K H a (ns.map V.int) ∧ NdefX.TabsN T H ∧ F [.stb (.scr ns)] = .ok (.stb (.bl true)) [] ∧ ∀ v H', v = .bl true → Q v H'
abbrev SpX (K : PySem.W.Frag) (na : Nat) (F : List O → Rf) : Sp := SpXT K [] na F
theorem spx_of {G : Glob} {K : PySem.W.Frag} {na : Nat} {F : List O → Rf} {vs : List V} {H : Hp} {Q : VK} {E : XK} (g : G.K = K) (h : SpXT K G.tabs na F vs H Q E) : SpF G na 0 F vs H Q E := by
  obtain ⟨a, ns, rfl, rfl, hS, tb, law, hq⟩ := h
  refine ⟨noTb H, [], [.stb (.scr ns)], rfl, noTb_same, ⟨tb, noTb_of⟩, ?_, List.nodup_nil, by simp, ?_⟩
  · rw [OwnL]
    refine ⟨_, _, [], [], rfl, rfl, ?_, by rw [OwnL]; exact ⟨rfl, rfl⟩⟩
    rw [Own, Rp, g]
    exact ⟨rfl, a, rfl, noTb_seq hS⟩
  · rw [law]
    intro v Hs' H' f1 f2 _ _ _ _ _ _ ow _ _
    rw [Own, Rp] at ow
    exact hq v H' ow.2
theorem law_spx {K : PySem.W.Frag} {F : List O → Rf} {H : Hp} {a : Addr} {ns : List Int} {E : XK} (law : F [.stb (.scr ns)] = .ok (.stb (.bl true)) []) (hS : SqL K H a (ns.map V.int)) : SpX K 1 F [.ref a] H (fun v _ => v = .bl true) E :=
  ⟨a, ns, rfl, rfl, hS, (fun _ h => by cases h), law, fun _ _ h => h⟩
theorem law_spxT {K : PySem.W.Frag} {T : List NdefX.NTab} {F : List O → Rf} {H : Hp} {a : Addr} {ns : List Int} {E : XK} (law : F [.stb (.scr ns)] = .ok (.stb (.bl true)) []) (hS : SqL K H a (ns.map V.int)) (tb : NdefX.TabsN T H) : SpXT K T 1 F [.ref a] H (fun v _ => v = .bl true) E :=
  ⟨a, ns, rfl, rfl, hS, tb, law, fun _ _ h => h⟩
end Lf

namespace Lf
open PySem L2 PyProof.Rows
section
variable {X : Cx} {G : Glob} {a : Act} {W : WX} {pos : Pos} {tg iter elt : Expr} {ifs : List Expr} {scope : Scope} {own : List (Str × Nat)} {fi : En → Rs (List D)} {gt : D → En → Option En} {ft : En → Rs Bool} {fe : En → Rs D} {b1 : En → Rs Bool}
/-- y = [..] on one line, what is owned lent -/
theorem js_setLcB (i : Nat) {y : Str} {py spos : Pos} (hpi : a.pv.length ≤ i) (hc : X.calm = true) (hN : X.N.Nodup) (ok : BlkOk X.N X.env.scope scope own)
    (h : ∀ a : Act, (∀ i : Nat, a.pv.length ≤ i) → (∀ ws : List Nat, ∀ v ∈ ws, a.pv.length ≤ v) → JI X G a W tg iter fi ∧
      (∀ (s : Shared) (H : Hp) (C : Addr) (cl : List (Str × Addr)) (fp : List Addr), JG (X.blk s H scope (compEnvC scope cl C X.env) fp) G a (own.map (·.2)) tg gt) ∧
      (∀ (s : Shared) (H : Hp) (C : Addr) (cl : List (Str × Addr)) (fp : List Addr), JTs (X.blk s H scope (compEnvC scope cl C X.env) fp) G a WF ifs ft) ∧
      (∀ (s : Shared) (H : Hp) (C : Addr) (cl : List (Str × Addr)) (fp : List Addr), JE (X.blk s H scope (compEnvC scope cl C X.env) fp) G a WF elt fe))
    (hy : X.N[i]? = some y := by rfl) (hyl : X.env.scope.names.lookup y = some .local := by rfl)
    (hsw : swapsWith (.ListComp elt [⟨tg, iter, ifs, 0⟩] scope pos) (some (.Name y py)) spos.line X.env = pure true := by exact sw_true rfl rfl rfl (by decide +kernel))
    (hs : ∀ x, foldedSetIterable iter X.env x = pure x := by intro _; rfl) : JS X G a W (.Assign [.Name y py] (.ListComp elt [⟨tg, iter, ifs, 0⟩] scope pos) spos) (fSetO i (fBorO (fLc fi gt ft fe (own.map (·.2))))) := by
  refine ⟨fun pins s σ H D I ⟨ρ, ts, Hs, S, k⟩ => ?_⟩
  obtain ⟨Hs', S', back⟩ := S.bor
  obtain ⟨h1, h2, h3, h4⟩ := h ⟨H, Hs', [], []⟩ (fun _ => Nat.zero_le _) (fun _ _ _ => Nat.zero_le _)
  refine (ps_setLc hc hN hy hyl hsw h1 ok h2 h3 h4 hs).run pins s σ H D I (lc_imp (a := ⟨H, Hs', [], []⟩) (W := W) (fun _ _ => Nat.zero_le _) σ H _ ⟨frE ρ, [], Hs', S', ?_⟩)
  unfold fSetO fBorO at k
  cases hx : fLc fi gt ft fe (own.map (·.2)) (frE ρ) with
  | ok o ρ1 =>
    rw [hx] at k; dsimp only at k
    by_cases hi : immO o = true
    · rw [if_pos hi] at k
      intro v Hs1 H1 S1 t1 t2
      obtain ⟨Hs2, s2, kk, S2⟩ := back ρ1 [(o, v)] Hs1 H1 S1 t1 t2
      have S3 := S2 (by simpa using hi)
      exact k _ Hs2 H1 (S3.setO hpi) s2
    · rw [if_neg hi] at k; exact False.elim k
  | exc ex ρ1 =>
    rw [hx] at k; dsimp only at k
    by_cases hi : immL ex.fs = true
    · rw [if_pos hi] at k
      intro c d Hs1 H1 S1 r
      obtain ⟨Hs2, s2, kk, S2⟩ := back ρ1 [] Hs1 H1 S1 S1.stab S1.base
      exact k c d σ Hs2 H1 (S2 (by simp)) (exr_cut kk hi r)
    · rw [if_neg hi] at k; exact False.elim k
  | bad => rw [hx] at k; exact k
theorem js_setLcFB (i : Nat) {y : Str} {py spos : Pos} (hpi : a.pv.length ≤ i) (hc : X.calm = true) (hN : X.N.Nodup) (ok : BlkOk X.N X.env.scope scope own)
    (h : ∀ a : Act, (∀ i : Nat, a.pv.length ≤ i) → (∀ ws : List Nat, ∀ v ∈ ws, a.pv.length ≤ v) → JI X G a W tg iter fi ∧
      (∀ (s : Shared) (H : Hp) (C : Addr) (cl : List (Str × Addr)) (fp : List Addr), JG (X.blk s H scope (compEnvC scope cl C X.env) fp) G a (own.map (·.2)) tg gt) ∧
      (∀ (s : Shared) (H : Hp) (C : Addr) (cl : List (Str × Addr)) (fp : List Addr), JTs (X.blk s H scope (compEnvC scope cl C X.env) fp) G a WF ifs ft) ∧
      (∀ (s : Shared) (H : Hp) (C : Addr) (cl : List (Str × Addr)) (fp : List Addr), JE (X.blk s H scope (compEnvC scope cl C X.env) fp) G a WF elt fe))
    (hy : X.N[i]? = some y := by rfl) (hyl : X.env.scope.names.lookup y = some .local := by rfl)
    (hsw : swapsWith (.ListComp elt [⟨tg, iter, ifs, 0⟩] scope pos) (some (.Name y py)) spos.line X.env = pure true := by exact sw_true rfl rfl rfl (by decide +kernel))
    (hs : ∀ x, foldedSetIterable iter X.env x = pure x := by intro _; rfl) : JS X G a W (.Assign [.Name y py] (.ListComp elt [⟨tg, iter, ifs, 0⟩] scope pos) spos) (fSet i (fFr (fBorO (fLc fi gt ft fe (own.map (·.2)))))) := by
  refine ⟨fun pins s σ H D I ⟨ρ, ts, Hs, S, k⟩ => ?_⟩
  obtain ⟨Hs', S', back⟩ := S.bor
  obtain ⟨h1, h2, h3, h4⟩ := h ⟨H, Hs', [], []⟩ (fun _ => Nat.zero_le _) (fun _ _ _ => Nat.zero_le _)
  refine (ps_setLc hc hN hy hyl hsw h1 ok h2 h3 h4 hs).run pins s σ H D I (lc_imp (a := ⟨H, Hs', [], []⟩) (W := W) (fun _ _ => Nat.zero_le _) σ H _ ⟨frE ρ, [], Hs', S', ?_⟩)
  unfold fSet fFr fBorO at k
  cases hx : fLc fi gt ft fe (own.map (·.2)) (frE ρ) with
  | ok o ρ1 =>
    rw [hx] at k; dsimp only at k
    by_cases hi : immO o = true
    · rw [if_pos hi] at k
      intro v Hs1 H1 S1 t1 t2
      obtain ⟨Hs2, s2, kk, S2⟩ := back ρ1 [(o, v)] Hs1 H1 S1 t1 t2
      have S3 := S2 (by simpa using hi)
      obtain ⟨Hs4, t4, S4, r4⟩ := S3.fr
      exact k _ Hs4 H1 (S4.set r4 hpi) (s2.trans t4)
    · rw [if_neg hi] at k; exact False.elim k
  | exc ex ρ1 =>
    rw [hx] at k; dsimp only at k
    by_cases hi : immL ex.fs = true
    · rw [if_pos hi] at k
      intro c d Hs1 H1 S1 r
      obtain ⟨Hs2, s2, kk, S2⟩ := back ρ1 [] Hs1 H1 S1 S1.stab S1.base
      exact k c d σ Hs2 H1 (S2 (by simp)) (exr_cut kk hi r)
    · rw [if_neg hi] at k; exact False.elim k
  | bad => rw [hx] at k; exact k
end

/-! owned things side by side: tuples of them -/
def fNilO : En → Rs (List O) := fun ρ => .ok [] ρ
def fConsO (f : En → Rs O) (g : En → Rs (List O)) : En → Rs (List O) := fun ρ => (f ρ).bind fun o ρ1 => (g ρ1).bind fun os ρ2 => .ok (o :: os) ρ2
def fTupO (f : En → Rs (List O)) : En → Rs O := fun ρ => (f ρ).bind fun os ρ1 => if os.length ≤ LIM then .ok (.tup os) ρ1 else .bad
/-- a field of an object goes along: the object is left -/
def fMovF (i j c : Nat) : En → Rs O := fun ρ => match getP (.fld i j c) ρ with
  | some o => .ok o (ρ.set i none)
  | none => .bad
/-- a row of owned values on top, the last one uppermost -/
def pushAll (os : List O) (vs : List V) (ts : Tm) : Tm := (os.zip vs).reverse ++ ts
def PoA (G : Glob) (a : Act) (W : WX) (ts : Tm) (σ : L2.St) (Hs H : Hp) (Q : List V → Hp → Prop) : Rs (List O) → Prop
  | .ok os ρ' => ∀ vs Hs' H', os.length = vs.length → Sta G a ρ' (os.zip vs ++ ts) σ Hs' H' → Same Hs Hs' → Kp H H' → Q vs H'
  | .exc e ρ' => ∀ c d Hs' H', Sta G a ρ' ts σ Hs' H' → ExR G Hs' e c d → W c d σ H'
  | .bad => False
def tAO (G : Glob) (a : Act) (W : WX) (f : En → Rs (List O)) : TA := fun σ H Q => ∃ ρ ts Hs, Sta G a ρ ts σ Hs H ∧ PoA G a W ts σ Hs H Q (f ρ)
abbrev JAO (X : Cx) (G : Glob) (a : Act) (W : WX) (es : List Expr) (f : En → Rs (List O)) : Prop := PA X es (tAO G a W f)
section
variable {X : Cx} {G : Glob} {a : Act} {W : WX} {e : Expr} {es : List Expr} {pos npos apos : Pos} {fo : En → Rs O} {fs : En → Rs (List O)} {x : Str} {ts : Tm} {σ : L2.St} {Hs H Hs' H' : Hp} {ρ : En}
theorem tmo_split : ∀ {os : List O} {vs : List V} {ts : Tm} {f : List Addr}, os.length = vs.length → TmO G H Hs (os.zip vs ++ ts) f → ∃ f1 f2, f = f1 ++ f2 ∧ OwnL G H Hs os vs f1 ∧ TmO G H Hs ts f2
  | [], [], ts, f, _, h => ⟨[], f, rfl, by rw [OwnL]; exact ⟨rfl, rfl⟩, h⟩
  | o :: os, v :: vs, ts, f, hl, h => by
    obtain ⟨f1, f2, rfl, ow, t⟩ := h
    obtain ⟨g1, g2, rfl, ol, t2⟩ := tmo_split (by simpa using hl) t
    exact ⟨f1 ++ g1, g2, by simp, by rw [OwnL]; exact ⟨v, vs, f1, g1, rfl, rfl, ow, ol⟩, t2⟩
  | [], _ :: _, _, _, hl, _ => by simp at hl
  | _ :: _, [], _, _, hl, _ => by simp at hl
theorem tmo_join : ∀ {os : List O} {vs : List V} {ts : Tm} {f1 f2 : List Addr}, OwnL G H Hs os vs f1 → TmO G H Hs ts f2 → TmO G H Hs (os.zip vs ++ ts) (f1 ++ f2)
  | [], vs, ts, f1, f2, h, h2 => by
    rw [OwnL] at h
    obtain ⟨rfl, rfl⟩ := h
    exact h2
  | o :: os, vs, ts, f1, f2, h, h2 => by
    rw [OwnL] at h
    obtain ⟨v, rest, g1, g2, rfl, rfl, ow, t⟩ := h
    exact ⟨g1, g2 ++ f2, by simp, ow, tmo_join t h2⟩
/-- another order of the footprints -/
theorem Sta.perm {ts' : Tm} (S : Sta G a ρ ts σ Hs H) (h : ∀ f, TmO G H Hs ts f → ∃ f', TmO G H Hs ts' f' ∧ f'.Perm f) : Sta G a ρ ts' σ Hs H := by
  obtain ⟨f1, f2, h1, h2, nd, hf⟩ := S.own
  obtain ⟨f', h3, pm⟩ := h f2 h2
  refine ⟨S.sub, S.base, S.tabs, S.stab, S.frsh, S.pin, f1, f', h1, h3, ((List.Perm.append_left f1 pm).nodup_iff).mpr nd, fun b hb => hf b ?_⟩
  rcases List.mem_append.mp hb with q | q
  · exact List.mem_append_left _ q
  · exact List.mem_append_right _ (pm.mem_iff.mp q)
theorem jao_nil : JAO X G a W [] fNilO := pa_nil.imp fun σ H Q ⟨ρ, ts, Hs, S, k⟩ => k [] Hs H rfl S (Same.refl _) (Kp.refl _)
theorem jao_cons (h1 : JO X G a W e fo) (h2 : JAO X G a W es fs) (hs : starEach (e :: es) X.env = (false, eval e X.env) :: starEach es X.env := by rfl) : JAO X G a W (e :: es) (fConsO fo fs) := by
  refine (pa_cons h1 h2 hs).imp fun σ H Q ⟨ρ, ts, Hs, S, k⟩ => ⟨ρ, ts, Hs, S, ?_⟩
  unfold fConsO at k
  cases hx : fo ρ with
  | bad => rw [hx] at k; exact False.elim k
  | exc ex ρ1 => rw [hx] at k; exact k
  | ok o ρ1 =>
    rw [hx] at k
    intro x Hs1 H1 S1 t1 t2
    refine ⟨ρ1, (o, x) :: ts, Hs1, S1, ?_⟩
    have k' : PoA G a W ts σ Hs H Q ((fs ρ1).bind fun os ρ2 => .ok (o :: os) ρ2) := k
    cases hy : fs ρ1 with
    | bad => rw [hy] at k'; exact False.elim k'
    | exc ex ρ2 => rw [hy] at k'; exact fun c d Hs2 H2 S2 r2 => k' c d Hs2 H2 S2.drop r2
    | ok os ρ2 =>
      rw [hy] at k'
      intro vs Hs2 H2 hl S2 t3 t4
      refine k' (x :: vs) Hs2 H2 (by simp [hl]) (S2.perm fun f hf => ?_) (t1.trans t3) (t2.trans t4)
      obtain ⟨f1, f2, rfl, ol, t⟩ := tmo_split hl hf
      obtain ⟨g1, g2, rfl, ow, t'⟩ := t
      exact ⟨g1 ++ (f1 ++ g2), ⟨g1, f1 ++ g2, rfl, ow, tmo_join ol t'⟩, by rw [← List.append_assoc, ← List.append_assoc]; exact List.Perm.append_right _ List.perm_append_comm⟩
theorem jo_tupO {x1} (h : JAO X G a W es fs) : JO X G a W (.Tuple es x1 pos) (fTupO fs) := by
  refine (pe_tup h).imp fun σ H Q ⟨ρ, ts, Hs, S, k⟩ => ⟨ρ, ts, Hs, S, ?_⟩
  unfold fTupO at k
  cases hx : fs ρ with
  | bad => rw [hx] at k; exact False.elim k
  | exc ex ρ1 => rw [hx] at k; exact k
  | ok os ρ1 =>
    rw [hx] at k
    intro vs Hs1 H1 hlv S1 t1 t2
    have k' : PoO G a W ts σ Hs H Q (if os.length ≤ LIM then .ok (.tup os) ρ1 else .bad) := k
    by_cases hl : os.length ≤ LIM
    · rw [if_pos hl] at k'
      refine ⟨by rw [← hlv, ← lim_eq]; exact hl, fun p hp => ?_⟩
      have S2 := S1.new (o := .tup vs) hp
      have s1 : Same Hs1 (upd Hs1 p (.tup vs)) := Same.new (S1.sub.free hp)
      refine k' (.ref p) _ _ (S2.perm fun f hf => ?_) (t1.trans s1) (t2.trans (Kp.new hp))
      obtain ⟨f1, f2, rfl, ol, t⟩ := tmo_split hlv hf
      exact ⟨f1 ++ f2, ⟨f1, f2, rfl, by rw [Own]; exact ⟨p, vs, rfl, upd_same, ol⟩, t⟩, List.Perm.refl _⟩
    · rw [if_neg hl] at k'; exact False.elim k'
theorem jo_movF (i j c : Nat) {f : Str} (ok : FldOk G X.K c j f) (hN : X.N[i]? = some x := by rfl) (hv : Vis X.env.scope x := by first | exact Or.inl rfl | exact Or.inr (Or.inl rfl) | exact Or.inr (Or.inr rfl)) (hd : (x == ("__debug__" : Str)) = false := by decide)
    (hcd : (x == ("__classdict__" : Str)) = false := by decide) (hb : attributeBase (.Name x npos) f X.env (eval (.Name x npos) X.env) = eval (.Name x npos) X.env := by rfl) : JO X G a W (.Attribute (.Name x npos) f apos) (fMovF i j c) := by
  refine (pe_fld (pe_var hN hv hd hcd) hb).imp fun σ H Q ⟨ρ, ts, Hs, S, k⟩ => ?_
  unfold fMovF at k
  cases hg : getP (.fld i j c) ρ with
  | none => rw [hg] at k; exact False.elim k
  | some o =>
    rw [hg] at k
    obtain ⟨os, h1, h2⟩ := getP_fld hg
    obtain ⟨vo, hvo, S1⟩ := S.take h1
    obtain ⟨f1, f2, e1, e2, nd, hf⟩ := S1.own
    obtain ⟨go, f3, rfl, ow, e3⟩ := e2
    have ow' := ow
    rw [Own] at ow
    obtain ⟨p, C, dx, vs, g, rfl, hp, hC, hl, rfl, ol⟩ := ow
    obtain ⟨v, q1, fo, q2, hv2, rfl, ow2, _⟩ := ownl_at j ol h2
    obtain ⟨cl, na⟩ := ok.cl C hC
    refine ⟨.ref p, hvo, p, C, dx, _, v, rfl, hp, cl, na, lookup_zip ok.nd ok.ix hv2, k v Hs H ?_ (Same.refl _) (Kp.refl _)⟩
    refine ⟨S1.sub, S1.base, S1.tabs, S1.stab, S1.frsh, S1.pin, f1, fo ++ f3, e1, ⟨fo, f3, rfl, ow2, e3⟩, ?_, fun b hb => hf b ?_⟩
    · refine nd.sublist (List.Sublist.append (List.Sublist.refl _) (List.Sublist.append ?_ (List.Sublist.refl _)))
      exact ((List.sublist_append_left fo q2).trans (List.sublist_append_right q1 _)).trans (List.sublist_cons_self _ _)
    · rcases List.mem_append.mp hb with q | q
      · exact List.mem_append_left _ q
      · refine List.mem_append_right _ ?_
        rcases List.mem_append.mp q with q | q
        · exact List.mem_append_left _ (by simp [q])
        · exact List.mem_append_right _ q
end

/-! the j-th of a tuple that is owned -/
theorem getP_tix {pl : Pl} {j : Nat} {ρ : En} {o : O} (h : getP (.tix pl j) ρ = some o) : ∃ os, getP pl ρ = some (.tup os) ∧ os[j]? = some o := by
  cases e : getP pl ρ with
  | none => simp [getP, e] at h
  | some x =>
    cases x with
    | tup os => simp only [getP, e] at h; exact ⟨os, rfl, h⟩
    | _ => simp [getP, e] at h
theorem at_natN {α : Type} {xs : List α} {i : Nat} {x : α} (h : xs[i]? = some x) : atI xs (i : Int) = some x := by
  have hl : i < xs.length := (List.getElem?_eq_some_iff.mp h).1
  unfold atI ixN
  have h1 : (0 : Int) ≤ (i : Int) := by omega
  have h2 : (i : Int) < (xs.length : Int) := by omega
  simp only [h1, h2, if_true, Int.toNat_natCast]
  exact h
theorem pl_tix {X : Cx} {G : Glob} {a : Act} {e : Expr} {pl : Pl} {pos p2 : Pos} {jj : Nat} (j : Nat) (pk : PlOk X G a e pl) (g : X.K = G.K) : PlOk X G a (.Subscript e (.Constant (.int (j : Nat)) jj p2) pos) (.tix pl j) := by
  obtain ⟨to, he, hat⟩ := pk
  refine ⟨_, pe_ix ix_tup he pe_int (fun _ _ => rfl), fun ρ ts σ Hs H o S e => ?_⟩
  obtain ⟨os, h1, h2⟩ := getP_tix e
  obtain ⟨v0, hv0, later⟩ := hat ρ ts σ Hs H _ S h1
  obtain ⟨⟨f0, ow⟩, _⟩ := later ρ ts Hs H _ (Kp.refl _) S h1
  rw [Own] at ow
  obtain ⟨p, vs, rfl, sq, ol⟩ := ow
  obtain ⟨v, q1, fo, q2, hv, rfl, ow2, _⟩ := ownl_at j ol h2
  have sqH : SqT X.K H p vs := SqT.of (S.sub _ _ sq)
  refine ⟨v, fun Q q => hv0 _ ⟨p, vs, (j : Int), v, rfl, rfl, sqH, at_natN hv, q⟩, fun ρ' ts' Hs' H' o' s S' e' => ?_⟩
  obtain ⟨os', h1', h2'⟩ := getP_tix e'
  obtain ⟨⟨f0', ow'⟩, wr⟩ := later ρ' ts' Hs' H' _ s S' h1'
  have ident : ∀ {vs' : List V}, Hs' p = some (.tup vs') → vs' = vs := fun {vs'} sq' => by
    have a1 := Kp.at s (S.sub _ _ sq) (fun _ z => (nomatch z))
    have a2 := S'.sub _ _ sq'
    rw [a1] at a2
    injection a2 with a2
    injection a2 with a2
    exact a2.symm
  rw [Own] at ow'
  obtain ⟨p', vs', ep, sq', ol'⟩ := ow'
  cases ep
  have ev := ident sq'
  subst ev
  obtain ⟨v', q1', fo', q2', hv', rfl, ow2', _⟩ := ownl_at j ol' h2'
  rw [hv] at hv'
  cases hv'
  refine ⟨⟨fo', ow2'⟩, fun pp u o'' h => ?_⟩
  simp only [setP, h1']
  refine wr pp u _ fun f3 nd3 ow3 => ?_
  rw [Own] at ow3
  obtain ⟨p3, vs3, ep, sq3, ol3⟩ := ow3
  cases ep
  have ev := ident sq3
  subst ev
  obtain ⟨v3, a1, fo3, a2, hv3, rfl, ow4, up⟩ := ownl_at j ol3 h2'
  rw [hv] at hv3
  cases hv3
  have n1 := List.nodup_append.mp nd3
  have n2 := List.nodup_append.mp n1.2.1
  obtain ⟨m1, m2⟩ := h fo3 n2.1 ow4
  refine ⟨by simp [m1], ?_⟩
  rw [Own]
  refine ⟨p, vs3, rfl, sq3, ?_⟩
  have up2 := up (upd H' pp u) Hs' o'' v fo3 (Same.refl _) (fun b hb => upd_ne (by
    rintro rfl
    rcases List.mem_append.mp hb with z | z
    · exact n1.2.2 b z b (by simp [m1]) rfl
    · exact n2.2.2 b m1 b z rfl)) m2
  rw [set_self hv] at up2
  exact up2
end Lf

namespace Lf
open PySem L2 PyProof.Rows
/-! the plain values of the combinators, for simp: a machine without letters bound, so that simp never goes into what stands behind -/
theorem nr {α : Sort _} {a b : α} (h : a = b) : a = b := h
section
variable {α β : Type}
def kB1 (g : D → D → Option D) (f2 : En → Rs D) (x : Rs D) : Rs D := x.bind fun d1 ρ1 => (f2 ρ1).bind fun d2 ρ2 => lift (g d1 d2) ρ2
def kB2 (g : D → D → Option D) (d1 : D) (x : Rs D) : Rs D := x.bind fun d2 ρ2 => lift (g d1 d2) ρ2
def kU (g : D → Option D) (x : Rs D) : Rs D := x.bind fun d1 ρ2 => lift (g d1) ρ2
def kTe (x : Rs D) : Rs Bool := x.bind fun d ρ1 => lift (asB d) ρ1
def kAn (c : En → Rs Bool) (x : Rs Bool) : Rs Bool := x.bind fun b ρ1 => if b = true then c ρ1 else .ok false ρ1
def kOr (c : En → Rs Bool) (x : Rs Bool) : Rs Bool := x.bind fun b ρ1 => if b = true then .ok true ρ1 else c ρ1
def kNo (x : Rs Bool) : Rs Bool := x.bind fun b ρ1 => .ok (!b) ρ1
def kIfE (f1 f2 : En → Rs D) (x : Rs Bool) : Rs D := x.bind fun b ρ1 => if b = true then f1 ρ1 else f2 ρ1
def kAnV (f2 : En → Rs D) (x : Rs D) : Rs D := x.bind fun d ρ1 => match d with | .bl true => f2 ρ1 | .bl false => .ok (.bl false) ρ1 | _ => .bad
def kOrV (f2 : En → Rs D) (x : Rs D) : Rs D := x.bind fun d ρ1 => match d with | .bl true => .ok (.bl true) ρ1 | .bl false => f2 ρ1 | _ => .bad
def kNoV (x : Rs D) : Rs D := x.bind fun d ρ1 => match d with | .bl b => .ok (.bl (!b)) ρ1 | _ => .bad
def kC1 (fa : En → Rs (List D)) (x : Rs D) : Rs (List D) := x.bind fun d ρ1 => (fa ρ1).bind fun ds ρ2 => .ok (d :: ds) ρ2
def kC2 (d : D) (x : Rs (List D)) : Rs (List D) := x.bind fun ds ρ2 => .ok (d :: ds) ρ2
def kCall (g : List D → Option D) (x : Rs (List D)) : Rs D := x.bind fun ds ρ2 => lift (g ds) ρ2
def kFr (x : Rs O) : Rs D := x.bind fun o ρ1 => .ok (fr o) ρ1
def kSt (x : Rs D) : Rs O := x.bind fun o ρ1 => .ok (.stb o) ρ1
def kCalO (Fm : List O → Rf) (na : Nat) (x : Rs (List D)) : Rs O := x.bind fun ds ρ1 => if ds.length = na then ofRf (Fm (ds.map .stb)) ρ1 else .bad
def kPa (x : Rs D) : Rs (Option Int) := x.bind fun d ρ1 => lift (asI d) ρ1
def kS1 (lo hi : En → Rs (Option Int)) (x : Rs D) : Rs D := x.bind fun d ρ1 => (lo ρ1).bind fun l ρ2 => (hi ρ2).bind fun h ρ3 => lift (dSl d l h) ρ3
def kS2 (hi : En → Rs (Option Int)) (d : D) (x : Rs (Option Int)) : Rs D := x.bind fun l ρ2 => (hi ρ2).bind fun h ρ3 => lift (dSl d l h) ρ3
def kS3 (d : D) (l : Option Int) (x : Rs (Option Int)) : Rs D := x.bind fun h ρ3 => lift (dSl d l h) ρ3
def kIt (x : Rs D) : Rs (List D) := x.bind fun d ρ1 => lift (dItems d) ρ1
def kWa (g : List D → Option (List D)) (x : Rs (List D)) : Rs (List D) := x.bind fun d ρ1 => lift (g d) ρ1
def kM1 (g : Str → D → Option D) (fe : En → Rs D) (x : Rs D) : Rs D := x.bind fun d1 ρ1 => match d1 with | .str z => (fe ρ1).bind fun d2 ρ2 => lift (g z d2) ρ2 | _ => .bad
def kM2 (g : Str → D → Option D) (z : Str) (x : Rs D) : Rs D := x.bind fun d2 ρ2 => lift (g z d2) ρ2
def kSeq (g : En → Ro) (x : Ro) : Ro := match x with | .nxt ρ => g ρ | r => r
def kSet (i : Nat) (x : Rs D) : Ro := x.bindS fun d ρ1 => .nxt (ρ1.set i (some (.stb d)))
def kSetO (i : Nat) (x : Rs O) : Ro := x.bindS fun d ρ1 => .nxt (ρ1.set i (some d))
def kAsg (gt : D → En → Option En) (x : Rs D) : Ro := x.bindS fun d ρ1 => match gt d ρ1 with | some ρ2 => .nxt ρ2 | none => .bad
def kRet (x : Rs D) : Ro := x.bindS fun d ρ1 => .ret (.stb d) ρ1
def kRetO (x : Rs O) : Ro := x.bindS fun d ρ1 => .ret d ρ1
def kDr {α : Type} (x : Rs α) : Ro := x.bindS fun _ ρ1 => .nxt ρ1
def kIf (g1 g2 : En → Ro) (x : Rs Bool) : Ro := x.bindS fun b ρ1 => if b = true then g1 ρ1 else g2 ρ1
def kFor (gt : D → En → Option En) (body : En → Ro) (x : Rs (List D)) : Ro := x.bindS fun ds ρ1 => forL gt body ds ρ1
end
section
variable {f f1 f2 : En → Rs D} {fo : En → Rs O} {b c b2 : En → Rs Bool} {g1 g2 : En → Ro} {fa : En → Rs (List D)} {ρ : En} {i : Nat} {gt : D → En → Option En} {α : Type} {x : α} {e : Ex} {d d1 : D} {o : O} {ds : List D} {t : Bool} {l h : Option Int} {fl fh : En → Rs (Option Int)} {z : Str}
@[simp] theorem get_zero {x : Option O} : (x :: ρ)[0]? = some x := nr rfl
@[simp] theorem get_succ {x : Option O} : (x :: ρ)[i + 1]? = ρ[i]? := nr rfl
@[simp] theorem lift_some : lift (some x) ρ = .ok x ρ := nr rfl
@[simp] theorem lift_none : lift (none : Option α) ρ = .bad := nr rfl
@[simp] theorem fBin_eq {g : D → D → Option D} : fBin g f1 f2 ρ = kB1 g f2 (f1 ρ) := nr rfl
@[simp] theorem fUn_eq {g : D → Option D} : fUn g f ρ = kU g (f ρ) := nr rfl
@[simp] theorem fC_eq : fC d ρ = .ok d ρ := nr rfl
@[simp] theorem fTest_eq : fTest f ρ = kTe (f ρ) := nr rfl
@[simp] theorem fAnd_eq : fAnd b c ρ = kAn c (b ρ) := nr rfl
@[simp] theorem fOr_eq : fOr b c ρ = kOr c (b ρ) := nr rfl
@[simp] theorem fNot_eq : fNot b ρ = kNo (b ρ) := nr rfl
@[simp] theorem fIfE_eq : fIfE b f1 f2 ρ = kIfE f1 f2 (b ρ) := nr rfl
@[simp] theorem fAndV_eq : fAndV f1 f2 ρ = kAnV f2 (f1 ρ) := nr rfl
@[simp] theorem fOrV_eq : fOrV f1 f2 ρ = kOrV f2 (f1 ρ) := nr rfl
@[simp] theorem fNotV_eq : fNotV f ρ = kNoV (f ρ) := nr rfl
@[simp] theorem fNil_eq : fNil ρ = .ok [] ρ := nr rfl
@[simp] theorem fCons_eq : fCons f fa ρ = kC1 fa (f ρ) := nr rfl
@[simp] theorem fCall_eq {g : List D → Option D} : fCall g fa ρ = kCall g (fa ρ) := nr rfl
@[simp] theorem fFr_eq : fFr fo ρ = kFr (fo ρ) := nr rfl
@[simp] theorem fSt_eq : fSt f ρ = kSt (f ρ) := nr rfl
@[simp] theorem fCalO_eq {Fm : List O → Rf} {na : Nat} : fCalO Fm na fa ρ = kCalO Fm na (fa ρ) := nr rfl
@[simp] theorem fNoP_eq : fNoP ρ = .ok none ρ := nr rfl
@[simp] theorem fPart_eq : fPart f ρ = kPa (f ρ) := nr rfl
@[simp] theorem fSl_eq : fSl f fl fh ρ = kS1 fl fh (f ρ) := nr rfl
@[simp] theorem fItems_eq : fItems f ρ = kIt (f ρ) := nr rfl
@[simp] theorem fWalk_eq {g : List D → Option (List D)} : fWalk g fa ρ = kWa g (fa ρ) := nr rfl
@[simp] theorem fM1_eq {g : Str → D → Option D} : fM1 g f1 f2 ρ = kM1 g f2 (f1 ρ) := nr rfl
@[simp] theorem fSeq_eq : fSeq g1 g2 ρ = kSeq g2 (g1 ρ) := nr rfl
@[simp] theorem fSet_eq : fSet i f ρ = kSet i (f ρ) := nr rfl
@[simp] theorem fSetO_eq : fSetO i fo ρ = kSetO i (fo ρ) := nr rfl
@[simp] theorem fAsg_eq : fAsg gt f ρ = kAsg gt (f ρ) := nr rfl
@[simp] theorem fRet_eq : fRet f ρ = kRet (f ρ) := nr rfl
@[simp] theorem fRetO_eq : fRetO fo ρ = kRetO (fo ρ) := nr rfl
@[simp] theorem fDrop_eq : fDrop f ρ = kDr (f ρ) := nr rfl
@[simp] theorem fDropO_eq : fDropO fo ρ = kDr (fo ρ) := nr rfl
@[simp] theorem fIf_eq : fIf b g1 g2 ρ = kIf g1 g2 (b ρ) := nr rfl
@[simp] theorem fFor_eq {fi : En → Rs (List D)} : fFor gt fi g1 ρ = kFor gt g1 (fi ρ) := nr rfl
@[simp] theorem fNxt_eq : fNxt ρ = .nxt ρ := nr rfl
@[simp] theorem fBrk_eq : fBrk ρ = .brk ρ := nr rfl
@[simp] theorem fCtn_eq : fCtn ρ = .ctn ρ := nr rfl
@[simp] theorem fRetN_eq : fRetN ρ = .ret (.stb .non) ρ := nr rfl
@[simp] theorem fYes_eq : fYes ρ = .ok true ρ := nr rfl
@[simp] theorem kB1_ok {g : D → D → Option D} : kB1 g f2 (.ok d ρ) = kB2 g d (f2 ρ) := nr rfl
@[simp] theorem kB1_exc {g : D → D → Option D} : kB1 g f2 (.exc e ρ) = .exc e ρ := nr rfl
@[simp] theorem kB2_ok {g : D → D → Option D} : kB2 g d1 (.ok d ρ) = lift (g d1 d) ρ := nr rfl
@[simp] theorem kB2_exc {g : D → D → Option D} : kB2 g d1 (.exc e ρ) = .exc e ρ := nr rfl
@[simp] theorem kU_ok {g : D → Option D} : kU g (.ok d ρ) = lift (g d) ρ := nr rfl
@[simp] theorem kU_exc {g : D → Option D} : kU g (.exc e ρ) = .exc e ρ := nr rfl
@[simp] theorem kTe_ok : kTe (.ok d ρ) = lift (asB d) ρ := nr rfl
@[simp] theorem kTe_exc : kTe (.exc e ρ) = .exc e ρ := nr rfl
@[simp] theorem kAn_ok : kAn c (.ok true ρ) = c ρ := nr rfl
@[simp] theorem kAn_exc : kAn c (.exc e ρ) = .exc e ρ := nr rfl
@[simp] theorem kAnF_ok : kAn c (.ok false ρ) = .ok false ρ := nr rfl
@[simp] theorem kOr_ok : kOr c (.ok true ρ) = .ok true ρ := nr rfl
@[simp] theorem kOr_exc : kOr c (.exc e ρ) = .exc e ρ := nr rfl
@[simp] theorem kOrF_ok : kOr c (.ok false ρ) = c ρ := nr rfl
@[simp] theorem kNo_ok : kNo (.ok t ρ) = .ok (!t) ρ := nr rfl
@[simp] theorem kNo_exc : kNo (.exc e ρ) = .exc e ρ := nr rfl
@[simp] theorem kIfE_ok : kIfE f1 f2 (.ok true ρ) = f1 ρ := nr rfl
@[simp] theorem kIfE_exc : kIfE f1 f2 (.exc e ρ) = .exc e ρ := nr rfl
@[simp] theorem kIfEF_ok : kIfE f1 f2 (.ok false ρ) = f2 ρ := nr rfl
@[simp] theorem kAnV_ok : kAnV f2 (.ok (.bl true) ρ) = f2 ρ := nr rfl
@[simp] theorem kAnV_exc : kAnV f2 (.exc e ρ) = .exc e ρ := nr rfl
@[simp] theorem kAnVF_ok : kAnV f2 (.ok (.bl false) ρ) = .ok (.bl false) ρ := nr rfl
@[simp] theorem kOrV_ok : kOrV f2 (.ok (.bl true) ρ) = .ok (.bl true) ρ := nr rfl
@[simp] theorem kOrV_exc : kOrV f2 (.exc e ρ) = .exc e ρ := nr rfl
@[simp] theorem kOrVF_ok : kOrV f2 (.ok (.bl false) ρ) = f2 ρ := nr rfl
@[simp] theorem kNoV_ok : kNoV (.ok (.bl t) ρ) = .ok (.bl (!t)) ρ := nr rfl
@[simp] theorem kNoV_exc : kNoV (.exc e ρ) = .exc e ρ := nr rfl
@[simp] theorem kC1_ok : kC1 fa (.ok d ρ) = kC2 d (fa ρ) := nr rfl
@[simp] theorem kC1_exc : kC1 fa (.exc e ρ) = .exc e ρ := nr rfl
@[simp] theorem kC2_ok : kC2 d (.ok ds ρ) = .ok (d :: ds) ρ := nr rfl
@[simp] theorem kC2_exc : kC2 d (.exc e ρ) = .exc e ρ := nr rfl
@[simp] theorem kCall_ok {g : List D → Option D} : kCall g (.ok ds ρ) = lift (g ds) ρ := nr rfl
@[simp] theorem kCall_exc {g : List D → Option D} : kCall g (.exc e ρ) = .exc e ρ := nr rfl
@[simp] theorem kFr_ok : kFr (.ok o ρ) = .ok (fr o) ρ := nr rfl
@[simp] theorem kFr_exc : kFr (.exc e ρ) = .exc e ρ := nr rfl
@[simp] theorem kSt_ok : kSt (.ok d ρ) = .ok (.stb d) ρ := nr rfl
@[simp] theorem kSt_exc : kSt (.exc e ρ) = .exc e ρ := nr rfl
@[simp] theorem kCalO_ok {Fm : List O → Rf} {na : Nat} : kCalO Fm na (.ok ds ρ) = if ds.length = na then ofRf (Fm (ds.map .stb)) ρ else .bad := nr rfl
@[simp] theorem kCalO_exc {Fm : List O → Rf} {na : Nat} : kCalO Fm na (.exc e ρ) = .exc e ρ := nr rfl
@[simp] theorem kPa_ok : kPa (.ok d ρ) = lift (asI d) ρ := nr rfl
@[simp] theorem kPa_exc : kPa (.exc e ρ) = .exc e ρ := nr rfl
@[simp] theorem kS1_ok : kS1 fl fh (.ok d ρ) = kS2 fh d (fl ρ) := nr rfl
@[simp] theorem kS1_exc : kS1 fl fh (.exc e ρ) = .exc e ρ := nr rfl
@[simp] theorem kS2_ok : kS2 fh d (.ok l ρ) = kS3 d l (fh ρ) := nr rfl
@[simp] theorem kS2_exc : kS2 fh d (.exc e ρ) = .exc e ρ := nr rfl
@[simp] theorem kS3_ok : kS3 d l (.ok h ρ) = lift (dSl d l h) ρ := nr rfl
@[simp] theorem kS3_exc : kS3 d l (.exc e ρ) = .exc e ρ := nr rfl
@[simp] theorem kIt_ok : kIt (.ok d ρ) = lift (dItems d) ρ := nr rfl
@[simp] theorem kIt_exc : kIt (.exc e ρ) = .exc e ρ := nr rfl
@[simp] theorem kWa_ok {g : List D → Option (List D)} : kWa g (.ok ds ρ) = lift (g ds) ρ := nr rfl
@[simp] theorem kWa_exc {g : List D → Option (List D)} : kWa g (.exc e ρ) = .exc e ρ := nr rfl
@[simp] theorem kM1_ok {g : Str → D → Option D} : kM1 g f2 (.ok (.str z) ρ) = kM2 g z (f2 ρ) := nr rfl
@[simp] theorem kM1_exc {g : Str → D → Option D} : kM1 g f2 (.exc e ρ) = .exc e ρ := nr rfl
@[simp] theorem kM2_ok {g : Str → D → Option D} : kM2 g z (.ok d ρ) = lift (g z d) ρ := nr rfl
@[simp] theorem kM2_exc {g : Str → D → Option D} : kM2 g z (.exc e ρ) = .exc e ρ := nr rfl
@[simp] theorem kSet_ok : kSet i (.ok d ρ) = .nxt (ρ.set i (some (.stb d))) := nr rfl
@[simp] theorem kSet_exc : kSet i (.exc e ρ) = .exc e ρ := nr rfl
@[simp] theorem kSetO_ok : kSetO i (.ok o ρ) = .nxt (ρ.set i (some o)) := nr rfl
@[simp] theorem kSetO_exc : kSetO i (.exc e ρ) = .exc e ρ := nr rfl
@[simp] theorem kRet_ok : kRet (.ok d ρ) = .ret (.stb d) ρ := nr rfl
@[simp] theorem kRet_exc : kRet (.exc e ρ) = .exc e ρ := nr rfl
@[simp] theorem kRetO_ok : kRetO (.ok o ρ) = .ret o ρ := nr rfl
@[simp] theorem kRetO_exc : kRetO (.exc e ρ) = .exc e ρ := nr rfl
@[simp] theorem kDr_ok : kDr (.ok x ρ) = .nxt ρ := nr rfl
@[simp] theorem kDr_exc : kDr (.exc e ρ : Rs α) = .exc e ρ := nr rfl
@[simp] theorem kIf_ok : kIf g1 g2 (.ok true ρ) = g1 ρ := nr rfl
@[simp] theorem kIf_exc : kIf g1 g2 (.exc e ρ) = .exc e ρ := nr rfl
@[simp] theorem kIfF_ok : kIf g1 g2 (.ok false ρ) = g2 ρ := nr rfl
@[simp] theorem kFor_ok : kFor gt g1 (.ok ds ρ) = forL gt g1 ds ρ := nr rfl
@[simp] theorem kFor_exc : kFor gt g1 (.exc e ρ) = .exc e ρ := nr rfl
@[simp] theorem kAsg_ok : kAsg gt (.ok d ρ) = (match gt d ρ with | some ρ2 => .nxt ρ2 | none => .bad) := nr rfl
@[simp] theorem kAsg_exc : kAsg gt (.exc e ρ) = .exc e ρ := nr rfl
@[simp] theorem kSeq_nxt : kSeq g2 (.nxt ρ) = g2 ρ := nr rfl
@[simp] theorem kSeq_ret : kSeq g2 (.ret o ρ) = .ret o ρ := nr rfl
@[simp] theorem kSeq_brk : kSeq g2 (.brk ρ) = .brk ρ := nr rfl
@[simp] theorem kSeq_ctn : kSeq g2 (.ctn ρ) = .ctn ρ := nr rfl
@[simp] theorem kSeq_exc : kSeq g2 (.exc e ρ) = .exc e ρ := nr rfl
@[simp] theorem kSeq_bad : kSeq g2 (.bad) = .bad := nr rfl
theorem fSeq_nxt {ρ1 : En} (h : g1 ρ = .nxt ρ1) : fSeq g1 g2 ρ = g2 ρ1 := by rw [fSeq_eq, h, kSeq_nxt]
theorem kIf_dec {c : Prop} [Decidable c] : kIf g1 g2 (.ok (decide c) ρ) = if c then g1 ρ else g2 ρ := by by_cases q : c <;> simp [q]
theorem kSeq_ite {c : Prop} [Decidable c] {r r' : Ro} : kSeq g2 (if c then r else r') = if c then kSeq g2 r else kSeq g2 r' := by split <;> rfl
@[simp] theorem ofRf_ok {os : List O} : ofRf (.ok o os) ρ = .ok o ρ := nr rfl
@[simp] theorem ofRf_exc {os : List O} : ofRf (.exc e os) ρ = .exc e ρ := nr rfl
@[simp] theorem asI_int {j : Int} : asI (.int j) = some (some j) := nr rfl
@[simp] theorem asB_bl {j : Bool} : asB (.bl j) = some j := nr rfl
@[simp] theorem gN_eq : gN i d ρ = some (ρ.set i (some (.stb d))) := nr rfl
@[simp] theorem gNl_eq : gNl [] ρ = some ρ := nr rfl
def gC2 (gs : List D → En → Option En) (ds : List D) (x : Option En) : Option En := match x with | some ρ => gs ds ρ | none => none
@[simp] theorem gC2_some {gs : List D → En → Option En} : gC2 gs ds (some ρ) = gs ds ρ := nr rfl
def gv (x : Option (Option O)) (ρ : En) : Rs D := match x with | some (some (.stb d)) => .ok d ρ | _ => .bad
def gf (i : Nat) (x : Option (Option O)) (ρ : En) : Rs D := match x with | some (some o) => .ok (fr o) (ρ.set i (some (.stb (fr o)))) | _ => .bad
def gm (i : Nat) (x : Option (Option O)) (ρ : En) : Rs O := match x with | some (some o) => .ok o (ρ.set i none) | _ => .bad
@[simp] theorem gv_some : gv (some (some (.stb d))) ρ = .ok d ρ := nr rfl
@[simp] theorem gf_some : gf i (some (some o)) ρ = .ok (fr o) (ρ.set i (some (.stb (fr o)))) := nr rfl
@[simp] theorem gm_some : gm i (some (some o)) ρ = .ok o (ρ.set i none) := nr rfl
@[simp] theorem fVar_eq : fVar i ρ = gv (ρ[i]?) ρ := nr rfl
@[simp] theorem fVarF_eq : fVarF i ρ = gf i (ρ[i]?) ρ := nr rfl
@[simp] theorem fMov_eq : fMov i ρ = gm i (ρ[i]?) ρ := nr rfl
@[simp] theorem forL_nil {body : En → Ro} : forL gt body [] ρ = .nxt ρ := nr rfl
@[simp] theorem whileN_zero {body : En → Ro} : whileN b body 0 ρ = none := nr rfl
@[simp] theorem fr_stb : fr (.stb d) = d := by rw [fr]
@[simp] theorem fr_lst : fr (.lst ds) = .lst ds := by rw [fr]
@[simp] theorem toRf_ret : toRf 0 (.ret o ρ) = .ok o [] := nr rfl
@[simp] theorem toRf_nxt : toRf 0 (.nxt ρ) = .ok (.stb .non) [] := nr rfl
@[simp] theorem toRf_exc : toRf 0 (.exc e ρ) = .exc e [] := nr rfl
@[simp] theorem mkF_eq {np n : Nat} {fb : En → Ro} {os : List O} : mkF np n fb os = toRf np (fb (os.map some ++ List.replicate (n - os.length) none)) := nr rfl
end
section
variable {i j : Int} {x y : Bool} {s t : Str} {xs ys : List D} {d e : D}
@[simp] theorem dAdd_int : dAdd (.int i) (.int j) = some (.int (i + j)) := nr rfl
@[simp] theorem dSub_int : dSub (.int i) (.int j) = some (.int (i - j)) := nr rfl
theorem dMul_l (h1 : -18446744073709551616 < i) (h2 : i < 18446744073709551616) : dMul (.int i) (.int j) = some (.int (i * j)) := if_pos (.inl ⟨h1, h2⟩)
theorem dMul_r (h1 : -18446744073709551616 < j) (h2 : j < 18446744073709551616) : dMul (.int i) (.int j) = some (.int (i * j)) := if_pos (.inr ⟨h1, h2⟩)
theorem dMod_pos (h : 0 < j) : dMod (.int i) (.int j) = some (.int (i % j)) := if_pos h
theorem dFdv_pos (h : 0 < j) (h2 : j < 18446744073709551616) : dFdv (.int i) (.int j) = some (.int (i / j)) := if_pos ⟨h, by
  have : j.natAbs < 2 ^ 64 := by omega
  have := (Nat.log2_lt (by omega)).2 this
  omega⟩
@[simp] theorem dAnd_int : dAnd (.int i) (.int j) = some (.int (Builtin.bitAnd i j)) := nr rfl
@[simp] theorem dOr_int : dOr (.int i) (.int j) = some (.int (Builtin.bitOr i j)) := nr rfl
@[simp] theorem dNeg_int : dNeg (.int i) = some (.int (-i)) := nr rfl
@[simp] theorem dInv_int : dInv (.int i) = some (.int (Builtin.bitNot i)) := nr rfl
@[simp] theorem dLt_int : dLt (.int i) (.int j) = some (.bl (decide (i < j))) := nr rfl
@[simp] theorem dLe_int : dLe (.int i) (.int j) = some (.bl (decide (i ≤ j))) := nr rfl
@[simp] theorem dGt_int : dGt (.int i) (.int j) = some (.bl (decide (j < i))) := nr rfl
@[simp] theorem dGe_int : dGe (.int i) (.int j) = some (.bl (decide (j ≤ i))) := nr rfl
@[simp] theorem dIx_lst : dIx (.lst xs) (.int i) = atI xs i := nr rfl
@[simp] theorem dIx_tup : dIx (.tup xs) (.int i) = atI xs i := nr rfl
@[simp] theorem dIx_scr {ns : List Int} : dIx (.scr ns) (.int i) = (atI ns i).map .int := nr rfl
@[simp] theorem bLen_lst : bLen [.lst xs] = some (.int xs.length) := nr rfl
@[simp] theorem bLen_tup : bLen [.tup xs] = some (.int xs.length) := nr rfl
@[simp] theorem bLen_scr {ns : List Int} : bLen [.scr ns] = some (.int ns.length) := nr rfl
@[simp] theorem bInt_int : bInt [.int i] = some (.int i) := nr rfl
@[simp] theorem bInt_bl : bInt [.bl x] = some (.int (if x then 1 else 0)) := nr rfl
@[simp] theorem bAll_lst : bAll [.lst xs] = (blsD xs).map fun ns => .bl (ns.all id) := nr rfl
@[simp] theorem bAny_lst : bAny [.lst xs] = (blsD xs).map fun ns => .bl (ns.any id) := nr rfl
@[simp] theorem bSum_lst : bSum [.lst xs] = (intsD xs).map fun ns => .int ns.sum := nr rfl
@[simp] theorem bMax_lst : bMax [.lst xs] = (intsD xs).bind fun ns => (maxL ns).map .int := nr rfl
@[simp] theorem bMin_lst : bMin [.lst xs] = (intsD xs).bind fun ns => (minL ns).map .int := nr rfl
@[simp] theorem bMax_two : bMax [.int i, .int j] = some (.int (if j > i then j else i)) := nr rfl
@[simp] theorem bMin_two : bMin [.int i, .int j] = some (.int (if j < i then j else i)) := nr rfl
@[simp] theorem bAbs_int : bAbs [.int i] = some (.int (if i < 0 then -i else i)) := nr rfl
@[simp] theorem bTuple_lst : bTuple [.lst xs] = some (.tup xs) := nr rfl
@[simp] theorem bTuple_tup : bTuple [.tup xs] = some (.tup xs) := nr rfl
@[simp] theorem bList_lst : bList [.lst xs] = some (.lst xs) := nr rfl
@[simp] theorem bList_tup : bList [.tup xs] = some (.lst xs) := nr rfl
@[simp] theorem dIs_bl : dIs (.bl x) (.bl y) = some (.bl (decide (x = y))) := nr rfl
@[simp] theorem dIsN_bl : dIsN (.bl x) (.bl y) = some (.bl (!decide (x = y))) := nr rfl
@[simp] theorem dIs_non : dIs d .non = some (.bl (isNon d)) := by cases d <;> rfl
@[simp] theorem dIsN_non : dIsN d .non = some (.bl (!isNon d)) := by cases d <;> rfl
@[simp] theorem gTup_eq : gTupD xs = if xs.length ≤ 16777216 then some (.tup xs) else none := nr rfl
@[simp] theorem gLst_eq : gLstD xs = if xs.length ≤ 16777216 then some (.lst xs) else none := nr rfl
@[simp] theorem gLstO_eq : gLstO xs = if xs.length ≤ 16777216 then some (.lst xs) else none := nr rfl
theorem gTup_ok (h : xs.length ≤ 16777216) : gTupD xs = some (.tup xs) := if_pos h
theorem gLst_ok (h : xs.length ≤ 16777216) : gLstD xs = some (.lst xs) := if_pos h
theorem gRng1_int (h1 : -4611686018427387904 ≤ i) (h2 : i < 4611686018427387904) : gRng1 [.int i] = some (rngD 0 i.toNat) := if_pos ⟨h1, h2⟩
@[simp] theorem dItems_lst : dItems (.lst xs) = some xs := nr rfl
@[simp] theorem dItems_tup : dItems (.tup xs) = some xs := nr rfl
@[simp] theorem isNon_non : isNon .non = true := nr rfl
@[simp] theorem isNon_int : isNon (.int i) = false := nr rfl
@[simp] theorem isNon_str : isNon (.str s) = false := nr rfl
@[simp] theorem isNon_bl : isNon (.bl x) = false := nr rfl
@[simp] theorem isNon_tup : isNon (.tup xs) = false := nr rfl
@[simp] theorem isNon_lst : isNon (.lst xs) = false := nr rfl
@[simp] theorem bIsi_non_int : bIsi [.non, .ty "int"] = some (.bl false) := by simp [bIsi, tyN]; decide +kernel
@[simp] theorem bIsi_non_bool : bIsi [.non, .ty "bool"] = some (.bl false) := by simp [bIsi, tyN]; decide +kernel
@[simp] theorem bIsi_non_str : bIsi [.non, .ty "str"] = some (.bl false) := by simp [bIsi, tyN]; decide +kernel
@[simp] theorem bIsi_non_tuple : bIsi [.non, .ty "tuple"] = some (.bl false) := by simp [bIsi, tyN]; decide +kernel
@[simp] theorem bIsi_non_list : bIsi [.non, .ty "list"] = some (.bl false) := by simp [bIsi, tyN]; decide +kernel
@[simp] theorem bIsi_bl_int : bIsi [.bl x, .ty "int"] = some (.bl true) := by simp [bIsi, tyN]; decide +kernel
@[simp] theorem bIsi_bl_bool : bIsi [.bl x, .ty "bool"] = some (.bl true) := by simp [bIsi, tyN]; decide +kernel
@[simp] theorem bIsi_bl_str : bIsi [.bl x, .ty "str"] = some (.bl false) := by simp [bIsi, tyN]; decide +kernel
@[simp] theorem bIsi_bl_tuple : bIsi [.bl x, .ty "tuple"] = some (.bl false) := by simp [bIsi, tyN]; decide +kernel
@[simp] theorem bIsi_bl_list : bIsi [.bl x, .ty "list"] = some (.bl false) := by simp [bIsi, tyN]; decide +kernel
@[simp] theorem bIsi_int_int : bIsi [.int i, .ty "int"] = some (.bl true) := by simp [bIsi, tyN]; decide +kernel
@[simp] theorem bIsi_int_bool : bIsi [.int i, .ty "bool"] = some (.bl false) := by simp [bIsi, tyN]; decide +kernel
@[simp] theorem bIsi_int_str : bIsi [.int i, .ty "str"] = some (.bl false) := by simp [bIsi, tyN]; decide +kernel
@[simp] theorem bIsi_int_tuple : bIsi [.int i, .ty "tuple"] = some (.bl false) := by simp [bIsi, tyN]; decide +kernel
@[simp] theorem bIsi_int_list : bIsi [.int i, .ty "list"] = some (.bl false) := by simp [bIsi, tyN]; decide +kernel
@[simp] theorem bIsi_str_int : bIsi [.str s, .ty "int"] = some (.bl false) := by simp [bIsi, tyN]; decide +kernel
@[simp] theorem bIsi_str_bool : bIsi [.str s, .ty "bool"] = some (.bl false) := by simp [bIsi, tyN]; decide +kernel
@[simp] theorem bIsi_str_str : bIsi [.str s, .ty "str"] = some (.bl true) := by simp [bIsi, tyN]; decide +kernel
@[simp] theorem bIsi_str_tuple : bIsi [.str s, .ty "tuple"] = some (.bl false) := by simp [bIsi, tyN]; decide +kernel
@[simp] theorem bIsi_str_list : bIsi [.str s, .ty "list"] = some (.bl false) := by simp [bIsi, tyN]; decide +kernel
@[simp] theorem bIsi_tup_int : bIsi [.tup xs, .ty "int"] = some (.bl false) := by simp [bIsi, tyN]; decide +kernel
@[simp] theorem bIsi_tup_bool : bIsi [.tup xs, .ty "bool"] = some (.bl false) := by simp [bIsi, tyN]; decide +kernel
@[simp] theorem bIsi_tup_str : bIsi [.tup xs, .ty "str"] = some (.bl false) := by simp [bIsi, tyN]; decide +kernel
@[simp] theorem bIsi_tup_tuple : bIsi [.tup xs, .ty "tuple"] = some (.bl true) := by simp [bIsi, tyN]; decide +kernel
@[simp] theorem bIsi_tup_list : bIsi [.tup xs, .ty "list"] = some (.bl false) := by simp [bIsi, tyN]; decide +kernel
@[simp] theorem bIsi_lst_int : bIsi [.lst xs, .ty "int"] = some (.bl false) := by simp [bIsi, tyN]; decide +kernel
@[simp] theorem bIsi_lst_bool : bIsi [.lst xs, .ty "bool"] = some (.bl false) := by simp [bIsi, tyN]; decide +kernel
@[simp] theorem bIsi_lst_str : bIsi [.lst xs, .ty "str"] = some (.bl false) := by simp [bIsi, tyN]; decide +kernel
@[simp] theorem bIsi_lst_tuple : bIsi [.lst xs, .ty "tuple"] = some (.bl false) := by simp [bIsi, tyN]; decide +kernel
@[simp] theorem bIsi_lst_list : bIsi [.lst xs, .ty "list"] = some (.bl true) := by simp [bIsi, tyN]; decide +kernel
theorem beq_dec (i j : Int) : (i == j) = decide (i = j) := by rw [Bool.eq_iff_iff]; simp
@[simp] theorem dEq_int : dEq (.int i) (.int j) = some (.bl (decide (i = j))) := by
  simp [dEq, scalD, deq, beq_dec]
@[simp] theorem dNe_int : dNe (.int i) (.int j) = some (.bl (!decide (i = j))) := by
  simp [dNe, scalD, deq, beq_dec]
@[simp] theorem dEq_bl : dEq (.bl x) (.bl y) = some (.bl (x == y)) := by simp [dEq, scalD, deq]
@[simp] theorem dNe_bl : dNe (.bl x) (.bl y) = some (.bl (!(x == y))) := by simp [dNe, scalD, deq]
@[simp] theorem dEq_str : dEq (.str s) (.str t) = some (.bl (s == t)) := by simp [dEq, scalD, deq]
@[simp] theorem dNe_str : dNe (.str s) (.str t) = some (.bl (!(s == t))) := by simp [dNe, scalD, deq]
end

section
variable {f f1 f2 : En → Rs D} {fo : En → Rs O} {ft : En → Rs Bool} {fa : En → Rs (List D)} {ρ : En} {i : Nat} {gt : D → En → Option En} {e : Ex} {d d1 : D} {o : O} {ds xs : List D} {t : Bool} {l h : Option Int} {fl fh : En → Rs (Option Int)} {z : Str} {ws : List Nat} {pl : Pl} {os : List O}
def kBo1 (g : D → D → Option (List D)) (f2 : En → Rs D) (x : Rs D) : Rs O := x.bind fun d1 ρ1 => (f2 ρ1).bind fun d2 ρ2 => lift ((g d1 d2).map .lst) ρ2
def kBo2 (g : D → D → Option (List D)) (d1 : D) (x : Rs D) : Rs O := x.bind fun d2 ρ2 => lift ((g d1 d2).map .lst) ρ2
def kCaL (g : List D → Option (List D)) (x : Rs (List D)) : Rs O := x.bind fun ds ρ1 => lift ((g ds).map .lst) ρ1
def kLstO (x : Rs (List D)) : Rs O := x.bind fun ds ρ1 => lift (gLstO ds) ρ1
def kLc (gt : D → En → Option En) (ft : En → Rs Bool) (fe : En → Rs D) (ws : List Nat) (x : Rs (List D)) : Rs O := x.bind fun ds ρ1 => compL gt ft fe ws ds [] ρ1
def kSo1 (lo hi : En → Rs (Option Int)) (x : Rs D) : Rs O := x.bind fun d ρ1 => (lo ρ1).bind fun l ρ2 => (hi ρ2).bind fun h ρ3 => match d with | .lst xs => .ok (.lst (cutD xs l h)) ρ3 | _ => .bad
def kSo2 (hi : En → Rs (Option Int)) (d : D) (x : Rs (Option Int)) : Rs O := x.bind fun l ρ2 => (hi ρ2).bind fun h ρ3 => match d with | .lst xs => .ok (.lst (cutD xs l h)) ρ3 | _ => .bad
def kSo3 (d : D) (l : Option Int) (x : Rs (Option Int)) : Rs O := x.bind fun h ρ3 => match d with | .lst xs => .ok (.lst (cutD xs l h)) ρ3 | _ => .bad
def kBor (ρ : En) (x : Rs D) : Rs D := match x with
  | .ok d _ => if imm d = true then .ok d ρ else .bad
  | .exc e _ => if immL e.fs = true then .exc e ρ else .bad
  | .bad => .bad
def kBorT (ρ : En) (x : Rs Bool) : Rs Bool := match x with
  | .ok d _ => .ok d ρ
  | .exc e _ => if immL e.fs = true then .exc e ρ else .bad
  | .bad => .bad
def kBorO (ρ : En) (x : Rs O) : Rs O := match x with
  | .ok d _ => if immO d = true then .ok d ρ else .bad
  | .exc e _ => if immL e.fs = true then .exc e ρ else .bad
  | .bad => .bad
def kLm (pl : Pl) (g : List D → List D → Option (List D × D)) (x : Rs (List D)) : Rs O := x.bind fun ds ρ1 => match getP pl ρ1 with
  | some (.lst xs) => (match g xs ds with
    | some (xs', d) => .ok (.stb d) (setP pl (.lst xs') ρ1)
    | none => .bad)
  | _ => .bad
def kLm0 (pl : Pl) (g : List D → List D → Option (List D × D)) (fa : En → Rs (List D)) (ρ : En) (x : Option O) : Rs O := match x with
  | some (.lst _) => kLm pl g (fa ρ)
  | _ => .bad
def kLm2 (pl : Pl) (ρ : En) (x : Option (List D × D)) : Rs O := match x with
  | some (xs', d) => .ok (.stb d) (setP pl (.lst xs') ρ)
  | none => .bad
def kLm1 (pl : Pl) (g : List D → List D → Option (List D × D)) (ds : List D) (ρ : En) (x : Option O) : Rs O := match x with
  | some (.lst xs) => kLm2 pl ρ (g xs ds)
  | _ => .bad
def kSx (pl : Pl) (fi : En → Rs D) (x : Rs D) : Ro := x.bindS fun d ρ1 => match getP pl ρ1 with
  | some (.lst _) => (fi ρ1).bindS fun i ρ2 => match getP pl ρ2, i with
    | some (.lst xs), .int k => (match ixN xs.length k with
      | some j => .nxt (setP pl (.lst (xs.set j d)) ρ2)
      | none => .bad)
    | _, _ => .bad
  | _ => .bad
def kSx1 (pl : Pl) (fi : En → Rs D) (d : D) (ρ : En) (x : Option O) : Ro := match x with
  | some (.lst _) => (fi ρ).bindS fun i ρ2 => match getP pl ρ2, i with
    | some (.lst xs), .int k => (match ixN xs.length k with
      | some j => .nxt (setP pl (.lst (xs.set j d)) ρ2)
      | none => .bad)
    | _, _ => .bad
  | _ => .bad
def kSx2 (pl : Pl) (d : D) (x : Rs D) : Ro := x.bindS fun i ρ2 => match getP pl ρ2, i with
    | some (.lst xs), .int k => (match ixN xs.length k with
      | some j => .nxt (setP pl (.lst (xs.set j d)) ρ2)
      | none => .bad)
    | _, _ => .bad
def kSx3 (pl : Pl) (d : D) (k : Int) (ρ : En) (x : Option O) : Ro := match x with
  | some (.lst xs) => (match ixN xs.length k with
      | some j => .nxt (setP pl (.lst (xs.set j d)) ρ)
      | none => .bad)
  | _ => .bad
@[simp] theorem fBinO_eq {g : D → D → Option (List D)} : fBinO g f1 f2 ρ = kBo1 g f2 (f1 ρ) := nr rfl
@[simp] theorem kBo1_ok {g : D → D → Option (List D)} : kBo1 g f2 (.ok d ρ) = kBo2 g d (f2 ρ) := nr rfl
@[simp] theorem kBo2_ok {g : D → D → Option (List D)} : kBo2 g d1 (.ok d ρ) = lift ((g d1 d).map .lst) ρ := nr rfl
@[simp] theorem fCallL_eq {g : List D → Option (List D)} : fCallL g fa ρ = kCaL g (fa ρ) := nr rfl
@[simp] theorem kCaL_ok {g : List D → Option (List D)} : kCaL g (.ok ds ρ) = lift ((g ds).map .lst) ρ := nr rfl
@[simp] theorem fLstO_eq : fLstO fa ρ = kLstO (fa ρ) := nr rfl
@[simp] theorem kLstO_ok : kLstO (.ok ds ρ) = lift (gLstO ds) ρ := nr rfl
@[simp] theorem fLc_eq {fi : En → Rs (List D)} : fLc fi gt ft f ws ρ = kLc gt ft f ws (fi ρ) := nr rfl
@[simp] theorem kLc_ok : kLc gt ft f ws (.ok ds ρ) = compL gt ft f ws ds [] ρ := nr rfl
@[simp] theorem fSlO_eq : fSlO f fl fh ρ = kSo1 fl fh (f ρ) := nr rfl
@[simp] theorem kSo1_ok : kSo1 fl fh (.ok d ρ) = kSo2 fh d (fl ρ) := nr rfl
@[simp] theorem kSo2_ok : kSo2 fh d (.ok l ρ) = kSo3 d l (fh ρ) := nr rfl
@[simp] theorem kSo3_ok : kSo3 (.lst xs) l (.ok h ρ) = .ok (.lst (cutD xs l h)) ρ := nr rfl
@[simp] theorem fBor_eq : fBor f ρ = kBor ρ (f (frE ρ)) := nr rfl
@[simp] theorem kBor_ok {ρ' : En} : kBor ρ (.ok d ρ') = if imm d = true then .ok d ρ else .bad := nr rfl
@[simp] theorem fBorT_eq : fBorT ft ρ = kBorT ρ (ft (frE ρ)) := nr rfl
@[simp] theorem kBorT_ok {ρ' : En} : kBorT ρ (.ok t ρ') = .ok t ρ := nr rfl
@[simp] theorem fBorO_eq : fBorO fo ρ = kBorO ρ (fo (frE ρ)) := nr rfl
@[simp] theorem kBorO_ok {ρ' : En} : kBorO ρ (.ok o ρ') = if immO o = true then .ok o ρ else .bad := nr rfl
@[simp] theorem frE_nil : frE [] = [] := nr rfl
@[simp] theorem frE_none : frE (none :: ρ) = none :: frE ρ := nr rfl
@[simp] theorem frE_some : frE (some o :: ρ) = some (.stb (fr o)) :: frE ρ := nr rfl
@[simp] theorem imm_non : imm .non = true := by rw [imm]
@[simp] theorem imm_bl : imm (.bl t) = true := by rw [imm]
@[simp] theorem imm_int {j : Int} : imm (.int j) = true := by rw [imm]
@[simp] theorem imm_str : imm (.str z) = true := by rw [imm]
@[simp] theorem imm_tup : imm (.tup ds) = immL ds := by rw [imm]
@[simp] theorem immL_nil : immL [] = true := by rw [immL]
@[simp] theorem immL_cons : immL (d :: ds) = (imm d && immL ds) := by rw [immL]
@[simp] theorem immO_stb : immO (.stb d) = imm d := by rw [immO]
@[simp] theorem immO_lst : immO (.lst ds) = immL ds := by rw [immO]
@[simp] theorem immO_tup : immO (.tup os) = immOL os := by rw [immO]
@[simp] theorem immOL_nil : immOL [] = true := by rw [immOL]
@[simp] theorem immOL_cons : immOL (o :: os) = (immO o && immOL os) := by rw [immOL]
theorem immL_append {as bs : List D} : immL (as ++ bs) = (immL as && immL bs) := by
  induction as with
  | nil => simp
  | cons a as ih => simp [ih, Bool.and_assoc]
theorem immL_iff : immL ds = true ↔ ∀ d ∈ ds, imm d = true := by
  induction ds with
  | nil => simp
  | cons a as ih => simp [ih]
@[simp] theorem immL_ints {ns : List Int} : immL (ns.map .int) = true := by rw [immL_iff]; simp
@[simp] theorem immL_strs {ns : List Str} : immL (ns.map .str) = true := by rw [immL_iff]; simp
@[simp] theorem fr_tup : fr (.tup os) = .tup (frL os) := by rw [fr]
@[simp] theorem frL_nil : frL [] = [] := by rw [frL]
@[simp] theorem frL_cons : frL (o :: os) = fr o :: frL os := by rw [frL]
@[simp] theorem fLm_eq {g : List D → List D → Option (List D × D)} : fLm pl g fa ρ = kLm0 pl g fa ρ (getP pl ρ) := by
  unfold fLm kLm0 kLm; cases getP pl ρ with
  | none => rfl
  | some o => cases o <;> rfl
@[simp] theorem kLm0_some {g : List D → List D → Option (List D × D)} : kLm0 pl g fa ρ (some (.lst xs)) = kLm pl g (fa ρ) := nr rfl
@[simp] theorem kLm_ok {g : List D → List D → Option (List D × D)} : kLm pl g (.ok ds ρ) = kLm1 pl g ds ρ (getP pl ρ) := by
  show (match getP pl ρ with | some (.lst xs) => (match g xs ds with | some (xs', d) => Rs.ok (O.stb d) (setP pl (.lst xs') ρ) | none => .bad) | _ => .bad) = _
  unfold kLm1 kLm2
  cases getP pl ρ with
  | none => rfl
  | some o => cases o <;> rfl
@[simp] theorem kLm1_some {g : List D → List D → Option (List D × D)} : kLm1 pl g ds ρ (some (.lst xs)) = kLm2 pl ρ (g xs ds) := nr rfl
@[simp] theorem kLm2_some : kLm2 pl ρ (some (xs, d)) = .ok (.stb d) (setP pl (.lst xs) ρ) := nr rfl
def gp (x : Option (Option O)) : Option O := match x with | some (some o) => some o | _ => none
@[simp] theorem getP_slot_eq : getP (.slot i) ρ = gp (ρ[i]?) := nr rfl
@[simp] theorem gp_some : gp (some (some o)) = some o := nr rfl
@[simp] theorem setP_slot_eq : setP (.slot i) o ρ = ρ.set i (some o) := nr rfl
@[simp] theorem mApp_eq : mApp xs [d] = if xs.length < 16777216 then some (xs ++ [d], .non) else none := nr rfl
@[simp] theorem mExt_eq : mExt xs [.lst ds] = if xs.length + ds.length ≤ 16777216 then some (xs ++ ds, .non) else none := nr rfl
@[simp] theorem mRev_eq : mRev xs [] = some (xs.reverse, .non) := nr rfl
@[simp] theorem mClr_eq : mClr xs [] = some ([], .non) := nr rfl
@[simp] theorem mPop_eq : mPop xs [] = (xs[xs.length - 1]?).map fun d => (xs.dropLast, d) := nr rfl
@[simp] theorem fSetIx_eq {fi fv : En → Rs D} : fSetIx pl fi fv ρ = kSx pl fi (fv ρ) := nr rfl
@[simp] theorem kSx_ok {fi : En → Rs D} : kSx pl fi (.ok d ρ) = kSx1 pl fi d ρ (getP pl ρ) := by
  unfold kSx kSx1; rfl
@[simp] theorem kSx1_some {fi : En → Rs D} : kSx1 pl fi d ρ (some (.lst xs)) = kSx2 pl d (fi ρ) := nr rfl
@[simp] theorem kSx2_int {j : Int} : kSx2 pl d (.ok (.int j) ρ) = kSx3 pl d j ρ (getP pl ρ) := by
  show (match getP pl ρ, D.int j with | some (.lst xs), .int k => (match ixN xs.length k with | some j => Ro.nxt (setP pl (.lst (xs.set j d)) ρ) | none => .bad) | _, _ => .bad) = _
  unfold kSx3
  cases getP pl ρ with
  | none => rfl
  | some o => cases o <;> rfl
@[simp] theorem kSx3_some {j : Int} : kSx3 pl d j ρ (some (.lst xs)) = (match ixN xs.length j with | some n => .nxt (setP pl (.lst (xs.set n d)) ρ) | none => .bad) := nr rfl
@[simp] theorem dCatO_eq : dCatO (.lst xs) (.lst ds) = if xs.length + ds.length ≤ 16777216 then some (xs ++ ds) else none := nr rfl
@[simp] theorem bListO_lst : bListO [.lst xs] = some xs := nr rfl
@[simp] theorem bListO_tup : bListO [.tup xs] = some xs := nr rfl
/-- a comprehension -/
theorem compL_eq (ρ0 : En) (sel : D → Option D) : ∀ {ds acc : List D} {ρ : En}, wipeE ρ ws = ρ0 → acc.length + ds.length ≤ 16777216 →
    (∀ d ∈ ds, ∃ ρ1, gt d ρ0 = some ρ1 ∧ ((∃ ρ2, ft ρ1 = .ok false ρ2 ∧ wipeE ρ2 ws = ρ0 ∧ sel d = none) ∨ (∃ ρ2 x ρ3, ft ρ1 = .ok true ρ2 ∧ f ρ2 = .ok x ρ3 ∧ wipeE ρ3 ws = ρ0 ∧ sel d = some x))) →
    compL gt ft f ws ds acc ρ = .ok (.lst (acc ++ ds.filterMap sel)) ρ0
  | [], acc, ρ, h0, _, _ => by rw [compL, h0]; simp
  | d :: ds, acc, ρ, h0, hl, h => by
    rw [compL, h0]
    obtain ⟨ρ1, e1, h1⟩ := h d (by simp)
    rw [List.length_cons] at hl
    rcases h1 with ⟨ρ2, e2, w2, s2⟩ | ⟨ρ2, x, ρ3, e2, e3, w3, s3⟩
    · simp only [e1, e2]
      rw [compL_eq ρ0 sel w2 (by omega) fun d' hd' => h d' (by simp [hd'])]
      simp [s2]
    · have hlt : acc.length < LIM := by unfold LIM; omega
      simp only [e1, e2, e3, if_pos hlt]
      rw [compL_eq ρ0 sel w3 (by simp; omega) fun d' hd' => h d' (by simp [hd'])]
      simp [s3]
theorem compL_map (ρ0 : En) (g : D → D) {ds : List D} {ρ : En} (h0 : wipeE ρ ws = ρ0) (hl : ds.length ≤ 16777216)
    (h : ∀ d ∈ ds, ∃ ρ1 ρ3, gt d ρ0 = some ρ1 ∧ f ρ1 = .ok (g d) ρ3 ∧ wipeE ρ3 ws = ρ0) : compL gt fYes f ws ds [] ρ = .ok (.lst (ds.map g)) ρ0 := by
  rw [compL_eq ρ0 (fun d => some (g d)) h0 (by simpa using hl) fun d hd => by
    obtain ⟨ρ1, ρ3, e1, e3, w3⟩ := h d hd
    exact ⟨ρ1, e1, .inr ⟨ρ1, g d, ρ3, rfl, e3, w3, rfl⟩⟩]
  simp
@[simp] theorem wipeE_nil : wipeE ρ [] = ρ := nr rfl
@[simp] theorem wipeE_cons : wipeE ρ (i :: ws) = (wipeE ρ ws).set i none := nr rfl
def gCk (gs : List D → En → Option En) (ds : List D) (x : Option En) : Option En := x.bind (gs ds)
@[simp] theorem gCn_cons {gs : List D → En → Option En} : gCn gt gs (d :: ds) ρ = gCk gs ds (gt d ρ) := nr rfl
@[simp] theorem gCk_some {gs : List D → En → Option En} : gCk gs ds (some ρ) = gs ds ρ := nr rfl
@[simp] theorem gTn_tup {gs : List D → En → Option En} {n : Nat} : gTn gs n (.tup ds) ρ = if ds.length = n then gs ds ρ else none := nr rfl
end

theorem ite_eq_bl {c : Prop} [Decidable c] {f g : Ro} {k : Bool} : (if (decide c) = true then f else g) = if c then f else g := by by_cases h : c <;> simp [h]
/-! loops -/
theorem forL_step {gt : D → En → Option En} {body : En → Ro} {d : D} {ds : List D} {ρ ρ1 ρ2 : En} (h1 : gt d ρ = some ρ1) (h2 : body ρ1 = .nxt ρ2) : forL gt body (d :: ds) ρ = forL gt body ds ρ2 := by
  rw [forL, h1]
  simp only [h2]
theorem forL_ctn {gt : D → En → Option En} {body : En → Ro} {d : D} {ds : List D} {ρ ρ1 ρ2 : En} (h1 : gt d ρ = some ρ1) (h2 : body ρ1 = .ctn ρ2) : forL gt body (d :: ds) ρ = forL gt body ds ρ2 := by
  rw [forL, h1]
  simp only [h2]
theorem forL_ret {gt : D → En → Option En} {body : En → Ro} {d : D} {ds : List D} {ρ ρ1 ρ2 : En} {o : O} (h1 : gt d ρ = some ρ1) (h2 : body ρ1 = .ret o ρ2) : forL gt body (d :: ds) ρ = .ret o ρ2 := by
  rw [forL, h1]
  simp only [h2]
theorem forL_brk {gt : D → En → Option En} {body : En → Ro} {d : D} {ds : List D} {ρ ρ1 ρ2 : En} (h1 : gt d ρ = some ρ1) (h2 : body ρ1 = .brk ρ2) : forL gt body (d :: ds) ρ = .nxt ρ2 := by
  rw [forL, h1]
  simp only [h2]
theorem forL_exc {gt : D → En → Option En} {body : En → Ro} {d : D} {ds : List D} {ρ ρ1 ρ2 : En} {e : Ex} (h1 : gt d ρ = some ρ1) (h2 : body ρ1 = .exc e ρ2) : forL gt body (d :: ds) ρ = .exc e ρ2 := by
  rw [forL, h1]
  simp only [h2]
theorem whileN_go {c : En → Rs Bool} {body : En → Ro} {n : Nat} {ρ ρ1 ρ2 : En} (h1 : c ρ = .ok true ρ1) (h2 : body ρ1 = .nxt ρ2) : whileN c body (n + 1) ρ = whileN c body n ρ2 := by
  rw [whileN, h1]
  simp only [h2]
theorem whileN_stop {c : En → Rs Bool} {body : En → Ro} {n : Nat} {ρ ρ1 : En} (h1 : c ρ = .ok false ρ1) : whileN c body (n + 1) ρ = some (.nxt ρ1) := by
  rw [whileN, h1]
theorem whileN_ret {c : En → Rs Bool} {body : En → Ro} {n : Nat} {ρ ρ1 ρ2 : En} {o : O} (h1 : c ρ = .ok true ρ1) (h2 : body ρ1 = .ret o ρ2) : whileN c body (n + 1) ρ = some (.ret o ρ2) := by
  rw [whileN, h1]
  simp only [h2]
/-- a loop that goes through: the invariant by the number of rounds -/
theorem forL_inv {gt : D → En → Option En} {body : En → Ro} (I : Nat → En → Prop) {ds : List D} {ρ : En} (h0 : I 0 ρ)
    (hs : ∀ (i : Nat) (d : D) (ρ : En), ds[i]? = some d → I i ρ → ∃ ρ1 ρ2, gt d ρ = some ρ1 ∧ (body ρ1 = .nxt ρ2 ∨ body ρ1 = .ctn ρ2) ∧ I (i + 1) ρ2) : ∃ ρ', forL gt body ds ρ = .nxt ρ' ∧ I ds.length ρ' := by
  induction ds generalizing I ρ with
  | nil => exact ⟨ρ, rfl, h0⟩
  | cons d ds ih =>
    obtain ⟨ρ1, ρ2, e1, e2, i2⟩ := hs 0 d ρ rfl h0
    obtain ⟨ρ', e3, i3⟩ := ih (fun i => I (i + 1)) i2 fun i d' ρ hd => hs (i + 1) d' ρ hd
    refine ⟨ρ', ?_, i3⟩
    rcases e2 with e2 | e2
    · rw [forL_step e1 e2, e3]
    · rw [forL_ctn e1 e2, e3]
/-- a loop with a way out -/
theorem forL_out {gt : D → En → Option En} {body : En → Ro} (I : Nat → En → Prop) (R : Ro → Prop) {ds : List D} {ρ : En} (h0 : I 0 ρ)
    (hs : ∀ (i : Nat) (d : D) (ρ : En), ds[i]? = some d → I i ρ → ∃ ρ1, gt d ρ = some ρ1 ∧ ((∃ ρ2, (body ρ1 = .nxt ρ2 ∨ body ρ1 = .ctn ρ2) ∧ I (i + 1) ρ2) ∨ (∃ o ρ2, body ρ1 = .ret o ρ2 ∧ R (.ret o ρ2)) ∨ (∃ ρ2, body ρ1 = .brk ρ2 ∧ R (.nxt ρ2)) ∨ (∃ e ρ2, body ρ1 = .exc e ρ2 ∧ R (.exc e ρ2)))) :
    (∃ ρ', forL gt body ds ρ = .nxt ρ' ∧ I ds.length ρ') ∨ R (forL gt body ds ρ) := by
  induction ds generalizing I ρ with
  | nil => exact .inl ⟨ρ, rfl, h0⟩
  | cons d ds ih =>
    obtain ⟨ρ1, e1, h⟩ := hs 0 d ρ rfl h0
    rcases h with ⟨ρ2, e2, i2⟩ | ⟨o, ρ2, e2, r⟩ | ⟨ρ2, e2, r⟩ | ⟨e, ρ2, e2, r⟩
    · have q : forL gt body (d :: ds) ρ = forL gt body ds ρ2 := by
        rcases e2 with e2 | e2
        · exact forL_step e1 e2
        · exact forL_ctn e1 e2
      rw [q]
      exact ih (fun i => I (i + 1)) i2 fun i d' ρ hd => hs (i + 1) d' ρ hd
    · rw [forL_ret e1 e2]; exact .inr r
    · rw [forL_brk e1 e2]; exact .inr r
    · rw [forL_exc e1 e2]; exact .inr r
theorem rngD_get {lo : Int} {n i : Nat} {d : D} (h : (rngD lo n)[i]? = some d) : d = .int (lo + i) ∧ i < n := by
  unfold rngD at h
  rw [List.getElem?_map] at h
  by_cases hi : i < n
  · rw [List.getElem?_range hi] at h
    cases h
    exact ⟨rfl, hi⟩
  · rw [List.getElem?_eq_none (by simpa using hi)] at h
    cases h
@[simp] theorem rngD_length {lo : Int} {n : Nat} : (rngD lo n).length = n := by simp [rngD]

/-! masks -/
theorem nat_and_pow (m k : Nat) : m &&& 2 ^ k = m / 2 ^ k % 2 * 2 ^ k := by
  have hb : m / 2 ^ k % 2 = 0 ∨ m / 2 ^ k % 2 = 1 := by omega
  apply Nat.eq_of_testBit_eq
  intro i
  rw [Nat.testBit_and, Nat.testBit_two_pow]
  rcases hb with hb | hb
  · rw [hb, Nat.zero_mul, Nat.zero_testBit]
    by_cases e : k = i
    · subst e
      rw [Nat.testBit_eq_decide_div_mod_eq, hb]
      rfl
    · simp [e]
  · rw [hb, Nat.one_mul, Nat.testBit_two_pow]
    by_cases e : k = i
    · subst e
      rw [Nat.testBit_eq_decide_div_mod_eq, hb]
      rfl
    · simp [e]
theorem bitAnd_pow {m : Int} (h : 0 ≤ m) (k : Nat) : Builtin.bitAnd m (2 ^ k) = m / 2 ^ k % 2 * 2 ^ k := by
  have hp : (0 : Int) ≤ 2 ^ k := two_pow_nn k
  rw [bitAnd_pp h hp]
  have e : ((2 : Int) ^ k).toNat = 2 ^ k := by
    have : ((2 : Int) ^ k) = ((2 ^ k : Nat) : Int) := by push_cast; rfl
    rw [this, Int.toNat_natCast]
  rw [e, nat_and_pow]
  obtain ⟨n, rfl⟩ := Int.eq_ofNat_of_zero_le h
  push_cast
  simp
/-! the laws' own draw -/
def cellAt (ns : List Int) (k : Int) : Int := if ns = [] then 0 else (ns[(k % (ns.length : Int)).toNat]?).getD 0
def drawAt (ns : List Int) (k m : Int) : Int := (cellAt ns k % 2147483629 + 1) * (31 * k * k + 7919) % 2147483647 * 48271 % 2147483629 % m
theorem drawAt_nn (ns : List Int) (k : Int) {m : Int} (h : 0 < m) : 0 ≤ drawAt ns k m := Int.emod_nonneg _ (by omega)
theorem drawAt_lt (ns : List Int) (k : Int) {m : Int} (h : 0 < m) : drawAt ns k m < m := Int.emod_lt_of_pos _ h
theorem cell_ix (ns : List Int) (k : Int) (h : ns ≠ []) : (atI ns (k % (ns.length : Int))) = some (cellAt ns k) := by
  have hl : 0 < ns.length := by cases ns with | nil => exact absurd rfl h | cons _ _ => simp
  have h1 : 0 ≤ k % (ns.length : Int) := Int.emod_nonneg _ (by omega)
  have h2 : k % (ns.length : Int) < ns.length := Int.emod_lt_of_pos _ (by omega)
  unfold cellAt
  rw [if_neg h]
  generalize k % (ns.length : Int) = j at *
  have hj : j.toNat < ns.length := by omega
  unfold atI
  have e : ixN ns.length j = some j.toNat := by
    unfold ixN
    simp [h1]
    omega
  rw [e]
  simp [List.getElem?_eq_getElem hj]
def drawB : En → Ro :=
  (fSeq (fSet 3 (fC (.int 0)))
  (fSeq (fIf (fTest (fBin dGt (fCall bLen (fCons (fVar 0) fNil)) (fC (.int 0)))) (fSet 3 (fBin dMod (fBin dIx (fVar 0) (fBin dMod (fVar 1) (fCall bLen (fCons (fVar 0) fNil)))) (fC (.int 2147483629)))) fNxt)
  (fRet (fBin dMod (fBin dMod (fBin dMul (fBin dMod (fBin dMul (fBin dAdd (fVar 3) (fC (.int 1))) (fBin dAdd (fBin dMul (fBin dMul (fC (.int 31)) (fVar 1)) (fVar 1)) (fC (.int 7919)))) (fC (.int 2147483647))) (fC (.int 48271))) (fC (.int 2147483629))) (fVar 2)))))
theorem drawB_eq (ns : List Int) (k m : Int) (hk : 0 ≤ k) (hk2 : k < 4294967296) (hm : 0 < m) : mkF 0 4 drawB [.stb (.scr ns), .stb (.int k), .stb (.int m)] = .ok (.stb (.int (drawAt ns k m))) [] := by
  by_cases h : ns = []
  · subst h
    simp (disch := omega) [drawB, dMul_l, dMul_r, dMod_pos, drawAt, cellAt]
  · have hl : 0 < ns.length := by cases ns with | nil => exact absurd rfl h | cons _ _ => simp
    have hc := cell_ix ns k h
    simp (disch := omega) [drawB, dMul_l, dMul_r, dMod_pos, hl, hc]
    rfl
def wholeB : En → Ro :=
  (fRet (fAndV (fCall bIsi (fCons (fVar 0) (fCons (fC (.ty "int")) fNil))) (fNotV (fCall bIsi (fCons (fVar 0) (fCons (fC (.ty "bool")) fNil))))))
theorem wholeB_int (i : Int) : mkF 0 1 wholeB [.stb (.int i)] = .ok (.stb (.bl true)) [] := by
  simp [wholeB, bIsi, tyN, tyTab]
theorem wholeB_non : mkF 0 1 wholeB [.stb .non] = .ok (.stb (.bl false)) [] := by
  simp [wholeB, bIsi, tyN, tyTab]
end Lf

namespace Lf
open PySem L2 PyProof.Rows
/-! classes, for simp -/
section
variable {f f1 f2 : En → Rs D} {fo : En → Rs O} {fa : En → Rs (List D)} {fos : En → Rs (List O)} {ρ : En} {i j c : Nat} {d : D} {o : O} {ds : List D} {os : List O} {pl : Pl} {na : Nat} {xs : List D} {cs kids : List Nat} {α : Type} {l : List (Nat × α)} {e : Ex}
def kFld (tab : Nat → Option Nat) (x : Rs D) : Rs D := x.bind fun d ρ1 => match d with
  | .obj c xs => (match tab c with | some j => lift xs[j]? ρ1 | none => .bad)
  | _ => .bad
def kFld1 (xs : List D) (ρ : En) (x : Option Nat) : Rs D := match x with | some j => lift xs[j]? ρ | none => .bad
@[simp] theorem fFldD_eq {tab : Nat → Option Nat} : fFldD tab f ρ = kFld tab (f ρ) := nr rfl
@[simp] theorem kFld_ok {tab : Nat → Option Nat} : kFld tab (.ok (.obj c xs) ρ) = kFld1 xs ρ (tab c) := nr rfl
@[simp] theorem kFld1_some : kFld1 xs ρ (some j) = lift xs[j]? ρ := nr rfl
@[simp] theorem tabL_cons {x : α} {c0 : Nat} : tabL ((c0, x) :: l) c = if c = c0 then some x else tabL l c := by
  unfold tabL
  rw [List.lookup_cons]
  by_cases h : c = c0
  · subst h; simp
  · have : (c == c0) = false := by simpa using h
    rw [this, if_neg h]
@[simp] theorem tabL_nil : tabL ([] : List (Nat × α)) c = none := nr rfl
def kFldS (ρ : En) (x : Option O) : Rs D := match x with
  | some (.stb d) => .ok d ρ
  | _ => .bad
@[simp] theorem fFldS_eq : fFldS i j c ρ = kFldS ρ (getP (.fld i j c) ρ) := nr rfl
@[simp] theorem kFldS_stb : kFldS ρ (some (.stb d)) = .ok d ρ := nr rfl
def gpF (j c : Nat) (x : Option (Option O)) : Option O := match x with | some (some (.obj c' os)) => if c' = c then os[j]? else none | _ => none
@[simp] theorem getP_fld_eq : getP (.fld i j c) ρ = gpF j c (ρ[i]?) := by
  cases h : ρ[i]? with
  | none => simp [getP, gpF, h]
  | some x => cases x with
    | none => simp [getP, gpF, h]
    | some o => cases o <;> simp [getP, gpF, h]
@[simp] theorem gpF_some {c' : Nat} : gpF j c (some (some (.obj c' os))) = if c' = c then os[j]? else none := nr rfl
def spF (i j : Nat) (o : O) (ρ : En) (x : Option (Option O)) : En := match x with | some (some (.obj c os)) => ρ.set i (some (.obj c (os.set j o))) | _ => ρ
@[simp] theorem setP_fld_eq : setP (.fld i j c) o ρ = spF i j o ρ (ρ[i]?) := by
  cases h : ρ[i]? with
  | none => simp [setP, spF, h]
  | some x => cases x with
    | none => simp [setP, spF, h]
    | some o => cases o <;> simp [setP, spF, h]
@[simp] theorem spF_some : spF i j o ρ (some (some (.obj c os))) = ρ.set i (some (.obj c (os.set j o))) := nr rfl
def gpT (j : Nat) (x : Option O) : Option O := match x with | some (.tup os) => os[j]? | _ => none
@[simp] theorem getP_tix_eq : getP (.tix pl j) ρ = gpT j (getP pl ρ) := by
  cases h : getP pl ρ with
  | none => simp [getP, gpT, h]
  | some o => cases o <;> simp [getP, gpT, h]
@[simp] theorem gpT_some : gpT j (some (.tup os)) = os[j]? := nr rfl
def spT (pl : Pl) (j : Nat) (o : O) (ρ : En) (x : Option O) : En := match x with | some (.tup os) => setP pl (.tup (os.set j o)) ρ | _ => ρ
@[simp] theorem setP_tix_eq : setP (.tix pl j) o ρ = spT pl j o ρ (getP pl ρ) := by
  cases h : getP pl ρ with
  | none => simp [setP, spT, h]
  | some o => cases o <;> simp [setP, spT, h]
@[simp] theorem spT_some : spT pl j o ρ (some (.tup os)) = setP pl (.tup (os.set j o)) ρ := nr rfl
def kFS (i j c : Nat) (x : Rs O) : Ro := x.bindS fun o ρ1 => match ρ1[i]? with
  | some (some (.obj c' os)) => if c' = c ∧ j ≤ os.length then .nxt (ρ1.set i (some (.obj c (putO j os o)))) else .bad
  | _ => .bad
def kFS1 (i j c : Nat) (o : O) (ρ : En) (x : Option (Option O)) : Ro := match x with
  | some (some (.obj c' os)) => if c' = c ∧ j ≤ os.length then .nxt (ρ.set i (some (.obj c (putO j os o)))) else .bad
  | _ => .bad
@[simp] theorem fFldSet_eq : fFldSet i j c fo ρ = kFS i j c (fo ρ) := nr rfl
@[simp] theorem kFS_ok : kFS i j c (.ok o ρ) = kFS1 i j c o ρ (ρ[i]?) := nr rfl
@[simp] theorem kFS1_some {c' : Nat} : kFS1 i j c o ρ (some (some (.obj c' os))) = if c' = c ∧ j ≤ os.length then .nxt (ρ.set i (some (.obj c (putO j os o)))) else .bad := nr rfl
@[simp] theorem putO_nil : putO 0 [] o = [o] := nr rfl
@[simp] theorem putO_zero {o' : O} : putO 0 (o' :: os) o = o :: os := by simp [putO]
@[simp] theorem putO_succ {o' : O} : putO (j + 1) (o' :: os) o = o' :: putO j os o := by
  unfold putO
  by_cases h : j < os.length
  · rw [if_pos h, if_pos (by simpa using h)]; rfl
  · rw [if_neg h, if_neg (by simpa using h)]; rfl
def kMk (c : Nat) (Fi : List O → Rf) (na : Nat) (x : Rs (List D)) : Rs O := x.bind fun ds ρ1 =>
  if ds.length + 1 = na then (match Fi (.obj c [] :: ds.map .stb) with
    | .ok (.stb .non) [o] => .ok o ρ1
    | .exc e [o] => .exc e ρ1
    | _ => .bad) else .bad
def kMk1 (ρ : En) (x : Rf) : Rs O := match x with
    | .ok (.stb .non) [o] => .ok o ρ
    | .exc e [o] => .exc e ρ
    | _ => .bad
@[simp] theorem fMake_eq {Fi : List O → Rf} : fMake c Fi na fa ρ = kMk c Fi na (fa ρ) := nr rfl
@[simp] theorem kMk_ok {Fi : List O → Rf} : kMk c Fi na (.ok ds ρ) = if ds.length + 1 = na then kMk1 ρ (Fi (.obj c [] :: ds.map .stb)) else .bad := nr rfl
@[simp] theorem kMk1_ok : kMk1 ρ (.ok (.stb .non) [o]) = .ok o ρ := nr rfl
@[simp] theorem kMk1_exc : kMk1 ρ (.exc e [o]) = .exc e ρ := nr rfl
@[simp] theorem fMake0_eq : fMake0 c ρ = .ok (.obj c []) ρ := nr rfl
def kMV (tab : Nat → Option (List O → Rf)) (na : Nat) (fa : En → Rs (List D)) (x : Rs D) : Rs O := match x with
  | .ok (.obj c xs) ρ1 => (match tab c with
    | some F => (fa ρ1).bind fun ds ρ2 => if ds.length + 1 = na then ofRf (F (.stb (.obj c xs) :: ds.map .stb)) ρ2 else .bad
    | none => .bad)
  | _ => .bad
def kMV1 (na c : Nat) (xs : List D) (fa : En → Rs (List D)) (ρ : En) (x : Option (List O → Rf)) : Rs O := match x with
    | some F => (fa ρ).bind fun ds ρ2 => if ds.length + 1 = na then ofRf (F (.stb (.obj c xs) :: ds.map .stb)) ρ2 else .bad
    | none => .bad
def kMV2 (na c : Nat) (xs : List D) (F : List O → Rf) (x : Rs (List D)) : Rs O := x.bind fun ds ρ2 => if ds.length + 1 = na then ofRf (F (.stb (.obj c xs) :: ds.map .stb)) ρ2 else .bad
@[simp] theorem fMethV_eq {tab : Nat → Option (List O → Rf)} : fMethV tab na f fa ρ = kMV tab na fa (f ρ) := nr rfl
@[simp] theorem kMV_ok {tab : Nat → Option (List O → Rf)} : kMV tab na fa (.ok (.obj c xs) ρ) = kMV1 na c xs fa ρ (tab c) := nr rfl
@[simp] theorem kMV1_some {F : List O → Rf} : kMV1 na c xs fa ρ (some F) = kMV2 na c xs F (fa ρ) := nr rfl
@[simp] theorem kMV2_ok {F : List O → Rf} : kMV2 na c xs F (.ok ds ρ) = if ds.length + 1 = na then ofRf (F (.stb (.obj c xs) :: ds.map .stb)) ρ else .bad := nr rfl
@[simp] theorem ofRf1_ok {o1 : O} : ofRf1 i (.ok o [o1]) ρ = .ok o (ρ.set i (some o1)) := nr rfl
@[simp] theorem ofRf1_exc {o1 : O} : ofRf1 i (.exc e [o1]) ρ = .exc e (ρ.set i (some o1)) := nr rfl
def kMO (i c : Nat) (F : List O → Rf) (na : Nat) (fa : En → Rs (List D)) (ρ : En) (x : Option (Option O)) : Rs O := match x with
  | some (some (.obj c0 _)) => if c0 = c then ((fa ρ).bind fun ds ρ1 => match ρ1[i]? with
    | some (some (.obj c1 xs)) => if c1 = c ∧ ds.length + 1 = na then ofRf1 i (F (.obj c xs :: ds.map .stb)) ρ1 else .bad
    | _ => .bad) else .bad
  | _ => .bad
def kMO1 (i c : Nat) (F : List O → Rf) (na : Nat) (x : Rs (List D)) : Rs O := x.bind fun ds ρ1 => match ρ1[i]? with
    | some (some (.obj c1 xs)) => if c1 = c ∧ ds.length + 1 = na then ofRf1 i (F (.obj c xs :: ds.map .stb)) ρ1 else .bad
    | _ => .bad
def kMO2 (i c : Nat) (F : List O → Rf) (na : Nat) (ds : List D) (ρ : En) (x : Option (Option O)) : Rs O := match x with
    | some (some (.obj c1 xs)) => if c1 = c ∧ ds.length + 1 = na then ofRf1 i (F (.obj c xs :: ds.map .stb)) ρ else .bad
    | _ => .bad
@[simp] theorem fMethO_eq {F : List O → Rf} : fMethO i c F na fa ρ = kMO i c F na fa ρ (ρ[i]?) := nr rfl
@[simp] theorem kMO_some {F : List O → Rf} {c0 : Nat} {os : List O} : kMO i c F na fa ρ (some (some (.obj c0 os))) = if c0 = c then kMO1 i c F na (fa ρ) else .bad := nr rfl
@[simp] theorem kMO1_ok {F : List O → Rf} : kMO1 i c F na (.ok ds ρ) = kMO2 i c F na ds ρ (ρ[i]?) := nr rfl
@[simp] theorem kMO2_some {F : List O → Rf} {c1 : Nat} {os : List O} : kMO2 i c F na ds ρ (some (some (.obj c1 os))) = if c1 = c ∧ ds.length + 1 = na then ofRf1 i (F (.obj c os :: ds.map .stb)) ρ else .bad := nr rfl
def kIsC (cs kids : List Nat) (x : Rs D) : Rs D := x.bind fun d ρ1 => match d with
  | .obj c _ => if c ∈ cs then .ok (.bl (decide (c ∈ kids))) ρ1 else .bad
  | d => (match tyN d with | some _ => .ok (.bl false) ρ1 | none => .bad)
@[simp] theorem fIsC_eq : fIsC cs kids f ρ = kIsC cs kids (f ρ) := nr rfl
@[simp] theorem kIsC_obj : kIsC cs kids (.ok (.obj c xs) ρ) = if c ∈ cs then .ok (.bl (decide (c ∈ kids))) ρ else .bad := nr rfl
@[simp] theorem kIsC_non : kIsC cs kids (.ok .non ρ) = .ok (.bl false) ρ := nr rfl
@[simp] theorem kIsC_int {k : Int} : kIsC cs kids (.ok (.int k) ρ) = .ok (.bl false) ρ := nr rfl
@[simp] theorem kIsC_bl {k : Bool} : kIsC cs kids (.ok (.bl k) ρ) = .ok (.bl false) ρ := nr rfl
@[simp] theorem kIsC_str {k : Str} : kIsC cs kids (.ok (.str k) ρ) = .ok (.bl false) ρ := nr rfl
@[simp] theorem kIsC_tup {k : List D} : kIsC cs kids (.ok (.tup k) ρ) = .ok (.bl false) ρ := nr rfl
@[simp] theorem kIsC_lst {k : List D} : kIsC cs kids (.ok (.lst k) ρ) = .ok (.bl false) ρ := nr rfl
@[simp] theorem fBad_eq : fBad ρ = .bad := nr rfl
def kCO1 (fs : En → Rs (List O)) (x : Rs O) : Rs (List O) := x.bind fun o ρ1 => (fs ρ1).bind fun os ρ2 => .ok (o :: os) ρ2
def kCO2 (o : O) (x : Rs (List O)) : Rs (List O) := x.bind fun os ρ2 => .ok (o :: os) ρ2
def kTO (x : Rs (List O)) : Rs O := x.bind fun os ρ1 => if os.length ≤ 16777216 then .ok (.tup os) ρ1 else .bad
def kMvF (i : Nat) (ρ : En) (x : Option O) : Rs O := match x with | some o => .ok o (ρ.set i none) | none => .bad
@[simp] theorem fNilO_eq : fNilO ρ = .ok [] ρ := nr rfl
@[simp] theorem fConsO_eq : fConsO fo fos ρ = kCO1 fos (fo ρ) := nr rfl
@[simp] theorem kCO1_ok : kCO1 fos (.ok o ρ) = kCO2 o (fos ρ) := nr rfl
@[simp] theorem kCO2_ok : kCO2 o (.ok os ρ) = .ok (o :: os) ρ := nr rfl
@[simp] theorem fTupO_eq : fTupO fos ρ = kTO (fos ρ) := nr rfl
@[simp] theorem kTO_ok : kTO (.ok os ρ) = if os.length ≤ 16777216 then .ok (.tup os) ρ else .bad := nr rfl
@[simp] theorem fMovF_eq : fMovF i j c ρ = kMvF i ρ (getP (.fld i j c) ρ) := nr rfl
@[simp] theorem kMvF_some : kMvF i ρ (some o) = .ok o (ρ.set i none) := nr rfl
@[simp] theorem fAsgO_eq {gt : D → En → Option En} : fAsgO gt fo ρ = kAsg gt (kFr (fo ρ)) := nr rfl
@[simp] theorem fr_obj : fr (.obj c os) = .obj c (frL os) := by rw [fr]
@[simp] theorem imm_obj : imm (.obj c xs) = false := by unfold imm; rfl
end
section
variable {ρ : En} {o r : O} {e : Ex}
@[simp] theorem dget_zero {d : D} {ds : List D} : (d :: ds)[0]? = some d := nr rfl
@[simp] theorem dget_succ {d : D} {ds : List D} {i : Nat} : (d :: ds)[i + 1]? = ds[i]? := nr rfl
@[simp] theorem oget_zero {ds : List O} : (o :: ds)[0]? = some o := nr rfl
@[simp] theorem oget_succ {ds : List O} {i : Nat} : (o :: ds)[i + 1]? = ds[i]? := nr rfl
@[simp] theorem toRf1_nxt : toRf 1 (.nxt (some o :: ρ)) = .ok (.stb .non) [o] := nr rfl
@[simp] theorem toRf1_ret : toRf 1 (.ret r (some o :: ρ)) = .ok r [o] := nr rfl
@[simp] theorem toRf1_exc : toRf 1 (.exc e (some o :: ρ)) = .exc e [o] := nr rfl
end
section
variable {f1 f2 f3 : En → Rs D} {g g' : D → D → Option D} {ρ : En} {d d1 d2 : D}
def kCh1 (g g' : D → D → Option D) (f2 f3 : En → Rs D) (x : Rs D) : Rs D := x.bind fun d1 ρ1 => (f2 ρ1).bind fun d2 ρ2 => match g d1 d2 with
  | some (.bl true) => (f3 ρ2).bind fun d3 ρ3 => lift (g' d2 d3) ρ3
  | some (.bl false) => .ok (.bl false) ρ2
  | _ => .bad
def kCh2 (g g' : D → D → Option D) (f3 : En → Rs D) (d1 : D) (x : Rs D) : Rs D := x.bind fun d2 ρ2 => match g d1 d2 with
  | some (.bl true) => (f3 ρ2).bind fun d3 ρ3 => lift (g' d2 d3) ρ3
  | some (.bl false) => .ok (.bl false) ρ2
  | _ => .bad
def kCh3 (g' : D → D → Option D) (f3 : En → Rs D) (d2 : D) (ρ : En) (x : Option D) : Rs D := match x with
  | some (.bl true) => (f3 ρ).bind fun d3 ρ3 => lift (g' d2 d3) ρ3
  | some (.bl false) => .ok (.bl false) ρ
  | _ => .bad
@[simp] theorem fChain_eq : fChain g g' f1 f2 f3 ρ = kCh1 g g' f2 f3 (f1 ρ) := nr rfl
@[simp] theorem kCh1_ok : kCh1 g g' f2 f3 (.ok d1 ρ) = kCh2 g g' f3 d1 (f2 ρ) := nr rfl
@[simp] theorem kCh2_ok : kCh2 g g' f3 d1 (.ok d2 ρ) = kCh3 g' f3 d2 ρ (g d1 d2) := nr rfl
@[simp] theorem kCh3_true : kCh3 g' f3 d2 ρ (some (.bl true)) = kB2 g' d2 (f3 ρ) := nr rfl
@[simp] theorem kCh3_false : kCh3 g' f3 d2 ρ (some (.bl false)) = .ok (.bl false) ρ := nr rfl
end
/-! data, piece by piece -/
theorem deq_i (i j : Int) : deq (.int i) (.int j) = decide (i = j) := by rw [deq, beq_dec]
theorem deq_s (s t : Str) : deq (.str s) (.str t) = (s == t) := by rw [deq]
theorem deq_b (s t : Bool) : deq (.bl s) (.bl t) = (s == t) := by rw [deq]
theorem deq_t (xs ys : List D) : deq (.tup xs) (.tup ys) = deqL xs ys := by rw [deq]
theorem deq_l (xs ys : List D) : deq (.lst xs) (.lst ys) = deqL xs ys := by rw [deq]
theorem deqL_c (x y : D) (xs ys : List D) : deqL (x :: xs) (y :: ys) = (deq x y && deqL xs ys) := by rw [deqL]
theorem deqL_n : deqL [] [] = true := by rw [deqL]
@[simp low] theorem frE_cons {x : Option O} {ρ : En} : frE (x :: ρ) = (x.map fun o => .stb (fr o)) :: frE ρ := nr rfl
/-! open tests: both ways stand side by side -/
section
variable {g1 g2 : En → Ro} {f1 f2 : En → Rs D} {b c2 : En → Rs Bool} {ρ : En} {p : Prop} [Decidable p] {k : Bool} {x y : Ro} {np : Nat} {u v : Rs D} {s t : Rs Bool}
theorem kIf_p : kIf g1 g2 (.ok (decide p) ρ) = if p then g1 ρ else g2 ρ := by by_cases h : p <;> simp [h]
theorem kIf_b : kIf g1 g2 (.ok k ρ) = if k = true then g1 ρ else g2 ρ := by cases k <;> simp
theorem kIfE_p : kIfE f1 f2 (.ok (decide p) ρ) = if p then f1 ρ else f2 ρ := by by_cases h : p <;> simp [h]
theorem kAn_p : kAn b (.ok (decide p) ρ) = if p then b ρ else .ok false ρ := by by_cases h : p <;> simp [h]
theorem kOr_p : kOr b (.ok (decide p) ρ) = if p then .ok true ρ else b ρ := by by_cases h : p <;> simp [h]
theorem kIf_ite : kIf g1 g2 (if p then s else t) = if p then kIf g1 g2 s else kIf g1 g2 t := by by_cases h : p <;> simp [h]
theorem toRf_ite : toRf np (if p then x else y) = if p then toRf np x else toRf np y := by by_cases h : p <;> simp [h]
theorem kSet_ite {i : Nat} : kSet i (if p then u else v) = if p then kSet i u else kSet i v := by by_cases h : p <;> simp [h]
theorem kRet_ite : kRet (if p then u else v) = if p then kRet u else kRet v := by by_cases h : p <;> simp [h]
theorem kTe_ite : kTe (if p then u else v) = if p then kTe u else kTe v := by by_cases h : p <;> simp [h]
theorem kNo_ite : kNo (if p then s else t) = if p then kNo s else kNo t := by by_cases h : p <;> simp [h]
end
/-! loops by what a turn ends in -/
def kGt (body : En → Ro) (x : Option En) : Ro := match x with | some ρ => body ρ | none => .bad
def nxtP (I : En → Prop) : Ro → Prop
  | .nxt ρ => I ρ
  | .ctn ρ => I ρ
  | _ => False
def outP (I : En → Prop) (R : Ro → Prop) : Ro → Prop
  | .nxt ρ => I ρ
  | .ctn ρ => I ρ
  | .ret o ρ => R (.ret o ρ)
  | .brk ρ => R (.nxt ρ)
  | .exc e ρ => R (.exc e ρ)
  | .bad => False
section
variable {I : En → Prop} {R : Ro → Prop} {ρ : En} {o : O} {e : Ex} {p : Prop} [Decidable p] {x y : Ro} {body : En → Ro}
@[simp] theorem kGt_some : kGt body (some ρ) = body ρ := nr rfl
@[simp] theorem nxtP_nxt : nxtP I (.nxt ρ) = I ρ := nr rfl
@[simp] theorem nxtP_ctn : nxtP I (.ctn ρ) = I ρ := nr rfl
theorem nxtP_ite : nxtP I (if p then x else y) = if p then nxtP I x else nxtP I y := by by_cases h : p <;> simp [h]
@[simp] theorem outP_nxt : outP I R (.nxt ρ) = I ρ := nr rfl
@[simp] theorem outP_ctn : outP I R (.ctn ρ) = I ρ := nr rfl
@[simp] theorem outP_ret : outP I R (.ret o ρ) = R (.ret o ρ) := nr rfl
@[simp] theorem outP_brk : outP I R (.brk ρ) = R (.nxt ρ) := nr rfl
@[simp] theorem outP_exc : outP I R (.exc e ρ) = R (.exc e ρ) := nr rfl
theorem outP_ite : outP I R (if p then x else y) = if p then outP I R x else outP I R y := by by_cases h : p <;> simp [h]
end
theorem forL_go {gt : D → En → Option En} {body : En → Ro} (I : Nat → En → Prop) {ds : List D} {ρ : En} (h0 : I 0 ρ)
    (hs : ∀ (i : Nat) (d : D) (ρ : En), ds[i]? = some d → I i ρ → nxtP (I (i + 1)) (kGt body (gt d ρ))) : ∃ ρ', forL gt body ds ρ = .nxt ρ' ∧ I ds.length ρ' := by
  refine forL_inv I h0 fun i d ρ hd hi => ?_
  have h := hs i d ρ hd hi
  cases hg : gt d ρ with
  | none => rw [hg] at h; exact False.elim h
  | some ρ1 =>
    rw [hg, kGt_some] at h
    cases hb : body ρ1 with
    | nxt ρ2 => rw [hb] at h; exact ⟨ρ1, ρ2, rfl, .inl hb, h⟩
    | ctn ρ2 => rw [hb] at h; exact ⟨ρ1, ρ2, rfl, .inr hb, h⟩
    | _ => rw [hb] at h; exact False.elim h
theorem forL_to {gt : D → En → Option En} {body : En → Ro} (I : Nat → En → Prop) (R : Ro → Prop) {ds : List D} {ρ : En} (h0 : I 0 ρ)
    (hs : ∀ (i : Nat) (d : D) (ρ : En), ds[i]? = some d → I i ρ → outP (I (i + 1)) R (kGt body (gt d ρ))) : (∃ ρ', forL gt body ds ρ = .nxt ρ' ∧ I ds.length ρ') ∨ R (forL gt body ds ρ) := by
  refine forL_out I R h0 fun i d ρ hd hi => ?_
  have h := hs i d ρ hd hi
  cases hg : gt d ρ with
  | none => rw [hg] at h; exact False.elim h
  | some ρ1 =>
    rw [hg, kGt_some] at h
    refine ⟨ρ1, rfl, ?_⟩
    cases hb : body ρ1 with
    | nxt ρ2 => rw [hb] at h; exact .inl ⟨ρ2, .inl rfl, h⟩
    | ctn ρ2 => rw [hb] at h; exact .inl ⟨ρ2, .inr rfl, h⟩
    | ret o ρ2 => rw [hb] at h; exact .inr (.inl ⟨o, ρ2, rfl, h⟩)
    | brk ρ2 => rw [hb] at h; exact .inr (.inr (.inl ⟨ρ2, rfl, h⟩))
    | exc e ρ2 => rw [hb] at h; exact .inr (.inr (.inr ⟨e, ρ2, rfl, h⟩))
    | bad => rw [hb] at h; exact False.elim h
theorem forL_sti {α σ : Type} {gt : D → En → Option En} {body : En → Ro} (f : α → D) (E : σ → En) (step : σ → α → σ) (P : Nat → σ → Prop) (l : List α) (s : σ) (h0 : P 0 s)
    (h : ∀ (i : Nat) (a : α) (s : σ), l[i]? = some a → P i s → nxtP (fun ρ => ρ = E (step s a)) (kGt body (gt (f a) (E s))) ∧ P (i + 1) (step s a)) : forL gt body (l.map f) (E s) = .nxt (E (l.foldl step s)) ∧ P l.length (l.foldl step s) := by
  induction l generalizing s P with
  | nil => exact ⟨rfl, h0⟩
  | cons a l ih =>
    obtain ⟨h1, h2⟩ := h 0 a s rfl h0
    have ih' := ih (fun i => P (i + 1)) (step s a) h2 fun i b s hb => h (i + 1) b s (by simpa using hb)
    rw [List.map_cons, List.foldl_cons, ← ih'.1]
    refine ⟨?_, ih'.2⟩
    cases hg : gt (f a) (E s) with
    | none => rw [hg] at h1; exact False.elim h1
    | some ρ1 =>
      rw [hg, kGt_some] at h1
      cases hb : body ρ1 with
      | nxt ρ2 => rw [hb] at h1; cases h1; exact forL_step hg hb
      | ctn ρ2 => rw [hb] at h1; cases h1; exact forL_ctn hg hb
      | _ => rw [hb] at h1; exact False.elim h1
/-! written rows, turn by turn -/
def kFl (gt : D → En → Option En) (body : En → Ro) (ds : List D) (x : Ro) : Ro := match x with
  | .nxt ρ => forL gt body ds ρ
  | .ctn ρ => forL gt body ds ρ
  | .brk ρ => .nxt ρ
  | r => r
theorem forL_nil' {gt : D → En → Option En} {body : En → Ro} {ρ : En} : forL gt body [] ρ = .nxt ρ := nr rfl
theorem forL_cons' {gt : D → En → Option En} {body : En → Ro} {d : D} {ds : List D} {ρ : En} : forL gt body (d :: ds) ρ = kFl gt body ds (kGt body (gt d ρ)) := by
  rw [forL]
  cases hg : gt d ρ with
  | none => rfl
  | some ρ1 =>
    simp only [kGt_some]
    cases hb : body ρ1 <;> rfl
section
variable {gt : D → En → Option En} {body : En → Ro} {ds : List D} {ρ : En} {o : O} {e : Ex} {p : Prop} [Decidable p] {x y : Ro}
@[simp] theorem kFl_nxt : kFl gt body ds (.nxt ρ) = forL gt body ds ρ := nr rfl
@[simp] theorem kFl_ctn : kFl gt body ds (.ctn ρ) = forL gt body ds ρ := nr rfl
@[simp] theorem kFl_brk : kFl gt body ds (.brk ρ) = .nxt ρ := nr rfl
@[simp] theorem kFl_ret : kFl gt body ds (.ret o ρ) = .ret o ρ := nr rfl
@[simp] theorem kFl_exc : kFl gt body ds (.exc e ρ) = .exc e ρ := nr rfl
theorem kFl_ite : kFl gt body ds (if p then x else y) = if p then kFl gt body ds x else kFl gt body ds y := by by_cases h : p <;> simp [h]
end
def kCp (gt : D → En → Option En) (ft : En → Rs Bool) (fe : En → Rs D) (ws : List Nat) (ds acc : List D) (x : Option En) : Rs O := match x with
  | some ρ1 => (match ft ρ1 with
    | .ok true ρ2 => (match fe ρ2 with
      | .ok d ρ3 => if acc.length < LIM then compL gt ft fe ws ds (acc ++ [d]) ρ3 else .bad
      | _ => .bad)
    | .ok false ρ2 => compL gt ft fe ws ds acc ρ2
    | _ => .bad)
  | none => .bad
def kCp1 (gt : D → En → Option En) (ft : En → Rs Bool) (fe : En → Rs D) (ws : List Nat) (ds acc : List D) (x : Rs Bool) : Rs O := match x with
    | .ok true ρ2 => (match fe ρ2 with
      | .ok d ρ3 => if acc.length < LIM then compL gt ft fe ws ds (acc ++ [d]) ρ3 else .bad
      | _ => .bad)
    | .ok false ρ2 => compL gt ft fe ws ds acc ρ2
    | _ => .bad
def kCp2 (gt : D → En → Option En) (ft : En → Rs Bool) (fe : En → Rs D) (ws : List Nat) (ds acc : List D) (x : Rs D) : Rs O := match x with
      | .ok d ρ3 => if acc.length < 16777216 then compL gt ft fe ws ds (acc ++ [d]) ρ3 else .bad
      | _ => .bad
theorem compL_nil' {gt : D → En → Option En} {ft : En → Rs Bool} {fe : En → Rs D} {ws : List Nat} {acc : List D} {ρ : En} : compL gt ft fe ws [] acc ρ = .ok (.lst acc) (wipeE ρ ws) := by rw [compL]
theorem compL_cons' {gt : D → En → Option En} {ft : En → Rs Bool} {fe : En → Rs D} {ws : List Nat} {acc : List D} {d : D} {ds : List D} {ρ : En} : compL gt ft fe ws (d :: ds) acc ρ = kCp gt ft fe ws ds acc (gt d (wipeE ρ ws)) := by
  rw [compL]
  unfold kCp
  cases gt d (wipeE ρ ws) <;> rfl
section
variable {gt : D → En → Option En} {ft : En → Rs Bool} {fe : En → Rs D} {ws : List Nat} {acc ds : List D} {d : D} {ρ : En}
@[simp] theorem kCp_some : kCp gt ft fe ws ds acc (some ρ) = kCp1 gt ft fe ws ds acc (ft ρ) := nr rfl
@[simp] theorem kCp1_true : kCp1 gt ft fe ws ds acc (.ok true ρ) = kCp2 gt ft fe ws ds acc (fe ρ) := nr rfl
@[simp] theorem kCp1_false : kCp1 gt ft fe ws ds acc (.ok false ρ) = compL gt ft fe ws ds acc ρ := nr rfl
@[simp] theorem kCp2_ok : kCp2 gt ft fe ws ds acc (.ok d ρ) = if acc.length < 16777216 then compL gt ft fe ws ds (acc ++ [d]) ρ else .bad := nr rfl
end
/-- a row of things made, one for each: only what they are like is told -/
theorem comp_ex {α : Type} {gt : D → En → Option En} {fe : En → Rs D} {ws : List Nat} {ρ0 ρ : En} (f : α → D) (P : α → Prop) (ds : List D) (h0 : wipeE ρ ws = ρ0) (hl : ds.length ≤ 16777216)
    (h : ∀ d ∈ ds, ∃ a ρ1 ρ3, gt d ρ0 = some ρ1 ∧ fe ρ1 = .ok (f a) ρ3 ∧ wipeE ρ3 ws = ρ0 ∧ P a) : ∃ l : List α, l.length = ds.length ∧ (∀ a ∈ l, P a) ∧ compL gt fYes fe ws ds [] ρ = .ok (.lst (l.map f)) ρ0 := by
  have key : ∀ (ds acc : List D) (ρ : En), wipeE ρ ws = ρ0 → acc.length + ds.length ≤ 16777216 → (∀ d ∈ ds, ∃ a ρ1 ρ3, gt d ρ0 = some ρ1 ∧ fe ρ1 = .ok (f a) ρ3 ∧ wipeE ρ3 ws = ρ0 ∧ P a) →
      ∃ l : List α, l.length = ds.length ∧ (∀ a ∈ l, P a) ∧ compL gt fYes fe ws ds acc ρ = .ok (.lst (acc ++ l.map f)) ρ0 := by
    intro ds
    induction ds with
    | nil => intro acc ρ h0 _ _; exact ⟨[], rfl, by simp, by rw [compL_nil', h0]; simp⟩
    | cons d ds ih =>
      intro acc ρ h0 hl h
      obtain ⟨a, ρ1, ρ3, e1, e2, e3, p⟩ := h d (by simp)
      rw [List.length_cons] at hl
      obtain ⟨l, hl2, hp, e⟩ := ih (acc ++ [f a]) ρ3 e3 (by simp; omega) fun d hd => h d (by simp [hd])
      refine ⟨a :: l, by simp [hl2], by simpa using ⟨p, hp⟩, ?_⟩
      rw [compL_cons', h0, e1, kCp_some]
      show kCp1 gt fYes fe ws ds acc (.ok true ρ1) = _
      rw [kCp1_true, e2, kCp2_ok, if_pos (by omega), e]
      simp
  obtain ⟨l, a, b, c⟩ := key ds [] ρ h0 (by simpa using hl) h
  exact ⟨l, a, b, by simpa using c⟩
/-- over a typed row, from state to state -/
theorem forL_st {α σ : Type} {gt : D → En → Option En} {body : En → Ro} (f : α → D) (E : σ → En) (step : σ → α → σ) (l : List α) (s : σ) (h : ∀ a ∈ l, ∀ s, kGt body (gt (f a) (E s)) = .nxt (E (step s a)) ∨ kGt body (gt (f a) (E s)) = .ctn (E (step s a))) :
    forL gt body (l.map f) (E s) = .nxt (E (l.foldl step s)) := by
  induction l generalizing s with
  | nil => rfl
  | cons a l ih =>
    rw [List.map_cons, List.foldl_cons, ← ih (step s a) fun b hb => h b (by simp [hb])]
    have h1 := h a (by simp) s
    cases hg : gt (f a) (E s) with
    | none => rw [hg] at h1; simp [kGt] at h1
    | some ρ1 =>
      rw [hg, kGt_some] at h1
      rcases h1 with h1 | h1
      · exact forL_step hg h1
      · exact forL_ctn hg h1
end Lf

namespace Lf
open PySem PySem.Spec PyProof.Rows L2

/-! list(reversed(x)) of a list: a new list, owned -/
section
variable {prog : Program} {w : World} {A : Around} {E : Value → Shared → Prop} {s : Shared}
/-- a fresh list filled from a reversed walk -/
theorem init_rev {it l S : Addr} {items : Array Value} {R : Result → Shared → Prop} (hh : A.handled = none) (hit : s.heap.IsRevIter it l ((items.size : Int) - 1)) (hl : s.heap.IsList l items) (hne : l ≠ it) (hn : items.size ≤ sizeLine)
    (hSi : S ≠ it) (hSl : S ≠ l) (hS : s.heap.get? S = some { cls := .type "list", data := .seq #[] })
    (hR : ∀ h' tk acc' c', (∀ b o, b ≠ S → b ≠ it → s.heap.get? b = some o → h'.get? b = some o) → h'.get? S = some { cls := .type "list", dict := none, data := .seq acc' c', slots := #[] } → ItemsOf (fun i v => items[items.size - 1 - i]? = some v) acc' items.size → R (.ok (.ret .none)) { s with heap := h', toks := tk }) :
    wpAny (model prog w) A.in1 (Builtin.«list.__init__» ⟨[.ref S, .ref it], []⟩)
      (fun fin s' => match fin with | .done f => R (.ok f) s' | .again c' => c'.quiet = true ∧ codeAny (model prog w) A c' R s') (fun e s' => R (.error e) s') s := by
  have W := (Walks.listRev (prog := prog) (w := w) (A := A.in1) hh it l hne items).toS
  have hSf : S ∉ [it, l] := by simp only [List.mem_cons, List.not_mem_nil, or_false, not_or]; exact ⟨hSi, hSl⟩
  show wpAny _ _ (do let old ← Builtin.List.listItems (.ref S); Builtin.List.listUpdate (.ref S) (fun _ => #[]); letGo old.toList.reverse; Builtin.List.listExtendWith (.ref S) (.ref it) .none) _ _ s
  refine wpAny_bind ?_
  unfold Builtin.List.listItems
  refine wpAny_bind (wpAny_seqItems hS rfl (wpAny_pure ?_))
  show wpAny _ _ (updateSeq S (fun _ => #[]) >>= fun _ => letGo (#[] : Array Value).toList.reverse >>= fun _ => Builtin.List.listExtendWith (.ref S) (.ref it) .none) _ _ s
  refine wpAny_bind (wpAny_updateSeq hS rfl ?_)
  have hS₂ := Heap.get?_update_self (Obj.mapSeq (fun _ => (#[] : Array Value))) hS rfl
  have oth : ∀ b o, b ≠ S → s.heap.get? b = some o → (s.heap.update S (Obj.mapSeq (fun _ => (#[] : Array Value)))).get? b = some o :=
    fun b o hb e => (Heap.get?_update_other _ _ (Ne.symm hb)).trans e
  refine wpAny_bind (wpAny_letGo ?_)
  have hit1 : (s.heap.update S (Obj.mapSeq (fun _ => (#[] : Array Value)))).IsRevIter it l ((items.size : Int) - 1) := hit.at fun o e => oth _ _ (Ne.symm hSi) e
  have hl1 : (s.heap.update S (Obj.mapSeq (fun _ => (#[] : Array Value)))).IsList l items := hl.at fun o e => oth _ _ (Ne.symm hSl) e
  have hT : ({ s with heap := s.heap.update S (Obj.mapSeq (fun _ => (#[] : Array Value))) } : Shared).TypeIs (.ref it) "list_reverseiterator" := Heap.IsRevIter.typeIs (s := { s with heap := s.heap.update S (Obj.mapSeq (fun _ => (#[] : Array Value))) }) hit1
  have h1 : Builtin.List.listSameRef (.ref S) (.ref it) = false := by simp [Builtin.List.listSameRef, hSi]
  unfold Builtin.List.listExtendWith
  refine wpAny_bind (wpAny_typeOf hT ?_)
  rw [if_neg (by rw [h1]; decide)]
  refine wpAny_bind (wpAny_pyIter_revIter (s := { s with heap := s.heap.update S (Obj.mapSeq (fun _ => (#[] : Array Value))) }) hit1 ?_)
  refine wpAny_bind (wpAny_holding ?_)
  unfold Builtin.List.listLengthHint
  refine wpAny_bind (wpAny_specialOf hT RT.nolen_lri ?_)
  show wpAny _ A.in1 (specialOf (Value.ref it) (Str.ofString "__length_hint__") >>= _) _ _ _
  refine wpAny_bind (wpAny_specialOf hT RT.hint_lri ?_)
  generalize hid : ("list_reverseiterator.__length_hint__" : String) = id0
  wp_delta
  rw [show splitId id0 = some ("list_reverseiterator", "__length_hint__") from by subst hid; decide +kernel]
  subst hid
  refine wpAny_bind (wpAny_isInstance (b := true) hT (by rw [isSubtype_type]; kernel_rfl) ?_)
  refine wpAny_pure ?_
  rw [if_neg (by decide)]
  have e0 : ((items.size : Nat) : Int) - 1 - ((0 : Nat) : Int) = (items.size : Int) - 1 := by omega
  refine wpAny_pure ⟨plainId_quiet PySem.F.plain_extend_loop _, codeAny_extend_loopS W hn _ hSf _ items.size 0 _ _ _ rfl (Nat.zero_le _) ⟨Nat.zero_le _, by rw [e0]; exact hit1, hl1⟩ hS₂ (ItemsOf.nil _) fun s' acc' c' hm hS' hacc => ?_⟩
  rw [Moved.eq_with hm]
  refine hR s'.heap s'.toks acc' c' (fun b o hb hi e => hm.heap b o (fun hmem => ?_) (oth b o hb e)) hS' hacc
  rcases List.mem_cons.mp hmem with e' | hmem
  · exact hb e'
  · exact hi (List.mem_singleton.mp hmem)
theorem call_list_rev {it l : Addr} {items : Array Value} {Q : Value → Shared → Prop} (hh : A.handled = none) (hit : s.heap.IsRevIter it l ((items.size : Int) - 1)) (hl : s.heap.IsList l items) (hne : l ≠ it) (hn : items.size ≤ sizeLine)
    (hQ : ∀ h' tk acc' c', (∀ b o, b ≠ it → s.heap.get? b = some o → h'.get? b = some o) → h'.get? s.heap.objs.size = some { cls := .type "list", dict := none, data := .seq acc' c', slots := #[] } → ItemsOf (fun i v => items[items.size - 1 - i]? = some v) acc' items.size → Q (.ref s.heap.objs.size) { s with heap := h', toks := tk }) :
    wpAny (model prog w) A (call (.type "list") [.ref it]) Q E s := by
  refine callType_codes (Q₁ := fun obj s₁ => obj = .ref s.heap.objs.size ∧ s₁ = { s with heap := s.heap.push { cls := .type "list", data := .seq #[] } }) PySem.F.called_list (PySem.F.typeCall_list_1 _) PySem.F.entry_list_init
    (code_list_new _ ⟨rfl, rfl⟩) fun obj s₁ h₁ => ?_
  obtain ⟨rfl, rfl⟩ := h₁
  have hS : (s.heap.push { cls := .type "list", data := .seq #[] }).get? s.heap.objs.size = some { cls := .type "list", data := .seq #[] } := Heap.get?_push_size _ rfl
  obtain ⟨oi, hoi, _⟩ := id hit
  obtain ⟨ol, hol, _⟩ := id hl
  refine ⟨⟨_, hS, rfl⟩, PySem.F.args_list_init_2 _ _, init_rev (A := A.in1) hh (hit.at fun o e => Heap.get?_push_of_some _ e) (hl.push _) hne hn (Nat.ne_of_gt (Heap.lt_size hoi)) (Nat.ne_of_gt (Heap.lt_size hol)) hS fun h' tk acc' c' hk hS' hacc => ?_⟩
  exact ⟨rfl, hQ h' tk acc' c' (fun b o hb e => hk b o (Nat.ne_of_lt (Heap.lt_size e)) hb (Heap.get?_push_of_some _ e)) hS' hacc⟩
end
def tLstRev (K : PySem.W.Frag) (te : TE) : TE := fun σ H Q => te σ H fun v H1 => ∃ (a : Addr) (xs : List V), v = .ref a ∧ SqL K H1 a xs ∧ ∀ q, H1 q = none → Q (.ref q) (upd H1 q (.lst xs.reverse))
theorem pe_lstRev {X : Cx} {e : Expr} {te : TE} {p p2 pos pos2 : Pos} (hc : X.calm = true) (hg : Gl X "list") (hm : X.mg "list" = none) (hg2 : Gl X "reversed") (hm2 : X.mg "reversed" = none) (he : PE X e te)
    (hs : starEach [e] X.env = (false, eval e X.env) :: starEach [] X.env := by rfl)
    (hs2 : starEach [.Call (.Name "reversed" p2) [e] [] pos2] X.env = (false, eval (.Call (.Name "reversed" p2) [e] [] pos2) X.env) :: starEach [] X.env := by rfl) :
    PE X (.Call (.Name "list" p) [.Call (.Name "reversed" p2) [e] [] pos2] [] pos) (tLstRev X.K te) := by
  refine ⟨fun pins s σ H Q I h => ?_⟩
  refine Call_ (ld_blt I hg hm (u := .type "list") (by decide +kernel) (PyProof.Rows.callWith_type1 (args_cons (Call_ (ld_blt I hg2 hm2 PyProof.Rows.boot_reversed (PyProof.Rows.callWith_type1 (args_cons (thn (he.run pins s σ H _ I h) fun u s1 ⟨v, H1, I1, r1, q1⟩ => args_nil ?_) hs) hs rfl))) hs2) hs2 rfl))
  obtain ⟨a, xs, ev, hq, q⟩ := q1
  subst ev
  obtain rfl : u = Value.ref a := r1
  obtain ⟨its, rv, p', hz⟩ := I1.list hq
  refine call_reversed_list p'.isList (args_nil ?_)
  have k0 : ∀ b o, s1.heap.get? b = some o → (s1.heap.push (revObj a ((its.toArray.size : Int) - 1))).get? b = some o := fun b o e => Heap.get?_push_of_some _ e
  have I2 : Inv X pins σ H1 { s1 with heap := s1.heap.push (revObj a ((its.toArray.size : Int) - 1)) } := I1.kept (t' := s1.toks) k0
  have F := I1.fpOk (H' := H1) (b := s1.heap.objs.size) (Nat.le_refl _) (I1.hok.fresh (Nat.le_refl _))
  have hl := p'.isList
  obtain ⟨ol, hol, _⟩ := id hl
  have hne : a ≠ s1.heap.objs.size := Nat.ne_of_lt (Heap.lt_size hol)
  have hn : its.toArray.size ≤ sizeLine := by rw [List.size_toArray, ← rv.length]; exact hz
  refine call_list_rev (s := { s1 with heap := s1.heap.push (revObj a ((its.toArray.size : Int) - 1)) }) (I1.ok.hd hc) ⟨_, Heap.get?_push_size _ rfl, rfl, rfl⟩ (hl.push _) hne hn fun h' tk acc c' hk hS hi => ?_
  have fr : H1 (s1.heap.push (revObj a ((its.toArray.size : Int) - 1))).objs.size = none := I2.hok.fresh (Nat.le_refl _)
  refine ⟨.ref (s1.heap.push (revObj a ((its.toArray.size : Int) - 1))).objs.size, upd H1 (s1.heap.push (revObj a ((its.toArray.size : Int) - 1))).objs.size (.lst xs.reverse), ?_, rfl, q _ fr⟩
  refine I2.turnedNew (ch := [s1.heap.objs.size]) (t' := tk) (fun b o hb e => hk b o (fun z => hb (by simp [z])) e) (fun b hb => ?_) (Nat.le_refl _) ?_
  · have e : b = s1.heap.objs.size := by simpa using hb
    subst e
    exact F
  · exact (show ObjOk X.prog X.w _ _ _ (.lst xs.reverse) from ⟨by rw [List.length_reverse]; exact hz, acc.toList, c', RT.vals_rev rv hi, by rw [Array.toArray_toList]; exact hS⟩)
def dRevO : D → Option (List D)
  | .lst xs => some xs.reverse
  | _ => none
def fLrev (f : En → Rs D) : En → Rs O := fun ρ => (f ρ).bind fun d ρ1 => lift ((dRevO d).map .lst) ρ1
theorem rpl_rev {G : Glob} {Hs : Hp} : ∀ {xs : List D} {vs : List V}, RpL G Hs xs vs → RpL G Hs xs.reverse vs.reverse
  | [], vs, h => by rw [RpL] at h; subst h; rw [List.reverse_nil, List.reverse_nil, RpL]
  | x :: xs, vs, h => by
    rw [RpL] at h
    obtain ⟨v, rest, rfl, h1, h2⟩ := h
    rw [List.reverse_cons, List.reverse_cons]
    exact rpl_append (rpl_rev h2) (by rw [RpL]; exact ⟨v, [], rfl, h1, by rw [RpL]⟩)
theorem jo_lrev {X : Cx} {G : Glob} {a : Act} {W : WX} {e : Expr} {f : En → Rs D} {p p2 pos pos2 : Pos} (hK : X.K = G.K) (hg : Gl X "list") (hm : X.mg "list" = none) (hg2 : Gl X "reversed") (hm2 : X.mg "reversed" = none) (h : JE X G a W e f)
    (hs : starEach [e] X.env = (false, eval e X.env) :: starEach [] X.env := by rfl)
    (hs2 : starEach [.Call (.Name "reversed" p2) [e] [] pos2] X.env = (false, eval (.Call (.Name "reversed" p2) [e] [] pos2) X.env) :: starEach [] X.env := by rfl) (hc : X.calm = true := by rfl) :
    JO X G a W (.Call (.Name "list" p) [.Call (.Name "reversed" p2) [e] [] pos2] [] pos) (fLrev f) := by
  have := pe_lstRev (p := p) (p2 := p2) (pos := pos) (pos2 := pos2) hc hg hm hg2 hm2 h hs hs2
  rw [hK] at this
  refine this.imp fun σ H Q ⟨ρ, ts, Hs, S, k⟩ => ⟨ρ, ts, Hs, S, (Po.bindO (R := Rp G) k).mono ?_⟩
  rintro x H1 ⟨d, ρ1, Hs1, S1, s1, s2, r1, k1⟩
  cases d with
  | lst xs =>
    rw [Rp] at r1
    obtain ⟨p, vs, e1, q1, t1⟩ := r1
    exact ⟨p, vs, e1, SqL.of (S1.sub _ _ q1), fun b hb => poO_new S1 k1 rfl hb (rpl_rev t1)⟩
  | _ => exact False.elim k1
@[simp] theorem dRevO_lst {xs : List D} : dRevO (.lst xs) = some xs.reverse := rfl
def kLrev (x : Rs D) : Rs O := x.bind fun d ρ1 => lift ((dRevO d).map .lst) ρ1
@[simp] theorem fLrev_eq {f : En → Rs D} {ρ : En} : fLrev f ρ = kLrev (f ρ) := rfl
@[simp] theorem kLrev_ok {xs : List D} {ρ : En} : kLrev (.ok (.lst xs) ρ) = .ok (.lst xs.reverse) ρ := rfl
end Lf

namespace Lf
open PySem PySem.Spec PyProof.Rows L2

/-! refusals: raise C('..'), try .. except C: .. -/
def errB : List Value := [.type "ValueError", .type "Exception", .type "BaseException", .type "object"]
/-- a class of errors without own __init__, raised -/
structure XcF (G : Glob) (mg : Str → Option Value) (x : Str) (c : Nat) : Prop where
  ex : ∃ C, G.cls c = some C ∧ mg x = some (.ref C) ∧ PySem.W.excIn G.K C errB "ValueError.__new__" = true ∧ PySem.W.keepIn G.K (.ref C) = true ∧ PySem.W.subIn G.K (.ref C) (.type "BaseException") = some true ∧ PySem.W.typeIn G.K (.ref C) = some (.type "type")
/-- the class that a clause names: these are taken, those are not -/
structure CtF (G : Glob) (mg : Str → Option Value) (x : Str) (yes no : List Nat) : Prop where
  ex : ∃ D, mg x = some (.ref D) ∧ (∀ c ∈ yes, ∃ C, G.cls c = some C ∧ PySem.W.exmOne G.K (.ref C) (.ref D) = some true) ∧ (∀ c ∈ no, ∃ C, G.cls c = some C ∧ PySem.W.exmOne G.K (.ref C) (.ref D) = some false)
def fRaise (c : Nat) : En → Ro := fun ρ => .exc ⟨c, []⟩ ρ
def noExc : Ro → Ro
  | .exc _ _ => .bad
  | r => r
def fTry (yes no : List Nat) (fb fs : En → Ro) : En → Ro := fun ρ => match fb ρ with
  | .exc e ρ1 => if e.c ∈ yes then noExc (fs ρ1) else if e.c ∈ no then .exc e ρ1 else .bad
  | r => r
section
variable {X : Cx} {G : Glob} {a : Act} {W : WX}
theorem js_raise {x m : Str} {c j : Nat} {p p2 pos pos' : Pos} (F : XcF G X.mg x c) (hK : X.K = G.K) (hc : X.calm = true) (tk : L2N.Takes X W) (hg : Gl X x) (hdb : (x == ("__debug__" : Str)) = false := by decide) :
    JS X G a W (.Raise (some (.Call (.Name x p) [.Constant (.str m) j p2] [] pos)) none pos') (fRaise c) := by
  obtain ⟨C, hC, hm, q, kC, sb, ty⟩ := F.ex
  rw [← hK] at q kC sb ty
  refine (L2N.ps_raise hc tk (L2N.pmk_own PySem.F.excBase_ValueError q hm kC (raises_own sb ty) hg hdb)).imp fun D σ H ⟨ρ, ts, Hs, S, k⟩ => ?_
  exact k _ none σ Hs H S ⟨C, hC, rfl, .inl ⟨rfl, rfl⟩⟩
theorem sta_at {ρ : En} {ts : Tm} {σ : L2.St} {Hs H : Hp} (S : Sta G a ρ ts σ Hs H) : Sta G { a with Hs0 := Hs } ρ ts σ Hs H :=
  ⟨S.sub, S.base, S.tabs, Same.refl _, fun b u e e0 => (by rw [show Hs b = none from e0] at e; cases e), S.pin, S.own⟩
theorem sta_back {ρ ρ' : En} {ts ts' : Tm} {σ σ' : L2.St} {Hs H Hs' H' : Hp} (S : Sta G a ρ ts σ Hs H) (S' : Sta G { a with Hs0 := Hs } ρ' ts' σ' Hs' H') : Sta G a ρ' ts' σ' Hs' H' :=
  ⟨S'.sub, S'.base, S'.tabs, S.stab.trans S'.stab, fun b u e e0 => by
    cases h : Hs b with
    | none => exact S'.frsh b u e h
    | some v => exact S.frsh b v h e0, S'.pin, S'.own⟩
end
end Lf

namespace Lf
open PySem PySem.Spec PyProof.Rows L2

/-! x.replace('..', '..') among the items of a written list, behind a first item y + '..' -/
abbrev JET (X : Cx) (G : Glob) (a : Act) (W : WX) (e : Expr) (f : En → Rs D) : Prop := PET X e (tG (Rp G) G a W f)
abbrev JAT (X : Cx) (G : Glob) (a : Act) (W : WX) (es : List Expr) (f : En → Rs (List D)) : Prop := PAT X es (tG (RpL G) G a W f)
def fRepl (y z : Str) (f : En → Rs D) : En → Rs D := fun ρ => (f ρ).bind fun d ρ1 => match d with
  | .str x => if x.length + (x.length + 1) * z.length ≤ 16777216 then .ok (.str (Txt.replace x y z)) ρ1 else .bad
  | _ => .bad
section
variable {X : Cx} {G : Glob} {a : Act} {W : WX} {e o : Expr} {es : List Expr} {f f1 : En → Rs D} {fa : En → Rs (List D)} {pos apos c0 c1 p : Pos} {j k : Nat} {y z m : Str}
theorem jet_of (h : JE X G a W e f) : JET X G a W e f := fun pins s σ H Q _ I q => h.run pins s σ H Q I q
theorem jat_nil : JAT X G a W [] fNil := fun pos pins s σ H Q _ I q => (ja_nil (X := X) (G := G) (a := a) (W := W)).run pos pins s σ H Q I q
theorem jat_cons (h1 : JET X G a W e f) (h2 : JAT X G a W es fa) (hs : starEach (e :: es) X.env = (false, eval e X.env) :: starEach es X.env := by rfl) : JAT X G a W (e :: es) (fCons f fa) := by
  intro pos pins s σ H Q h0 I q
  refine pat_cons h1 h2 hs pos pins s σ H Q h0 I ?_
  obtain ⟨ρ, ts, Hs, S, k⟩ := q
  refine ⟨ρ, ts, Hs, S, (Po.bind (R := Rp G) k).mono ?_⟩
  rintro x H1 ⟨d1, ρ1, Hs1, S1, s1, s2, r1, k1⟩
  refine ⟨ρ1, ts, Hs1, S1, (Po.bind (R := RpL G) k1).mono ?_⟩
  rintro y H2 ⟨d2, ρ2, Hs2, S2, s3, s4, r2, k2⟩
  exact k2 _ Hs2 H2 S2 (Same.refl _) (Kp.refl _) (by rw [RpL]; exact ⟨x, y, rfl, rp_mono s3 _ _ r1, r2⟩)
theorem jet_repl (ho : JE X G a W o f) (hyz : (y == z) = false := by decide)
    (hst : starEach [.Constant (.str y) j c0, .Constant (.str z) k c1] X.env = [(false, eval (.Constant (.str y) j c0) X.env), (false, eval (.Constant (.str z) k c1) X.env)] := by rfl)
    (hbase : attributeBase o "replace" X.env (eval o X.env) = eval o X.env := by rfl) (hline : (apos.endLine == pos.line) = true := by rfl) :
    JET X G a W (.Call (.Attribute o "replace" apos) [.Constant (.str y) j c0, .Constant (.str z) k c1] [] pos) (fRepl y z f) := by
  intro pins s σ H Q h0 I q
  refine CwR.pet_replC ho hyz hst hbase hline pins s σ H Q h0 I ?_
  obtain ⟨ρ, ts, Hs, S, k⟩ := q
  refine ⟨ρ, ts, Hs, S, (Po.bind (R := Rp G) k).mono ?_⟩
  rintro x H1 ⟨d1, ρ1, Hs1, S1, s1, s2, r1, k1⟩
  cases d1 with
  | str u =>
    rw [Rp] at r1
    subst r1
    by_cases hl : u.length + (u.length + 1) * z.length ≤ 16777216
    · have k2 : Po (Rp G) G a W ts σ Hs1 H1 Q (if u.length + (u.length + 1) * z.length ≤ 16777216 then .ok (.str (Txt.replace u y z)) ρ1 else .bad) := k1
      rw [if_pos hl] at k2
      exact ⟨u, rfl, hl, k2 _ Hs1 H1 S1 (Same.refl _) (Kp.refl _) (by rw [Rp])⟩
    · have k2 : Po (Rp G) G a W ts σ Hs1 H1 Q (if u.length + (u.length + 1) * z.length ≤ 16777216 then .ok (.str (Txt.replace u y z)) ρ1 else .bad) := k1
      rw [if_neg hl] at k2
      exact False.elim k2
  | _ => exact False.elim k1
theorem pek_cat {op : Operator} {r : R2} {t1 : TE} (ho : OpR X (binaryOp op) r) (h1 : PE X o t1) (pins : List (Addr × Obj)) (s : Shared) (σ : L2.St) (H : Hp) (Q : VK) (I : Inv X pins σ H s) (h : tOp r t1 (tC (.str m)) σ H Q) :
    wpAny (model X.prog X.w) X.A (eval (.BinOp o op (.Constant (.str m) j c0) p) X.env) (fun v s' => 1 ≤ s'.toks ∧ EP X pins σ Q v s') X.xe s := by
  refine wpAny_BinOp (thn (h1.run pins s σ H _ I h) fun v s1 ⟨x, H1, I1, r1, q1⟩ => Calls.Constant_str ?_)
  refine wpAny_mono (PySem.wpAny_toks (ho pins _ σ H1 x (.str m) v _ Q (I1.tok _) r1 ⟨_, rfl⟩ q1)) (fun w s2 q => ⟨?_, q.2⟩) fun _ _ z => z.2
  have := q.1
  exact Nat.le_trans (Nat.succ_le_succ (Nat.zero_le _)) this
theorem ja_first {op : Operator} {r : R2} {g : D → D → Option D} (ho : OpR X (binaryOp op) r) (hr : OpD G r g) (h1 : JE X G a W o f1) (h2 : JAT X G a W es fa)
    (hs : starEach (.BinOp o op (.Constant (.str m) j c0) p :: es) X.env = (false, eval (.BinOp o op (.Constant (.str m) j c0) p) X.env) :: starEach es X.env := by rfl) :
    JA X G a W (.BinOp o op (.Constant (.str m) j c0) p :: es) (fCons (fBin g f1 (fC (.str m))) fa) := by
  refine ⟨fun pos pins s σ H Q I h => ?_⟩
  rw [hs]
  show wpAny _ _ (spliced ((false, eval (.BinOp o op (.Constant (.str m) j c0) p) X.env) :: backTo pos (starEach es X.env))) _ _ s
  refine Calls.spliced_cons (wpAny_mono (pek_cat (j := j) (c0 := c0) (p := p) (m := m) (t1 := tG (Rp G) G a W f1) ho h1 pins s σ H (fun x H1 => tG (RpL G) G a W fa σ H1 fun xs H2 => Q (x :: xs) H2) I ?_) (fun v s1 q => ?_) fun _ _ z => z)
  · have hA : tG (Rp G) G a W (fBin g f1 (fC (.str m))) σ H (fun x H1 => tG (RpL G) G a W fa σ H1 fun xs H2 => Q (x :: xs) H2) := by
      obtain ⟨ρ, ts, Hs, S, k⟩ := h
      refine ⟨ρ, ts, Hs, S, (Po.bind (R := Rp G) k).mono ?_⟩
      rintro x H1 ⟨d1, ρ1, Hs1, S1, s1, s2, r1, k1⟩
      refine ⟨ρ1, ts, Hs1, S1, (Po.bind (R := RpL G) k1).mono ?_⟩
      rintro y H2 ⟨d2, ρ2, Hs2, S2, s3, s4, r2, k2⟩
      exact k2 _ Hs2 H2 S2 (Same.refl _) (Kp.refl _) (by rw [RpL]; exact ⟨x, y, rfl, rp_mono s3 _ _ r1, r2⟩)
    obtain ⟨ρ, ts, Hs, S, k⟩ := bin_imp hr σ H _ hA
    refine ⟨ρ, ts, Hs, S, k.mono ?_⟩
    rintro x H1 ⟨ρ1, ts1, Hs1, S1, k1⟩
    exact k1 _ Hs1 H1 S1 (Same.refl _) (Kp.refl _) (by rw [Rp])
  · obtain ⟨hk, x, H1, I1, r1, q1⟩ := q
    exact thn (h2 pos pins s1 σ H1 _ hk I1 q1) fun us s2 ⟨xs, H2, I2, r2, q2⟩ => ⟨x :: xs, H2, I2, .cons r1 r2, q2⟩
end
section
variable {c : Nat} {yes no : List Nat} {fb fs : En → Ro} {ρ : En} {o : O} {e : Ex} {y z : Str} {f : En → Rs D} {x : Str}
@[simp] theorem fRaise_eq : fRaise c ρ = .exc ⟨c, []⟩ ρ := nr rfl
def kTry (yes no : List Nat) (fs : En → Ro) (x : Ro) : Ro := match x with
  | .exc e ρ1 => if e.c ∈ yes then noExc (fs ρ1) else if e.c ∈ no then .exc e ρ1 else .bad
  | r => r
@[simp] theorem fTry_eq : fTry yes no fb fs ρ = kTry yes no fs (fb ρ) := nr rfl
@[simp] theorem kTry_nxt : kTry yes no fs (.nxt ρ) = .nxt ρ := nr rfl
@[simp] theorem kTry_ret : kTry yes no fs (.ret o ρ) = .ret o ρ := nr rfl
@[simp] theorem kTry_brk : kTry yes no fs (.brk ρ) = .brk ρ := nr rfl
@[simp] theorem kTry_ctn : kTry yes no fs (.ctn ρ) = .ctn ρ := nr rfl
@[simp] theorem kTry_exc : kTry yes no fs (.exc e ρ) = if e.c ∈ yes then noExc (fs ρ) else if e.c ∈ no then .exc e ρ else .bad := nr rfl
@[simp] theorem noExc_nxt : noExc (.nxt ρ) = .nxt ρ := nr rfl
@[simp] theorem noExc_ret : noExc (.ret o ρ) = .ret o ρ := nr rfl
def kRepl (y z : Str) (x : Rs D) : Rs D := x.bind fun d ρ1 => match d with
  | .str x => if x.length + (x.length + 1) * z.length ≤ 16777216 then .ok (.str (Txt.replace x y z)) ρ1 else .bad
  | _ => .bad
@[simp] theorem fRepl_eq : fRepl y z f ρ = kRepl y z (f ρ) := nr rfl
@[simp] theorem kRepl_ok : kRepl y z (.ok (.str x) ρ) = if x.length + (x.length + 1) * z.length ≤ 16777216 then .ok (.str (Txt.replace x y z)) ρ else .bad := nr rfl
end
end Lf

namespace Lf
open PySem PySem.Spec PyProof.Rows L2 HandSPX

/-! an exception out of a comprehension's element -/
section
variable {M : Model} {A : Around} {E : Value → Shared → Prop} {base : Heap} {env : Env} {outer : List Env} {e L : Addr} {Z : Obj → Prop} {s : Shared}
/-- noted by another place ahead of this frame -/
theorem looks_other {C : Addr} {Q : Unit → Shared → Prop} (hne : C ≠ L) (hZ : PXN.Steady1 Z) (hfr : A.frames = some (env :: outer)) (hf : env.frame = some L) (hfl : HeldZ base (env :: outer) e Z C s.heap)
    (hQ : ∀ h', HeldZ base (env :: outer) e Z L h' → s.heap.UpToSlots h' → Q () { s with heap := h' }) : wpAny M A (noteFrame (.ref e) env) Q E s := by
  obtain ⟨st, en, ff, oe, vs, T, oT, ts, he, hz, hd, f1, nT, neT, gT, dT, f3⟩ := hfl
  unfold noteFrame; simp only [hf]
  refine wpAny_bind (wpAny_field he hd f1 ?_); rw [if_pos (by simp : (Value.ref T != Value.none) = true)]
  refine wpAny_bind (wpAny_field gT dT f3 ?_); rw [if_neg (fun z => hne (Int.ofNat.inj (by simpa [rawInt] using z)) : ¬ ((rawInt C == rawInt L) = true))]
  refine wpAny_bind (wpAny_setField gT dT (Array.getElem?_eq_some_iff.mp f3).1 ?_)
  have oth : ∀ b, b ≠ T → (s.heap.update T (Obj.mapFields (·.setIfInBounds 3 Value.none))).get? b = s.heap.get? b := fun b hb => Heap.get?_update_other _ _ (Ne.symm hb)
  have nr : ∀ b o, s.heap.get? b = some o → (∀ us, o.data ≠ .fields us) → b ≠ T := fun b o hb q z => by subst z; rw [gT] at hb; cases hb; exact q ts dT
  refine PXN.wpAny_entryZ hZ hfr (ff.of_keeps fun b o hb q => ⟨o, (oth b (nr b o hb q)).trans hb, rfl⟩) hf ((oth e (Ne.symm neT)).trans he) (fun b o hb => (oth b fun q => by subst q; rw [nT] at hb; cases hb).trans (st b o hb)) en hd (Array.getElem?_eq_some_iff.mp f1).1 hz fun h' hN => ?_
  exact hQ h' ⟨hN.1, en, hN.2.1, hN.2.2.1⟩ fun b o hb q => hN.2.2.2 b o ((oth b (nr b o hb q)).trans hb) q
end
/-- the context of a block whose element may raise -/
abbrev blkE (X : Cx) (s : Shared) (H : Hp) (scope : Scope) (ce : Env) (fp : List Addr) (xe : Value → Shared → Prop) : Cx := { X.blk s H scope ce fp with xe := xe }
section
variable {X : Cx} {W : WX}
theorem blk_fails {pins : List (Addr × Obj)} {σ : L2.St} {H3 : Hp} {s3 s' : Shared} {scope : Scope} {ce : Env} {fp : List Addr} {xe : Value → Shared → Prop} {u : Value} (I3 : Inv X pins σ H3 s3) (hs : X.stack = X.env :: X.outer) (hf : X.env.frame = some X.env.locals) (tk : L2N.Takes X W)
    (cl : ce.locals = s3.heap.objs.size) (cf : ce.frame = X.env.frame) (f3 : ∀ b ∈ fp, FpOk X pins H3 b) (xx : L2N.XE (blkE X s3 H3 scope ce fp xe) (fun c d _ H => W c d σ H) u s') :
    notedBy (model X.prog X.w) X.A ce (CompFails (model X.prog X.w) X.A X.xe ce) u s' := by
  obtain ⟨a, B, sI, pinsI, σI, H', cls, d, rfl, J, nb, up, sky, na, os, ag, hw⟩ := xx
  have hfr : X.A.frames = some (X.env :: X.outer) := by rw [I3.ok.frames, hs]
  have nC : H' ce.locals = none := J.free
  have ltC : ∀ b o, s3.heap.get? b = some o → b ≠ ce.locals := fun b o q => by rw [cl]; exact Nat.ne_of_lt (Heap.lt_size q)
  obtain ⟨mI, hnI, _⟩ := J.loc
  have hnI : sI.heap.Ns ce.locals mI := hnI
  obtain ⟨G, g1, g2⟩ := restrict sI.heap fun b => decide (b ≠ ce.locals)
  obtain ⟨B', b1, b2⟩ := restrict B fun b => decide (b ≠ ce.locals)
  have gk : ∀ b, b ≠ ce.locals → G.get? b = sI.heap.get? b := fun b q => g1 b (decide_eq_true q)
  have bk : ∀ b, b ≠ ce.locals → B'.get? b = B.get? b := fun b q => b1 b (decide_eq_true q)
  have gC : ∀ b o, G.get? b = some o → b ≠ ce.locals := fun b o q z => by subst z; rw [g2 _ (by simp)] at q; cases q
  have bC : ∀ b o, B'.get? b = some o → b ≠ ce.locals := fun b o q z => by subst z; rw [b2 _ (by simp)] at q; cases q
  have bn : ∀ b, B.get? b = none → B'.get? b = none := fun b q => by
    by_cases z : b = ce.locals
    · subst z; exact b2 _ (by simp)
    · rw [bk b z]; exact q
  have IG : Inv X pins σ H' { sI with heap := G } := by
    have U := J.base
    refine I3.call' (ch := fp) J.os ⟨fun b o q n h1 h2 => (gk b (ltC b o q)).trans (U.keep b o q n h1 h2), fun b o q n h1 h2 => ?_, U.free, fun b o q h2 => ?_, U.tups, U.frzs, U.tbls⟩ (fun b o q => (J.hok b o q).stay (fun c v hc r => (gk c fun z => ?_).trans r) (fun _ r => r) fun _ _ r => r) J.bare fun b hb => ⟨(f3 b hb).2.2.2.1, (f3 b hb).2.1, (f3 b hb).2.2.2.2.1, (f3 b hb).2.2.2.2.2⟩
    · obtain ⟨sl, r⟩ := U.slot b o q n h1 h2
      exact ⟨sl, (gk b (ltC b o q)).trans r⟩
    · obtain ⟨o', r⟩ := U.there b o q h2
      exact ⟨o', (gk b (ltC b o q)).trans r⟩
    · subst z
      rcases hc with hc | hc
      · subst hc; rw [nC] at q; cases q
      · rw [nC] at hc; cases hc
  have fin : ∀ h1, HeldZ B X.stack a (L2N.Zn cls d) X.env.locals h1 → s'.heap.UpToSlots h1 → CompFails (model X.prog X.w) X.A X.xe ce (.ref a) { s' with heap := h1 } := by
    intro h1 hh k1
    have hn1 : h1.Ns ce.locals mI := hnI.upToSlots (up.trans k1)
    refine ⟨mI, hn1, fun h2 m2 hn2 hs2 => ?_⟩
    obtain ⟨st, en, ff, oe, vs, T, oT, ts, he, hz, hd, f1, nT, neT, gT, dT, fl⟩ := hh
    obtain ⟨oC, es, ep, hoC, hdC, _⟩ := id hn1
    have ne : ∀ b o us, h1.get? b = some o → o.data = .fields us → b ≠ ce.locals := fun b o us q r z => by subst z; rw [hoC] at q; cases q; rw [hdC] at r; cases r
    have ff2 : h2.FunFrames B' X.stack := funFrames_none (Heap.FunFrames.sameBut hs2 hn2 ff) fun L hL => bn L (ff.mem hL).1
    have he2 := (hs2.2 a (ne a _ _ he hd)).trans he
    have held : HeldZ B' X.stack a (L2N.Zn cls d) X.env.locals h2 := ⟨fun b o q => (hs2.2 b (bC b o q)).trans (st b o ((bk b (bC b o q)).symm.trans q)), bn a en, ff2, oe, vs, T, oT, ts, he2, hz, hd, f1, bn T nT, neT, (hs2.2 T (ne T _ _ gT dT)).trans gT, dT, fl⟩
    unfold PySem.passOn
    refine wpAny_bind (wpAny_field he2 hd f1 ?_)
    rw [if_neg (by simp : ¬ ((Value.ref T == Value.none) = true)), cf, hf]
    refine wpAny_bind (setFlight_onZ (s := { s' with heap := h2 }) held fun h3 held3 k3 => wpAny_throw (tk _ _ ⟨a, B', { sI with heap := G }, pins, σ, H', cls, d, rfl, IG, fun b o q h => ?_, fun b o q hd => ?_, .inr (.inr held3), na, os, ag, hw⟩))
    · exact (bk b (gC b o q)).trans (nb b o ((gk b (gC b o q)).symm.trans q) h)
    · obtain ⟨sl, q1⟩ := up b o ((gk b (gC b o q)).symm.trans q) hd
      obtain ⟨sl2, q2⟩ := k1 b _ q1 hd
      exact k3 b { o with slots := sl2 } ((hs2.2 b (gC b o q)).trans q2) hd
  show wpAny _ _ (noteFrame (.ref a) ce) _ _ s'
  rw [noteFrame_env _ cf]
  have sky' : Sky B (X.env :: X.outer) a (L2N.Zn cls d) ce.locals s'.heap := by rw [← hs]; exact sky
  rcases sky' with ⟨st, en, ff, oe, vs, he, hz, hd, f1⟩ | fly | held
  · exact PXN.look_newZ L2N.Zn.steady hfr ff hf he st en hd f1 hz fun h1 hh k => fin h1 (by rw [hs]; exact hh) k
  · exact PXN.looks_onZ L2N.Zn.steady hfr hf fly fun h1 hh k => fin h1 (by rw [hs]; exact hh) k
  · refine looks_other ?_ L2N.Zn.steady hfr hf held fun h1 hh k => fin h1 (by rw [hs]; exact hh) k
    rw [cl]
    exact Nat.ne_of_gt I3.lt
theorem lc_coreE {pins : List (Addr × Obj)} {s : Shared} {σ : L2.St} {H : Hp} {Q : VK} {el tg src : Expr} {cs : List Expr} {sc : Scope} {own : List (Str × Nat)} {p p' : Pos} {wi : TI} {g : TG} {tt : TT} {te : TE} {use : Option (Value → Sem Unit)} {Qf : Value → Shared → Prop}
    (hc : X.calm = true) (hN : X.N.Nodup) (hst : X.stack = X.env :: X.outer) (hf : X.env.frame = some X.env.locals) (tk : L2N.Takes X W) (I : Inv X pins σ H s) (hi : PI X tg src wi) (ok : BlkOk X.N X.env.scope sc own)
    (hg : ∀ (s : Shared) (H : Hp) (C : Addr) (cl : List (Str × Addr)) (fp : List Addr) (xe : Value → Shared → Prop), PG (blkE X s H sc (compEnvC sc cl C X.env) fp xe) tg g)
    (ht : ∀ (s : Shared) (H : Hp) (C : Addr) (cl : List (Str × Addr)) (fp : List Addr) (xe : Value → Shared → Prop), PTs (blkE X s H sc (compEnvC sc cl C X.env) fp xe) cs tt)
    (he : ∀ (s : Shared) (H : Hp) (C : Addr) (cl : List (Str × Addr)) (fp : List Addr) (xe : Value → Shared → Prop), L2N.Takes (blkE X s H sc (compEnvC sc cl C X.env) fp xe) (fun c d _ H => W c d σ H) → PE (blkE X s H sc (compEnvC sc cl C X.env) fp xe) el te)
    (hs : ∀ x, foldedSetIterable src X.env x = pure x) (h : tLc wi g tt te (own.map (·.2)) σ H Q)
    (hR : ∀ D (ce : Env) s' m H', Inv X pins σ H' s' → Q (.ref D) H' → s'.heap.Ns ce.locals m → FpOk X pins H' ce.locals → compEnds (model X.prog X.w) X.A X.xe use Qf (.ref D) ce (.ok .next) s') :
    wpAny (model X.prog X.w) X.A (comprehension (.ListComp el [⟨tg, src, cs, 0⟩] sc p) sc X.env p' (newList []) false (eval src X.env) use) Qf X.xe s := by
  have free : ∀ y ∈ sc.names, y.2 = .free → ∃ c, X.env.cells.lookup y.1 = some c := fun y hy e => (ok.free y hy e).elim (fun k => I.ok.has _ (.inl k)) fun k => I.ok.has _ (.inr k)
  refine comprehension_at (use := use) rfl hs (closure_ok free) ok.kind (fun y hy e => by rw [ok.uniq y hy, e]) (thn (hi.run pins s σ H _ I h) fun x0 s1 hx => thn hx fun i0 s2 hy => ?_)
  obtain ⟨it, fp, tn, J, H2, rfl, I2, T, st2, f2, q⟩ := hy
  refine wpAny_newObj_type (newEnv_comp ?_) (by show 0 ≤ sizeLine; decide); generalize hD : s2.heap.objs.size = D
  have nD : H2 D = none := I2.hok.fresh (Nat.le_of_eq hD)
  obtain ⟨Wm, ⟨m0, w0⟩, turn⟩ := q D nD
  generalize e3 : ({ s2 with heap := s2.heap.push { cls := .type "list", data := .seq ([] : List Value).toArray } } : Shared) = s3; have h3 : s3.heap = s2.heap.push { cls := .type "list", data := .seq ([] : List Value).toArray } := by rw [← e3]
  have I3 : Inv X pins σ (upd H2 D (.lst [])) s3 := by
    rw [← e3]; refine I2.laid (t' := s2.toks) (fun b o e => Heap.get?_push_of_some _ e) (Nat.le_of_eq hD) ⟨Nat.zero_le _, [], 0, .nil, ?_⟩
    rw [← hD]; exact Heap.get?_push_size _ rfl
  have lt2 : ∀ b ∈ fp, b < s2.heap.objs.size := fun b hb => (T.obj _ _ st2 b hb).elim fun o e => Heap.lt_size e.1
  have f3 : ∀ b ∈ fp, FpOk X pins (upd H2 D (.lst [])) b ∧ b < s3.heap.objs.size := fun b hb =>
    ⟨⟨by rw [upd_ne (by rw [← hD]; exact Nat.ne_of_lt (lt2 b hb))]; exact (f2 b hb).1, (f2 b hb).2⟩, by rw [h3, Heap.size_push]; exact Nat.lt_succ_of_lt (lt2 b hb)⟩
  have st3 : tn 0 s3.heap := T.keep _ _ _ st2 fun b _ o e => by rw [h3]; exact Heap.get?_push_of_some _ e
  have I4 := block_start I3 ok hN f3
  generalize hCL : cellsFrom (s3.heap.objs.size + 1) sc.names (cloFrom X.env.cells sc.names []) = CL at I4
  show codeAny _ _ (.compStart (.ListComp el [⟨tg, src, cs, 0⟩] sc p) 0 (.ref it) (.ref D) (compEnvC sc CL s3.heap.objs.size X.env)) (compEnds (model X.prog X.w) X.A X.xe use Qf (.ref D) (compEnvC sc CL s3.heap.objs.size X.env)) { s3 with heap := pushCells (s3.heap.push { cls := .type "dict", data := .dict #[] }) sc.names }
  have pg := hg s3 (upd H2 D (.lst [])) s3.heap.objs.size CL fp; have pt := ht s3 (upd H2 D (.lst [])) s3.heap.objs.size CL fp; have pe := he s3 (upd H2 D (.lst [])) s3.heap.objs.size CL fp
  have nfp : ∀ b ∈ fp, (upd H2 D (.lst [])) b = none := fun b hb => (f3 b hb).1.1
  generalize hce : compEnvC sc CL s3.heap.objs.size X.env = ce at I4 pg pt pe ⊢
  have cL : ce.locals = s3.heap.objs.size := by subst hce; rfl
  have cF : ce.frame = X.env.frame := by subst hce; rfl
  generalize hH3 : upd H2 D (.lst []) = H3 at I3 I4 pg pt pe w0 nfp f3
  generalize e4 : ({ s3 with heap := pushCells (s3.heap.push { cls := .type "dict", data := .dict #[] }) sc.names } : Shared) = s4 at I4 ⊢
  have st4 : tn 0 s4.heap := T.keep _ _ _ st3 fun b _ o e => by rw [← e4]; exact pushCells_keeps _ _ _ _ (Heap.get?_push_of_some _ e)
  generalize hxe : (fun (u : Value) (s' : Shared) => notedBy (model X.prog X.w) X.A ce (CompFails (model X.prog X.w) X.A X.xe ce) u s') = xe
  have tkE : L2N.Takes (blkE X s3 H3 sc ce fp xe) (fun c d _ H => W c d σ H) := fun u s' xx => by
    subst hxe; exact blk_fails I3 hst hf tk cL cF (fun b hb => (f3 b hb).1) xx
  have PEl := pe xe tkE; have PGt := pg xe; have PTt := pt xe
  have toE : ∀ u s', xe u s' → notedBy (model X.prog X.w) X.A ce (fun e s' => compEnds (model X.prog X.w) X.A X.xe use Qf (.ref D) ce (.error e) s') u s' := fun u s' z => by
    subst hxe; exact wpAny_mono z (fun _ _ q => by cases use <;> exact q) fun _ _ q => by cases use <;> exact q
  have I4 : Inv (blkE X s3 H3 sc ce fp xe) [] (L2.wipe σ (own.map (·.2))) H3 s4 := Inv.toTry (X := X.blk s3 H3 sc ce fp) I4 xe
  have stat : ∀ {σ' : L2.St} {H' : Hp} {s' : Shared}, Inv (blkE X s3 H3 sc ce fp xe) [] σ' H' s' → (∀ b ∈ fp, H' b = none) → ∀ b ∈ fp, FpOk (blkE X s3 H3 sc ce fp xe) [] H' b := fun {σ' H' s'} J n b hb =>
    ⟨n b hb, (J.ok.exf b hb).1, J.ok.exfs b hb, .inl hb, fun x c e => (J.ok.exf b hb).2 x c e, fun q hq => absurd (show q ∈ ([] : List (Addr × Obj)) ++ [] from hq) (by simp)⟩
  suffices loop : codeAny (model X.prog X.w) X.A (.compLoop (.ListComp el [⟨tg, src, cs, 0⟩] sc p) 0 (.ref it) (.ref D) ce) (compEnds (model X.prog X.w) X.A X.xe use Qf (.ref D) ce) s4 from codeAny_compStart_list loop (T.self X.A 0 _ _ _ st4 loop)
  refine compLoop_any (fun n s' => ∃ i H', Inv (blkE X s3 H3 sc ce fp xe) [] (L2.wipe σ (own.map (·.2))) H' s' ∧ tn i s'.heap ∧ (∀ b ∈ fp, H' b = none) ∧ Wm i n H') ?_ m0 ⟨0, H3, I4, st4, nfp, w0⟩
  rintro n s5 ⟨i, H5, I5, st5, n5, w5⟩
  rcases turn i n H5 w5 with ⟨stop, qq⟩ | ⟨go, Nx, hNx, step⟩
  · have td := T.done (blkE X s3 H3 sc ce fp xe) rfl rfl rfl hc i [] s5 _ H5 (fun _ _ => False) I5 (stat I5 n5) st5 stop
    refine thnF td fun r s6 ⟨hr, I6⟩ => ?_; subst hr
    have I7 : Inv X pins σ H5 s6 := I3.call' (ch := fp) I6.os I6.base I6.hok I6.bare fun b hb => let z := (f3 b hb).1; ⟨z.2.2.2.1, z.2.1, z.2.2.2.2.1, z.2.2.2.2.2⟩
    have nC : H5 ce.locals = none := I6.free
    obtain ⟨m, hn, _⟩ := I6.loc
    exact hR D ce s6 m H5 I7 qq hn (I3.fpOk (Nat.le_of_eq cL.symm) nC)
  · have ti := T.item (blkE X s3 H3 sc ce fp xe) rfl rfl rfl hc i [] s5 _ H5 (fun _ _ => False) I5 (stat I5 n5) st5 go
    refine thnF ti fun r s6 ⟨u, hr, h6⟩ => ?_; subst hr
    refine thnF h6 fun _ s7 ⟨x, H7, I7, r7, y7, st7, n7⟩ => ?_
    have J7 := I7.pinned (stat I7 n7) (T.obj _ _ st7)
    refine wpAny_mono (PGt.run _ s7 _ H7 x u _ J7 r7 (step x H7 y7)) (fun _ s8 ⟨σ8, H8, I8, hw8, q8⟩ => ?_) toE
    refine wpAny_mono (PTt.run _ s8 σ8 H8 _ I8 q8) (fun b s9 ⟨H9, I9, q9⟩ => ?_) toE
    have fin : ∀ {s' : Shared} {H' : Hp}, Inv (blkE X s3 H3 sc ce fp xe) ([] ++ pinsAt fp s7.heap) σ8 H' s' → Nx H' → ∃ m, m < n ∧ ∃ i H', Inv (blkE X s3 H3 sc ce fp xe) [] (L2.wipe σ (own.map (·.2))) H' s' ∧ tn i s'.heap ∧ (∀ b ∈ fp, H' b = none) ∧ Wm i m H' := fun {s' H'} K nx => by
      obtain ⟨m', hm, w'⟩ := hNx H' nx
      have pin : ∀ b ∈ fp, ∀ o, s7.heap.get? b = some o → s'.heap.get? b = some o ∧ H' b = none := fun b hb o e => (K.pin (b, o) (List.mem_append_right _ (List.mem_append_right _ (mem_pinsAt hb e)))).elim fun z1 z2 => ⟨z1, z2.1⟩
      refine ⟨m', hm, i + 1, H', (K.unpinned (pins := [])).weak (by rw [← hw8, wipe_length]) (fun j v e => (wipe_some (vs := own.map (·.2)) (by rw [hw8]; exact e)).1), T.keep _ _ _ st7 fun b hb o e => (pin b hb o e).1, fun b hb => (T.obj _ _ st7 b hb).elim fun o e => (pin b hb o e.1).2, w'⟩
    cases b with
    | false => simp only [Bool.false_eq_true, if_false] at q9 ⊢; exact fin I9 q9
    | true =>
      simp only [if_true] at q9 ⊢; refine wpAny_mono (PEl.run _ s9 σ8 H9 _ I9 q9) (fun z s10 ⟨yv, H10, I10, r10, acc, hD10, hz10, nx⟩ => ?_) toE
      exact app_ok (X := blkE X s3 H3 sc ce fp xe) I10 hD10 hz10 r10 fun s11 I11 => fin I11 nx
end
end Lf

namespace Lf
open PySem PySem.Spec PyProof.Rows L2

/-! comprehensions whose element may raise -/
def compLE (gt : D → En → Option En) (ft : En → Rs Bool) (fe : En → Rs D) (ws : List Nat) : List D → List D → En → Rs O
  | [], acc, ρ => .ok (.lst acc) (wipeE ρ ws)
  | d :: ds, acc, ρ => match gt d (wipeE ρ ws) with
    | none => .bad
    | some ρ1 => match ft ρ1 with
      | .ok true ρ2 => (match fe ρ2 with
        | .ok x ρ3 => if acc.length < LIM then compLE gt ft fe ws ds (acc ++ [x]) ρ3 else .bad
        | .exc e ρ3 => .exc e (wipeE ρ3 ws)
        | .bad => .bad)
      | .ok false ρ2 => compLE gt ft fe ws ds acc ρ2
      | _ => .bad
def fLcE (fi : En → Rs (List D)) (gt : D → En → Option En) (ft : En → Rs Bool) (fe : En → Rs D) (ws : List Nat) : En → Rs O := fun ρ => (fi ρ).bind fun ds ρ1 => compLE gt ft fe ws ds [] ρ1
section
variable {X : Cx} {G : Glob} {a : Act} {W : WX} {pos : Pos} {tg iter elt : Expr} {ifs : List Expr} {scope : Scope} {own : List (Str × Nat)} {fi : En → Rs (List D)} {gt : D → En → Option En} {ft : En → Rs Bool} {fe : En → Rs D} {b1 : En → Rs Bool}
theorem lc_walkE {ws : List Nat} (hp : ∀ v ∈ ws, a.pv.length ≤ v) {ts : Tm} {σ : L2.St} {Hs1 H1 : Hp} {ρ1 : En} {ds : List D} {J : It} {Q : VK} (S1 : Sta G a ρ1 ts σ Hs1 H1) (r1 : ItQ G Hs1 H1 ds J) (k1 : PoO G a W ts σ Hs1 H1 Q (compLE gt ft fe ws ds [] ρ1)) :
    ∀ Dl, H1 Dl = none → ∃ Wm : Nat → Nat → Hp → Prop, (∃ m, Wm 0 m (upd H1 Dl (.lst []))) ∧ ∀ i m H, Wm i m H →
      (J.stop i H ∧ Q (.ref Dl) H) ∨ (J.go i H ∧ ∃ Nx : Hp → Prop, (∀ H', Nx H' → ∃ m', m' < m ∧ Wm (i + 1) m' H') ∧ ∀ x H', J.yld i H x H' → tT G a ws gt x (L2.wipe σ ws) H' fun σ2 H2 => L2.wipe σ2 ws = L2.wipe σ ws ∧ tG BB G a WF ft σ2 H2 fun b H3 =>
        if b = true then tG (Rp G) G a (fun c d _ H => W c d σ H) fe σ2 H3 fun y H4 => ∃ acc, H4 Dl = some (.lst acc) ∧ acc.length < sizeLine ∧ Nx (upd H4 Dl (.lst (acc ++ [y]))) else Nx H3) := by
  intro Dl hD
  have SD := S1.newO hD (ds := []) (vs := []) (by rw [RpL])
  refine ⟨fun i m H => m = ds.length - i ∧ i ≤ ds.length ∧ ∃ ρ Hs2 acc σ2, Sta G a ρ ((.lst acc, .ref Dl) :: ts) σ2 Hs2 H ∧ L2.wipe σ2 ws = L2.wipe σ ws ∧ Same Hs1 Hs2 ∧ Kp H1 H ∧ PoO G a W ts σ Hs1 H1 Q (compLE gt ft fe ws (ds.drop i) acc ρ),
    ⟨ds.length, by simp, Nat.zero_le _, ρ1, Hs1, [], σ, SD, rfl, Same.refl _, Kp.new hD, k1⟩, ?_⟩
  rintro i m H2 ⟨rfl, hi, ρ2, Hs2, acc, σ2, S2, w2, t3, t4, k2⟩
  have fresh : ∀ {Hx : Hp}, Kp H1 Hx → ∀ {x : HO}, Kp H1 (upd Hx Dl x) := fun {Hx} s {x} b u e n => by
    have nb : b ≠ Dl := fun z => by rw [z, hD] at e; cases e
    rw [upd_ne nb]
    exact s b u e n
  by_cases hlt : i < ds.length
  · obtain ⟨go, yl⟩ := (r1 Hs2 H2 i t3 t4 S2.sub).2 ds[i] (by simp [hlt])
    refine .inr ⟨go, fun H' => ∃ ρ Hs3 acc σ3, Sta G a ρ ((.lst acc, .ref Dl) :: ts) σ3 Hs3 H' ∧ L2.wipe σ3 ws = L2.wipe σ ws ∧ Same Hs1 Hs3 ∧ Kp H1 H' ∧ PoO G a W ts σ Hs1 H1 Q (compLE gt ft fe ws (ds.drop (i + 1)) acc ρ), fun H' p' => ⟨ds.length - (i + 1), by omega, rfl, hlt, p'⟩, fun x H' y => ?_⟩
    obtain ⟨Hs3, gr, rx⟩ := yl x H' y
    have S3 := gr.sta S2
    have t5 := gr.same1 S2.sub
    have t6 := gr.same2
    rw [List.drop_eq_getElem_cons hlt] at k2
    have hw : L2.wipe (L2.wipe σ ws) ws = L2.wipe σ ws := wipe_iff.mpr ⟨wipe_length _ _, fun j hj => by rw [wipe_get, if_neg (fun z => hj z.1)]⟩
    have S4 := S3.rewipe (σ2 := L2.wipe σ ws) (ws := ws) (hw.trans w2.symm) hp
    refine ⟨wipeE ρ2 ws, (.lst acc, .ref Dl) :: ts, Hs3, ds[i], S4, rx, ?_⟩
    unfold compLE at k2
    cases hgt : gt ds[i] (wipeE ρ2 ws) with
    | none => simp only [hgt] at k2; exact False.elim k2
    | some ρ4 =>
      simp only [hgt] at k2
      intro σ4 Hs4 H4 S5 t7 t8 w4
      have w4' : L2.wipe σ4 ws = L2.wipe σ ws := by rw [w4, hw]
      refine ⟨w4', ρ4, (.lst acc, .ref Dl) :: ts, Hs4, S5, ?_⟩
      cases hft : ft ρ4 with
      | bad => simp only [hft] at k2; exact False.elim k2
      | exc ex ρ5 => simp only [hft] at k2; exact False.elim k2
      | ok bb ρ5 =>
        intro b5 Hs5 H5 S6 t9 t10 rb
        cases rb
        cases bb with
        | false =>
          simp only [hft] at k2
          rw [if_neg Bool.false_ne_true]
          exact ⟨ρ5, Hs5, acc, σ4, S6, w4', ((t3.trans t5).trans t7).trans t9, ((t4.trans t6).trans t8).trans t10, k2⟩
        | true =>
          simp only [hft] at k2
          rw [if_pos rfl]
          refine ⟨ρ5, (.lst acc, .ref Dl) :: ts, Hs5, S6, ?_⟩
          cases hfe : fe ρ5 with
          | bad => simp only [hfe] at k2; exact False.elim k2
          | exc ex ρ6 =>
            simp only [hfe] at k2
            intro c d Hs6 H6 S7 r6
            exact k2 c d Hs6 H6 (S7.drop.rewipe w4'.symm hp) r6
          | ok xd ρ6 =>
            simp only [hfe] at k2
            intro y6 Hs6 H6 S7 t11 t12 r6
            obtain ⟨g6, ow6⟩ := S7.topO
            rw [Own] at ow6
            obtain ⟨p6, vs6, ep, hp6, eg, rl6⟩ := ow6
            cases ep
            by_cases hl : acc.length < LIM
            · rw [if_pos hl] at k2
              refine ⟨vs6, hp6, by rw [← rpl_length rl6, ← lim_eq]; exact hl, ρ6, Hs6, acc ++ [xd], σ4, S7.wtop (fun g ng ow => ?_), w4', ((((t3.trans t5).trans t7).trans t9).trans t11), fresh ((((t4.trans t6).trans t8).trans t10).trans t12), k2⟩
              rw [Own] at ow
              obtain ⟨p7, vs7, ep7, hp7, eg7, rl7⟩ := ow
              cases ep7
              subst eg7
              rw [hp6] at hp7
              cases hp7
              refine ⟨by simp, ?_⟩
              rw [Own]
              exact ⟨Dl, _, rfl, upd_same, rfl, rpl_append rl7 (by rw [RpL]; exact ⟨_, _, rfl, r6, by rw [RpL]⟩)⟩
            · rw [if_neg hl] at k2
              exact False.elim k2
  · have e : i = ds.length := by omega
    subst e
    rw [List.drop_length] at k2
    exact .inl ⟨(r1 Hs2 H2 _ t3 t4 S2.sub).1 rfl, k2 _ Hs2 H2 (S2.rewipe w2.symm hp) t3 t4⟩
theorem lc_impE {ws : List Nat} (hp : ∀ v ∈ ws, a.pv.length ≤ v) (σ : L2.St) (H : Hp) (Q : VK) (h : tO G a W (fLcE fi gt ft fe ws) σ H Q) :
    tLc (tG (ItR G) G a W fi) (tT G a ws gt) (tG BB G a WF ft) (tG (Rp G) G a (fun c d _ H => W c d σ H) fe) ws σ H Q := by
  obtain ⟨ρ, ts, Hs, S, k⟩ := h
  refine ⟨ρ, ts, Hs, S, (Po.bindO (R := ItR G) k).mono ?_⟩
  rintro J H1 ⟨ds, ρ1, Hs1, S1, t1, t2, r1, k1⟩
  exact lc_walkE hp S1 (fun Hs H i s1 _ s3 => r1 Hs H i s1 s3) k1
/-- what the parts of a block may need -/
structure LcE (X : Cx) (G : Glob) (a : Act) (W : WX) (tg : Expr) (ifs : List Expr) (elt : Expr) (scope : Scope) (ws : List Nat) (gt : D → En → Option En) (ft : En → Rs Bool) (fe : En → Rs D) : Prop where
  hg : ∀ (s : Shared) (H : Hp) (C : Addr) (cl : List (Str × Addr)) (fp : List Addr) (xe : Value → Shared → Prop), JG (blkE X s H scope (compEnvC scope cl C X.env) fp xe) G a ws tg gt
  ht : ∀ (s : Shared) (H : Hp) (C : Addr) (cl : List (Str × Addr)) (fp : List Addr) (xe : Value → Shared → Prop), JTs (blkE X s H scope (compEnvC scope cl C X.env) fp xe) G a WF ifs ft
  he : ∀ (W : WX) (s : Shared) (H : Hp) (C : Addr) (cl : List (Str × Addr)) (fp : List Addr) (xe : Value → Shared → Prop), L2N.Takes (blkE X s H scope (compEnvC scope cl C X.env) fp xe) W → JE (blkE X s H scope (compEnvC scope cl C X.env) fp xe) G a W elt fe
theorem jo_lcE (hp : ∀ v ∈ own.map (·.2), a.pv.length ≤ v) (hc : X.calm = true) (hN : X.N.Nodup) (hst : X.stack = X.env :: X.outer) (hf : X.env.frame = some X.env.locals) (tk : L2N.Takes X W) (hi : JI X G a W tg iter fi) (ok : BlkOk X.N X.env.scope scope own)
    (L : LcE X G a W tg ifs elt scope (own.map (·.2)) gt ft fe) (hs : ∀ x, foldedSetIterable iter X.env x = pure x := by intro _; rfl) : JO X G a W (.ListComp elt [⟨tg, iter, ifs, 0⟩] scope pos) (fLcE fi gt ft fe (own.map (·.2))) := by
  refine ⟨fun pins s σ H Q I h => ?_⟩
  rw [eval_ListComp]
  exact lc_coreE (W := W) hc hN hst hf tk I hi ok L.hg L.ht (fun s H C cl fp xe t => L.he _ s H C cl fp xe t) hs (lc_impE hp σ H Q h) fun D ce s' m H' I' q hn f => ⟨m, hn, fun h2 sb => ⟨.ref D, H', I'.turned (t' := s'.toks) (fun b o hb e => (sb.2 b hb).trans e) f.1 f.2.1 f.2.2.2.1 f.2.2.2.2.1 f.2.2.2.2.2, rfl, q⟩⟩
theorem ps_lcE (i : Nat) {y : Str} {py spos : Pos} (hp : ∀ v ∈ own.map (·.2), a.pv.length ≤ v) (hc : X.calm = true) (hN : X.N.Nodup) (hst : X.stack = X.env :: X.outer) (hf : X.env.frame = some X.env.locals) (tk : L2N.Takes X W) (hi : JI X G a W tg iter fi) (ok : BlkOk X.N X.env.scope scope own)
    (L : LcE X G a W tg ifs elt scope (own.map (·.2)) gt ft fe) (hy : X.N[i]? = some y := by rfl) (hyl : X.env.scope.names.lookup y = some .local := by rfl)
    (hsw : swapsWith (.ListComp elt [⟨tg, iter, ifs, 0⟩] scope pos) (some (.Name y py)) spos.line X.env = pure true := by exact sw_true rfl rfl rfl (by decide +kernel))
    (hs : ∀ x, foldedSetIterable iter X.env x = pure x := by intro _; rfl) :
    PS X (.Assign [.Name y py] (.ListComp elt [⟨tg, iter, ifs, 0⟩] scope pos) spos) (fun D σ H => tLc (tG (ItR G) G a W fi) (tT G a (own.map (·.2)) gt) (tG BB G a WF ft) (tG (Rp G) G a (fun c d _ H => W c d σ H) fe) (own.map (·.2)) σ H fun x H1 => gName i x σ H1 D.nx) := by
  refine ⟨fun pins s σ H D I h => ?_⟩
  rw [exec_Assign_Name_used _ _ _ _ hsw]; refine wpAny_bind (wpAny_standAt (wpAny_bind ?_))
  show wpAny _ X.A (do let _ ← comprehension (.ListComp elt [⟨tg, iter, ifs, 0⟩] scope pos) scope X.env (firstIterPos [⟨tg, iter, ifs, 0⟩] pos) (newList []) false (eval iter X.env) (some (assign (.Name y py) X.env)); _) _ _ s
  refine wpAny_bind (thn (lc_coreE (W := W) (Qf := fun _ s' => SP X pins D .next s') hc hN hst hf tk I hi ok L.hg L.ht (fun s H C cl fp xe t => L.he _ s H C cl fp xe t) hs h fun Dl ce s' m H' I' q hn f => ?_) fun _ s' hq => wpAny_pure (wpAny_pure hq))
  show wpAny _ _ (assign (.Name y py) X.env (.ref Dl)) _ _ _
  refine wpAny_assign_Name (store_ok2 (v := V.ref Dl) I' hN hy (.inl hyl) rfl (fun s2 I2 ⟨c, sb, ha⟩ => ?_) (.inr hyl))
  have hne : ce.locals ≠ c := ha.elim (fun z => by rw [z]; exact f.2.1) fun z e => f.2.2.2.2.1 y c z e.symm
  exact ⟨m, hn.sameBut sb hne, fun h3 sb3 => ⟨_, H', I2.turned (t' := s2.toks) (fun b o hb e => (sb3.2 b hb).trans e) f.1 f.2.1 f.2.2.2.1 f.2.2.2.2.1 f.2.2.2.2.2, q⟩⟩
/-- y = [..] on one line -/
theorem js_setLcE (i : Nat) {y : Str} {py spos : Pos} (hpi : a.pv.length ≤ i) (hp : ∀ v ∈ own.map (·.2), a.pv.length ≤ v) (hc : X.calm = true) (hN : X.N.Nodup) (hst : X.stack = X.env :: X.outer) (hf : X.env.frame = some X.env.locals) (tk : L2N.Takes X W) (hi : JI X G a W tg iter fi) (ok : BlkOk X.N X.env.scope scope own)
    (L : LcE X G a W tg ifs elt scope (own.map (·.2)) gt ft fe) (hy : X.N[i]? = some y := by rfl) (hyl : X.env.scope.names.lookup y = some .local := by rfl)
    (hsw : swapsWith (.ListComp elt [⟨tg, iter, ifs, 0⟩] scope pos) (some (.Name y py)) spos.line X.env = pure true := by exact sw_true rfl rfl rfl (by decide +kernel))
    (hs : ∀ x, foldedSetIterable iter X.env x = pure x := by intro _; rfl) : JS X G a W (.Assign [.Name y py] (.ListComp elt [⟨tg, iter, ifs, 0⟩] scope pos) spos) (fSetO i (fLcE fi gt ft fe (own.map (·.2)))) := by
  refine (ps_lcE i hp hc hN hst hf tk hi ok L hy hyl hsw hs).imp fun D σ H ⟨ρ, ts, Hs, S, k⟩ => lc_impE (W := W) hp σ H _ ⟨ρ, ts, Hs, S, ?_⟩
  unfold fSetO at k
  cases hx : fLcE fi gt ft fe (own.map (·.2)) ρ with
  | ok o ρ1 =>
    rw [hx] at k
    exact fun v Hs1 H1 S1 t1 t2 => k _ Hs1 H1 (S1.setO hpi) t1
  | exc ex ρ1 =>
    rw [hx] at k
    exact fun c d Hs1 H1 S1 r1 => k c d σ Hs1 H1 S1 r1
  | bad => rw [hx] at k; exact k
/-- y = [..] on one line, kept as a plain value -/
theorem js_setLcFE (i : Nat) {y : Str} {py spos : Pos} (hpi : a.pv.length ≤ i) (hp : ∀ v ∈ own.map (·.2), a.pv.length ≤ v) (hc : X.calm = true) (hN : X.N.Nodup) (hst : X.stack = X.env :: X.outer) (hf : X.env.frame = some X.env.locals) (tk : L2N.Takes X W) (hi : JI X G a W tg iter fi) (ok : BlkOk X.N X.env.scope scope own)
    (L : LcE X G a W tg ifs elt scope (own.map (·.2)) gt ft fe) (hy : X.N[i]? = some y := by rfl) (hyl : X.env.scope.names.lookup y = some .local := by rfl)
    (hsw : swapsWith (.ListComp elt [⟨tg, iter, ifs, 0⟩] scope pos) (some (.Name y py)) spos.line X.env = pure true := by exact sw_true rfl rfl rfl (by decide +kernel))
    (hs : ∀ x, foldedSetIterable iter X.env x = pure x := by intro _; rfl) : JS X G a W (.Assign [.Name y py] (.ListComp elt [⟨tg, iter, ifs, 0⟩] scope pos) spos) (fSet i (fFr (fLcE fi gt ft fe (own.map (·.2))))) := by
  refine (ps_lcE i hp hc hN hst hf tk hi ok L hy hyl hsw hs).imp fun D σ H ⟨ρ, ts, Hs, S, k⟩ => lc_impE (W := W) hp σ H _ ⟨ρ, ts, Hs, S, ?_⟩
  unfold fSet fFr at k
  cases hx : fLcE fi gt ft fe (own.map (·.2)) ρ with
  | ok o ρ1 =>
    rw [hx] at k
    intro v Hs1 H1 S1 t1 t2
    obtain ⟨Hs', t3, S3, r3⟩ := S1.fr
    exact k _ Hs' H1 (S3.set r3 hpi) (t1.trans t3)
  | exc ex ρ1 =>
    rw [hx] at k
    exact fun c d Hs1 H1 S1 r1 => k c d σ Hs1 H1 S1 r1
  | bad => rw [hx] at k; exact k
end
section
variable {fi : En → Rs (List D)} {gt : D → En → Option En} {ft : En → Rs Bool} {fe : En → Rs D} {ws : List Nat} {acc ds : List D} {d : D} {ρ : En} {e : Ex}
def kLcE (gt : D → En → Option En) (ft : En → Rs Bool) (fe : En → Rs D) (ws : List Nat) (x : Rs (List D)) : Rs O := x.bind fun ds ρ1 => compLE gt ft fe ws ds [] ρ1
@[simp] theorem fLcE_eq : fLcE fi gt ft fe ws ρ = kLcE gt ft fe ws (fi ρ) := nr rfl
@[simp] theorem kLcE_ok : kLcE gt ft fe ws (.ok ds ρ) = compLE gt ft fe ws ds [] ρ := nr rfl
@[simp] theorem kLcE_exc : kLcE gt ft fe ws (.exc e ρ) = .exc e ρ := nr rfl
def kCe2 (gt : D → En → Option En) (ft : En → Rs Bool) (fe : En → Rs D) (ws : List Nat) (ds acc : List D) (x : Rs D) : Rs O := match x with
  | .ok d ρ3 => if acc.length < 16777216 then compLE gt ft fe ws ds (acc ++ [d]) ρ3 else .bad
  | .exc e ρ3 => .exc e (wipeE ρ3 ws)
  | .bad => .bad
@[simp] theorem kCe2_ok : kCe2 gt ft fe ws ds acc (.ok d ρ) = if acc.length < 16777216 then compLE gt ft fe ws ds (acc ++ [d]) ρ else .bad := nr rfl
@[simp] theorem kCe2_exc : kCe2 gt ft fe ws ds acc (.exc e ρ) = .exc e (wipeE ρ ws) := nr rfl
theorem compLE_nil : compLE gt ft fe ws [] acc ρ = .ok (.lst acc) (wipeE ρ ws) := by rw [compLE]
def kCe (gt : D → En → Option En) (fe : En → Rs D) (ws : List Nat) (ds acc : List D) (x : Option En) : Rs O := match x with
  | some ρ1 => kCe2 gt fYes fe ws ds acc (fe ρ1)
  | none => .bad
@[simp] theorem kCe_some : kCe gt fe ws ds acc (some ρ) = kCe2 gt fYes fe ws ds acc (fe ρ) := nr rfl
theorem compLE_cons : compLE gt fYes fe ws (d :: ds) acc ρ = kCe gt fe ws ds acc (gt d (wipeE ρ ws)) := by
  rw [compLE]
  cases h : gt d (wipeE ρ ws) with
  | none => rfl
  | some ρ1 =>
    simp only [fYes, kCe_some]
    cases h2 : fe ρ1 <;> rfl
end
end Lf

namespace Lf
open PySem PySem.Spec PyProof.Rows L2 HandSPX L2H

/-! a comprehension while an exception is handled -/
/-- the context of such a block: the pins stay -/
abbrev blkP (X : Cx) (s : Shared) (H : Hp) (scope : Scope) (ce : Env) (fp : List Addr) (pn : List (Addr × Obj)) : Cx := { X.blk s H scope ce fp with pn := pn }
section
variable {X : Cx} {W : WX}
theorem lc_coreP {pins : List (Addr × Obj)} {s : Shared} {σ : L2.St} {H : Hp} {Q : VK} {el tg src : Expr} {cs : List Expr} {sc : Scope} {own : List (Str × Nat)} {p p' : Pos} {wi : TI} {g : TG} {tt : TT} {te : TE} {use : Option (Value → Sem Unit)} {Qf : Value → Shared → Prop}
    (hot : HotC X) (hN : X.N.Nodup) (hst : X.stack = X.env :: X.outer) (hf : X.env.frame = some X.env.locals) (I : Inv X pins σ H s) (hi : PIH X tg src wi) (ok : BlkOk X.N X.env.scope sc own)
    (hg : ∀ (s : Shared) (H : Hp) (C : Addr) (cl : List (Str × Addr)) (fp : List Addr), PG (blkP X s H sc (compEnvC sc cl C X.env) fp (X.pn ++ pins)) tg g)
    (ht : ∀ (s : Shared) (H : Hp) (C : Addr) (cl : List (Str × Addr)) (fp : List Addr), PTs (blkP X s H sc (compEnvC sc cl C X.env) fp (X.pn ++ pins)) cs tt)
    (he : ∀ (s : Shared) (H : Hp) (C : Addr) (cl : List (Str × Addr)) (fp : List Addr), PE (blkP X s H sc (compEnvC sc cl C X.env) fp (X.pn ++ pins)) el te)
    (hs : ∀ x, foldedSetIterable src X.env x = pure x) (h : tLc wi g tt te (own.map (·.2)) σ H Q)
    (hR : ∀ D (ce : Env) s' m H', Inv X pins σ H' s' → Q (.ref D) H' → s'.heap.Ns ce.locals m → FpOk X pins H' ce.locals → compEnds (model X.prog X.w) X.A X.xe use Qf (.ref D) ce (.ok .next) s') :
    wpAny (model X.prog X.w) X.A (comprehension (.ListComp el [⟨tg, src, cs, 0⟩] sc p) sc X.env p' (newList []) false (eval src X.env) use) Qf X.xe s := by
  have free : ∀ y ∈ sc.names, y.2 = .free → ∃ c, X.env.cells.lookup y.1 = some c := fun y hy e => (ok.free y hy e).elim (fun k => I.ok.has _ (.inl k)) fun k => I.ok.has _ (.inr k)
  refine comprehension_at (use := use) rfl hs (closure_ok free) ok.kind (fun y hy e => by rw [ok.uniq y hy, e]) (thn (hi.run pins s σ H _ I h) fun x0 s1 hx => thn hx fun i0 s2 hy => ?_)
  obtain ⟨it, fp, tn, J, H2, rfl, I2, T, st2, f2, q⟩ := hy
  refine wpAny_newObj_type (newEnv_comp ?_) (by show 0 ≤ sizeLine; decide); generalize hD : s2.heap.objs.size = D
  have nD : H2 D = none := I2.hok.fresh (Nat.le_of_eq hD)
  obtain ⟨Wm, ⟨m0, w0⟩, turn⟩ := q D nD
  generalize e3 : ({ s2 with heap := s2.heap.push { cls := .type "list", data := .seq ([] : List Value).toArray } } : Shared) = s3; have h3 : s3.heap = s2.heap.push { cls := .type "list", data := .seq ([] : List Value).toArray } := by rw [← e3]
  have I3 : Inv X pins σ (upd H2 D (.lst [])) s3 := by
    rw [← e3]; refine I2.laid (t' := s2.toks) (fun b o e => Heap.get?_push_of_some _ e) (Nat.le_of_eq hD) ⟨Nat.zero_le _, [], 0, .nil, ?_⟩
    rw [← hD]; exact Heap.get?_push_size _ rfl
  have lt2 : ∀ b ∈ fp, b < s2.heap.objs.size := fun b hb => (T.obj _ _ st2 b hb).elim fun o e => Heap.lt_size e.1
  have f3 : ∀ b ∈ fp, FpOk X pins (upd H2 D (.lst [])) b ∧ b < s3.heap.objs.size := fun b hb =>
    ⟨⟨by rw [upd_ne (by rw [← hD]; exact Nat.ne_of_lt (lt2 b hb))]; exact (f2 b hb).1, (f2 b hb).2⟩, by rw [h3, Heap.size_push]; exact Nat.lt_succ_of_lt (lt2 b hb)⟩
  have st3 : tn 0 s3.heap := T.keep _ _ _ st2 fun b _ o e => by rw [h3]; exact Heap.get?_push_of_some _ e
  have I4 := block_start I3 ok hN f3
  generalize hCL : cellsFrom (s3.heap.objs.size + 1) sc.names (cloFrom X.env.cells sc.names []) = CL at I4
  show codeAny _ _ (.compStart (.ListComp el [⟨tg, src, cs, 0⟩] sc p) 0 (.ref it) (.ref D) (compEnvC sc CL s3.heap.objs.size X.env)) (compEnds (model X.prog X.w) X.A X.xe use Qf (.ref D) (compEnvC sc CL s3.heap.objs.size X.env)) { s3 with heap := pushCells (s3.heap.push { cls := .type "dict", data := .dict #[] }) sc.names }
  have PGt := hg s3 (upd H2 D (.lst [])) s3.heap.objs.size CL fp; have PTt := ht s3 (upd H2 D (.lst [])) s3.heap.objs.size CL fp; have PEl := he s3 (upd H2 D (.lst [])) s3.heap.objs.size CL fp
  have nfp : ∀ b ∈ fp, (upd H2 D (.lst [])) b = none := fun b hb => (f3 b hb).1.1
  generalize hce : compEnvC sc CL s3.heap.objs.size X.env = ce at I4 PGt PTt PEl ⊢
  have cL : ce.locals = s3.heap.objs.size := by subst hce; rfl
  generalize hH3 : upd H2 D (.lst []) = H3 at I3 I4 PGt PTt PEl w0 nfp f3
  generalize e4 : ({ s3 with heap := pushCells (s3.heap.push { cls := .type "dict", data := .dict #[] }) sc.names } : Shared) = s4 at I4 ⊢
  have kp : ∀ b o, s3.heap.get? b = some o → s4.heap.get? b = some o := fun b o e => by rw [← e4]; exact pushCells_keeps _ _ _ _ (Heap.get?_push_of_some _ e)
  have st4 : tn 0 s4.heap := T.keep _ _ _ st3 fun b _ o e => kp b o e
  have I4 : Inv (blkP X s3 H3 sc ce fp (X.pn ++ pins)) [] (L2.wipe σ (own.map (·.2))) H3 s4 := by
    refine ⟨⟨I4.ok.mod, I4.ok.kind, I4.ok.glob, I4.ok.blt, I4.ok.above, I4.ok.inj, I4.ok.has, I4.ok.cab, I4.ok.hd, I4.ok.frames, I4.ok.stk, I4.ok.exf, I4.ok.bs, I4.ok.bsz, I4.ok.noex, I4.ok.exfs, I4.ok.funs, I4.ok.frf⟩, I4.os, I4.bare, I4.base, I4.loc, I4.cell, I4.free, I4.freeC, fun z hz => ?_, I4.hok, I4.len⟩
    rw [List.append_nil] at hz
    obtain ⟨a1, a2, a3, a4, a5⟩ := I3.pin z hz
    refine ⟨kp _ _ a1, a2, by show z.1 ≠ ce.locals; rw [cL]; exact Nat.ne_of_lt (Heap.lt_size a1), fun hm => ?_, a5⟩
    have hm' : z.1 ∈ frs X.stack := hm
    rw [hst] at hm'
    have e5 : frs (X.env :: X.outer) = X.env.locals :: frs X.outer := by unfold frs; rw [List.filterMap_cons, hf]
    rw [e5] at hm'
    exact (List.mem_cons.mp hm').elim a3 a4
  have hotB : HotC (blkP X s3 H3 sc ce fp (X.pn ++ pins)) := by
    obtain ⟨z, hz, hm⟩ := hot
    exact ⟨z, hz, List.mem_append_left _ hm⟩
  have stat : ∀ {σ' : L2.St} {H' : Hp} {s' : Shared}, Inv (blkP X s3 H3 sc ce fp (X.pn ++ pins)) [] σ' H' s' → (∀ b ∈ fp, H' b = none) → ∀ b ∈ fp, FpOk (blkP X s3 H3 sc ce fp (X.pn ++ pins)) [] H' b := fun {σ' H' s'} J n b hb =>
    ⟨n b hb, (J.ok.exf b hb).1, J.ok.exfs b hb, .inl hb, fun x c e => (J.ok.exf b hb).2 x c e, fun q hq => (f3 b hb).1.2.2.2.2.2 q (by rw [List.append_nil] at hq; exact hq)⟩
  suffices loop : codeAny (model X.prog X.w) X.A (.compLoop (.ListComp el [⟨tg, src, cs, 0⟩] sc p) 0 (.ref it) (.ref D) ce) (compEnds (model X.prog X.w) X.A X.xe use Qf (.ref D) ce) s4 from codeAny_compStart_list loop (T.self X.A 0 _ _ _ st4 loop)
  refine compLoop_any (fun n s' => ∃ i H', Inv (blkP X s3 H3 sc ce fp (X.pn ++ pins)) [] (L2.wipe σ (own.map (·.2))) H' s' ∧ tn i s'.heap ∧ (∀ b ∈ fp, H' b = none) ∧ Wm i n H') ?_ m0 ⟨0, H3, I4, st4, nfp, w0⟩
  rintro n s5 ⟨i, H5, I5, st5, n5, w5⟩
  rcases turn i n H5 w5 with ⟨stop, qq⟩ | ⟨go, Nx, hNx, step⟩
  · have td := T.done (blkP X s3 H3 sc ce fp (X.pn ++ pins)) rfl rfl rfl hotB i [] s5 _ H5 (fun _ _ => False) I5 (stat I5 n5) st5 stop
    refine thnF td fun r s6 ⟨hr, I6⟩ => ?_; subst hr
    have I7 : Inv X pins σ H5 s6 := I3.call' (ch := fp) I6.os I6.base I6.hok I6.bare fun b hb => let z := (f3 b hb).1; ⟨z.2.2.2.1, z.2.1, z.2.2.2.2.1, z.2.2.2.2.2⟩
    have nC : H5 ce.locals = none := I6.free
    obtain ⟨m, hn, _⟩ := I6.loc
    exact hR D ce s6 m H5 I7 qq hn (I3.fpOk (Nat.le_of_eq cL.symm) nC)
  · have ti := T.item (blkP X s3 H3 sc ce fp (X.pn ++ pins)) rfl rfl rfl hotB i [] s5 _ H5 (fun _ _ => False) I5 (stat I5 n5) st5 go
    refine thnF ti fun r s6 ⟨u, hr, h6⟩ => ?_; subst hr
    refine thnF h6 fun _ s7 ⟨x, H7, I7, r7, y7, st7, n7⟩ => ?_
    have J7 := I7.pinned (stat I7 n7) (T.obj _ _ st7)
    refine thnF (PGt.run _ s7 _ H7 x u _ J7 r7 (step x H7 y7)) fun _ s8 ⟨σ8, H8, I8, hw8, q8⟩ => ?_
    refine thnF (PTt.run _ s8 σ8 H8 _ I8 q8) fun b s9 ⟨H9, I9, q9⟩ => ?_
    have fin : ∀ {s' : Shared} {H' : Hp}, Inv (blkP X s3 H3 sc ce fp (X.pn ++ pins)) ([] ++ pinsAt fp s7.heap) σ8 H' s' → Nx H' → ∃ m, m < n ∧ ∃ i H', Inv (blkP X s3 H3 sc ce fp (X.pn ++ pins)) [] (L2.wipe σ (own.map (·.2))) H' s' ∧ tn i s'.heap ∧ (∀ b ∈ fp, H' b = none) ∧ Wm i m H' := fun {s' H'} K nx => by
      obtain ⟨m', hm, w'⟩ := hNx H' nx
      have pin : ∀ b ∈ fp, ∀ o, s7.heap.get? b = some o → s'.heap.get? b = some o ∧ H' b = none := fun b hb o e => (K.pin (b, o) (List.mem_append_right _ (List.mem_append_right _ (mem_pinsAt hb e)))).elim fun z1 z2 => ⟨z1, z2.1⟩
      refine ⟨m', hm, i + 1, H', (K.unpinned (pins := [])).weak (by rw [← hw8, wipe_length]) (fun j v e => (wipe_some (vs := own.map (·.2)) (by rw [hw8]; exact e)).1), T.keep _ _ _ st7 fun b hb o e => (pin b hb o e).1, fun b hb => (T.obj _ _ st7 b hb).elim fun o e => (pin b hb o e.1).2, w'⟩
    cases b with
    | false => simp only [Bool.false_eq_true, if_false] at q9 ⊢; exact fin I9 q9
    | true =>
      simp only [if_true] at q9 ⊢; refine thnF (PEl.run _ s9 σ8 H9 _ I9 q9) fun z s10 ⟨yv, H10, I10, r10, acc, hD10, hz10, nx⟩ => ?_
      exact app_ok (X := blkP X s3 H3 sc ce fp (X.pn ++ pins)) I10 hD10 hz10 r10 fun s11 I11 => fin I11 nx
end
/-! a def that is handed the exception that is handled -/
structure FnE (P : Program) (w : World) (K : PySem.W.Frag) (mg : Str → Option Value) (base : Heap) (CX : CXT) (k : Nat) (f : Addr) (fd : FuncData) (x : Str) (sp : Addr → Hp → VK → Prop) : Prop where
  run : ∀ (A : Around) (outer : List Env) (s : Shared) (H : Hp) (args : Args) (Q : VK) (E : XK) (p : Addr × Obj) (D : Addr), RoomH k A → Hot1 A p → Zc (.ref D) none p.2 → PinOk outer H s p → Env0 P w K mg base A outer s H → BindsTo s fd args [(x, .ref p.1)] → sp D H Q →
    codeAny (model P w) A (.call (.ref f) args) (CR CX outer P w H s Q E) s
theorem fnE_of {CX : CXT} {P : Program} {w : World} {K : PySem.W.Frag} {mg : Str → Option Value} {base : Heap} {k : Nat} {f : Addr} {name qual x : Str} {pr : Arguments} {bd : List Stmt} {sc : Scope} {dV kV dc pm cdv ct oc : Value} {an od : Option Addr}
    {osl : Array (Option Value)} {N : List Str} {sp : Addr → Hp → VK → Prop} (lk : K.lookup f = some ⟨oc, od, .func (PySem.W.fnOf name qual pr bd sc dV kV dc pm an cdv ct), osl⟩) (hcd : PySem.W.codeIn K cdv qual = true) (S : FnScope N [x] sc)
    (hb : ∀ (A : Around) (outer : List Env) (s : Shared) (H : Hp) (Q : VK) (E : XK) (p : Addr × Obj) (D : Addr), Hot1 A p → Zc (.ref D) none p.2 → RoomH k (A.deeper (envOfC qual sc s.heap.objs.size f cdv)) → sp D H Q →
      ∃ t, PSs (cxH CX P w K mg base N qual sc f cdv A outer s H E p) bd t ∧ t { nx := fun _ H' => Q .non H', rt := Q } (L2.start N [.ref p.1]) H) :
    FnE P w K mg base CX (k + 1) f (PySem.W.fnOf name qual pr bd sc dV kV dc pm an cdv ct) x sp := by
  refine ⟨fun A outer s H args Q E p D hr hot hz hpin e0 hbd hsp => ?_⟩
  have KX : K.In s.heap := e0.mod.kin.keeps fun b o e => (e0.bs b o e).1
  have nl : s.heap.NoLimit := e0.mod.nolimit.keeps fun b o e => (e0.bs b o e).1
  have rv : Vals [V.ref p.1] [Value.ref p.1] := .cons rfl .nil
  have hk : ∀ y ∈ [x].zip [Value.ref p.1], sc.names.lookup y.1 = some .local ∨ (sc.names.lookup y.1 = some .cell ∧ ((cellsFrom (s.heap.objs.size + 1) sc.names []).lookup y.1).isSome = true) := fun ⟨n, v⟩ hy => (S.par n (List.of_mem_zip hy).1).elim .inl fun q => .inr ⟨q, PySem.W.cellsFrom_some _ _ _ (.inl q)⟩
  refine codeAny_call_function hr.depth (KX _ _ lk) rfl S.co S.gen rfl (PySem.W.codeRec_of KX hcd) (hbd _ _ _ _ ?_)
  refine wpAny_newFunctionEnv_cells S.kind hk fun env he s1 xc => ?_
  subst he; refine ⟨nl.keeps xc.toInCall.keep, codeAny_func ?_⟩
  obtain ⟨t, hT, hq⟩ := hb A outer s H Q E p D hot hz (hr.deeper _) hsp
  have I : Inv (cxH CX P w K mg base N qual sc f cdv A outer s H E p) [] (L2.start N [.ref p.1]) H s1 := inv_startH S hpin e0 rfl rv xc
  refine wpAny_mono (hT.run [] s1 (L2.start N [.ref p.1]) H _ I hq) (fun fl s' hs => ?_) fun e s' hs => hs
  have fin : ∀ {σ' : L2.St} {H' : Hp} {v : V} {u : Value}, Inv (cxH CX P w K mg base N qual sc f cdv A outer s H E p) [] σ' H' s' → L2.RelV v u → Q v H' → CE outer P w H s Q u s' :=
    fun {σ' H' v u} J rr q => ⟨v, H', J.os, J.bare, J.base, J.hok, rr, q⟩
  cases fl with
  | ret u => obtain ⟨v, σ', H', J, rr, q⟩ := hs; exact fin J rr q
  | next => obtain ⟨σ', H', J, q⟩ := hs; exact fin (v := V.non) (u := Value.none) J rfl q
  | brk => obtain ⟨_, _, _, q⟩ := hs; exact False.elim q
  | cont => obtain ⟨_, _, _, q⟩ := hs; exact False.elim q
section
variable {X : Cx} {k : Nat} {f : Addr} {fd : FuncData}
/-- isinstance(e, c), e the handled exception, in any context that bears it -/
theorem call_isP {z : Addr × Obj} {D : Addr} (hp : z ∈ X.pn) (C : ExcC X.K D) (hz : Zc (.ref D) none z.2) (hf : ∃ vs, z.2.data = .fields vs) : CallR X (.builtin "isinstance") (rIsE X.K D z.1) := by
  intro pins s σ H xs us Q I r h
  obtain ⟨c, cv, b, rfl, hcv, e, q⟩ := h
  cases r with | cons rx rr => cases rr with | cons rt rr =>
  cases rr; cases rx
  have ec := hcv _ rt; subst ec
  obtain ⟨hget, _⟩ := I.pin z (List.mem_append.mpr (.inl hp))
  obtain ⟨vs, hv⟩ := hf
  have J : PySem.W.InstAt s.heap z.1 z.2 D none := by
    obtain ⟨za, oc, od, oda, osl⟩ := z
    obtain ⟨h1, h2⟩ := hz; dsimp only at h1 h2 hv hget ⊢
    subst h1 h2 hv; exact ⟨hget, rfl, rfl, trivial⟩
  exact PySem.W.kia_one (PySem.W.handS_kitx_exc C.hg C.hk C.hs C.hd C.ha C.hn C.ht C.hm) I.kIn J e (fun y => nomatch y) fun tk => ⟨.bl b, H, I.kept (t' := tk) fun _ _ y => y, rfl, q⟩
/-- g(e) in the suite, e the exception that the suite holds in its slot i -/
theorem pe_callE {a D : Addr} {oe : Obj} {pn : List (Addr × Obj)} {i : Nat} {en x px : Str} {q ep pos : Pos} {sp : Addr → Hp → VK → Prop} (F : FnE X.prog X.w X.K X.mg X.base (L2N.CX X.prog X.w) k f fd px sp) (hr : RoomH k (X.suite a ((a, oe) :: pn)).A) (hot : Hot1 (X.suite a ((a, oe) :: pn)).A (a, oe))
    (hz : Zc (.ref D) none oe) (hg : Gl X x) (hm : X.mg x = some (.ref f)) (hk : PySem.W.keepIn X.K (.ref f) = true) (hb : Binds X.K fd [px] []) (hN : X.N[i]? = some en) (hv : Vis X.env.scope en)
    (hdb : (x == ("__debug__" : Str)) = false := by decide) (hde : (en == ("__debug__" : Str)) = false := by decide) (hdc : (en == ("__classdict__" : Str)) = false := by decide)
    (hs : starEach [.Name en ep] X.env = (false, eval (.Name en ep) X.env) :: starEach [] X.env := by rfl) (hpl : (backTo pos (starEach [.Name en ep] X.env)).any (·.1) = false := by rfl) :
    PE (X.suite a ((a, oe) :: pn)) (.Call (.Name x q) [.Name en ep] [] pos) (fun σ H Q => σ[i]? = some (some (.ref a)) ∧ sp D H Q) := by
  refine ⟨fun pins s σ H Q I ⟨hσ, h⟩ => ?_⟩
  have ha : PA (X.suite a ((a, oe) :: pn)) [.Name en ep] (tCons (tVar i) tNil) := pa_cons (pe_var hN hv hde hdc) pa_nil hs
  refine wpAny_Call_Name_kw (ld_glob I hg hm ?_ hdb)
  refine PySem.W.callWith_K (h₀ := X.base) I.ok.mod.kin hk (thn (ha.run pos pins s σ H (fun vs H1 => vs = [V.ref a] ∧ H1 = H) I ?_) fun us s1 ⟨vs, H1, I1, r, ev, eH⟩ => ⟨I1.kIn, ?_⟩) hs hpl
  · exact ⟨_, hσ, rfl, rfl⟩
  · subst ev; rw [eH] at I1
    cases r with | cons ra rr =>
    cases rr; cases ra
    have b := hb s1 [.ref a] I1.kIn rfl
    have P1 := I1.pin (a, oe) (List.mem_append_left _ List.mem_cons_self)
    have hpin : PinOk X.stack H s1 (a, oe) := ⟨P1.1, P1.2.1, fun hm => (List.mem_cons.mp (I1.stkSub a hm)).elim P1.2.2.1 P1.2.2.2.1, P1.2.2.2.2⟩
    refine wpAny_call (codeAny_mono (F.run _ X.stack s1 H ⟨[.ref a], []⟩ Q (fun _ _ _ => False) (a, oe) D hr hot hz hpin I1.env0 b h) fun r s' hq => ?_)
    cases r with
    | error e => obtain ⟨_, _, _, _, _, _, _, _, _, _, _, _, z⟩ := hq; exact z.elim
    | ok fl => cases fl with
      | ret u => exact I1.after hq
      | next => exact False.elim hq
      | brk => exact False.elim hq
      | cont => exact False.elim hq
end
theorem hot_of {X : Cx} {a : Addr} {oe : Obj} {pn : List (Addr × Obj)} {cls : Value} {d : Option Addr} (hz : L2N.Zn cls d oe) (hf : ∃ vs, oe.data = .fields vs) : Hot1 (X.suite a ((a, oe) :: pn)).A (a, oe) := by
  obtain ⟨vs, hv⟩ := hf
  exact ⟨rfl, vs, hv, hz.2.2 vs hv⟩
end Lf

namespace Lf
open PySem PySem.Spec PyProof.Rows L2 HandSPX L2H

/-! a def that is handed the exception that is handled, by its function on classes -/
def SpEx (G : Glob) (F : Nat → Rf) : Addr → Hp → VK → Prop := fun D H Q => ∃ c Hs, G.cls c = some D ∧ Same Hs H ∧ Tbs G.tabs Hs H ∧ PoF G 0 [] H Hs [] Q (fun _ _ _ => False) (F c)
structure CalE (G : Glob) (P : Program) (w : World) (mg : Str → Option Value) (base : Heap) (x : Str) (k : Nat) (F : Nat → Rf) : Prop where
  ex : ∃ fA fd px, FnE P w G.K mg base (L2N.CX P w) k fA fd px (SpEx G F) ∧ mg x = some (.ref fA) ∧ PySem.W.keepIn G.K (.ref fA) = true ∧ Binds G.K fd [px] []
/-- the exception that a def is handed: its class, where it lies -/
structure HotE (X : Cx) (G : Glob) (a : Act) (c : Nat) (p : Addr × Obj) (D : Addr) : Prop where
  cl : G.cls c = some D
  hot : Hot1 X.A p
  mem : p ∈ X.pn
  zc : Zc (.ref D) none p.2
  pv : a.pv = [.ref p.1]
theorem HotE.hotC {X : Cx} {G : Glob} {a : Act} {c : Nat} {p : Addr × Obj} {D : Addr} (h : HotE X G a c p D) : HotC X := ⟨p, h.hot, h.mem⟩
theorem slo_none {G : Glob} {H Hs : Hp} : ∀ (σ : L2.St), SlO G H Hs (List.replicate σ.length none) σ []
  | [] => ⟨rfl, rfl⟩
  | s :: r => ⟨s, r, [], [], rfl, rfl, rfl, slo_none r⟩
theorem toRf_zero {G : Glob} {a : Act} {Hs H : Hp} {Q : VK} {x : Ro} {D : Ends} (hD : ∀ σ H, D.nx σ H = Q .non H) (hr : D.rt = Q) (ha : a.H0 = H) (hs : a.Hs0 = Hs) (hi : a.io = []) (po : PoF G 0 [] H Hs [] Q (fun _ _ _ => False) (toRf 0 x)) : PoS G a WF [] Hs D x := by
  cases x with
  | bad => exact po
  | brk ρ' => exact False.elim po
  | ctn ρ' => exact False.elim po
  | nxt ρ' =>
    intro σ' Hs' H' S' t1
    obtain ⟨g1, g2, h1, h2, nd', hf⟩ := S'.own
    rw [hD]
    subst ha hs
    refine po .non Hs' H' [] [] t1 S'.sub (by have z := S'.base; rw [hi] at z; exact z) S'.tabs (fun b u e e0 => by have := S'.frsh b u e e0; rw [hi] at this; exact this) (by rw [List.take_zero, OwnL]; exact ⟨rfl, rfl⟩) (by rw [Own, Rp]; exact ⟨rfl, rfl⟩) (by simp) (by simp)
  | ret o ρ' =>
    intro v σ' Hs' H' S' t1
    obtain ⟨g1, g2, h1, h2, nd', hf⟩ := S'.own
    obtain ⟨v1, v2, rfl, ov, tv⟩ := h2
    rw [hr]
    subst ha hs
    refine po v Hs' H' [] v1 t1 S'.sub (by have z := S'.base; rw [hi] at z; exact z) S'.tabs (fun b u e e0 => by have := S'.frsh b u e e0; rw [hi] at this; exact this) (by rw [List.take_zero, OwnL]; exact ⟨rfl, rfl⟩) ov (by grind) (fun b hb => ?_)
    have z := hf b (by grind)
    rw [hi] at z
    exact z
  | exc ex ρ' =>
    intro c d σ' Hs' H' S' r'
    obtain ⟨g1, g2, h1, h2, nd', hf⟩ := S'.own
    subst ha hs
    refine po c d Hs' H' [] S'.stab S'.sub (by have z := S'.base; rw [hi] at z; exact z) S'.tabs (fun b u e e0 => by have := S'.frsh b u e e0; rw [hi] at this; exact this) (by rw [List.take_zero, OwnL]; exact ⟨rfl, rfl⟩) (by simp) (by simp) r'
theorem fnE_def {P : Program} {w : World} {mg : Str → Option Value} {base : Heap} {G : Glob} {x qual px : Str} {st : Stmt} {fA : Addr} {fd : FuncData} {N : List Str} {k : Nat} {cs : List Nat} {f : Nat → En → Ro}
    (F : Fun G.K x qual st fA fd) (S : FnScope N [px] (defScope st))
    (hb : ∀ (c : Nat) (cdv : Value) (A : Around) (outer : List Env) (s : Shared) (H : Hp) (E : XK) (p : Addr × Obj) (D : Addr) (a : Act), c ∈ cs → RoomH k (A.deeper (envOfC qual (defScope st) s.heap.objs.size fA cdv)) → HotE (cxH (L2N.CX P w) P w G.K mg base N qual (defScope st) fA cdv A outer s H E p) G a c p D →
      JB (cxH (L2N.CX P w) P w G.K mg base N qual (defScope st) fA cdv A outer s H E p) G a WF (defBody st) (f c)) :
    FnE P w G.K mg base (L2N.CX P w) (k + 1) fA fd px (SpEx G fun c => if c ∈ cs then toRf 0 (f c (List.replicate N.length none)) else .bad) := by
  obtain ⟨oc, od, kV, dc, pm, an, cv, ct, osl, rfl, lk, hcd⟩ := F.ex
  refine fnE_of lk hcd S fun A outer s H Q E p D hot hz hr ⟨c, Hs, hc, sub, tb, po⟩ => ?_
  by_cases hm : c ∈ cs
  · replace po : PoF G 0 [] H Hs [] Q (fun _ _ _ => False) (if c ∈ cs then toRf 0 (f c (List.replicate N.length none)) else .bad) := po
    rw [if_pos hm] at po
    have hN : 1 ≤ N.length := by
      have e := congrArg List.length S.pre
      rw [List.length_take] at e
      simp at e
      omega
    have le : (L2.start N [.ref p.1]).length = N.length := by
      show ([V.ref p.1].map some ++ List.replicate (N.length - 1) none).length = _
      simp
      omega
    refine ⟨_, hb c cv A outer s H E p D ⟨H, Hs, [], [.ref p.1]⟩ hm hr ⟨hc, hot, List.mem_singleton.mpr rfl, hz, rfl⟩, List.replicate N.length none, [], Hs, ?_, toRf_zero (fun _ _ => rfl) rfl rfl rfl rfl po⟩
    refine ⟨sub, .of fun b o e _ => e, tb, Same.refl _, fun b u e e0 => ?_, ?_, [], [], ?_, rfl, by simp, fun b hb => by simp at hb⟩
    · have e0' : Hs b = none := e0
      rw [e0'] at e; cases e
    · show ([V.ref p.1].map some ++ List.replicate (N.length - 1) none).take 1 = [V.ref p.1].map some
      rfl
    · have := slo_none (G := G) (H := H) (Hs := Hs) (L2.start N [.ref p.1])
      rw [le] at this
      exact this
  · replace po : PoF G 0 [] H Hs [] Q (fun _ _ _ => False) (if c ∈ cs then toRf 0 (f c (List.replicate N.length none)) else .bad) := po
    rw [if_neg hm] at po
    exact False.elim po
/-! isinstance of it -/
structure IsEF (G : Glob) (mg : Str → Option Value) (x : Str) (cs kids : List Nat) : Prop where
  ex : ∃ C, mg x = some (.ref C) ∧ ∀ c ∈ cs, ∃ D, G.cls c = some D ∧ PySem.W.kitOne G.K (.ref D) (.ref C) = some (decide (c ∈ kids))
structure IsET (G : Glob) (n : String) (cs : List Nat) : Prop where
  ex : ∀ c ∈ cs, ∃ D, G.cls c = some D ∧ PySem.W.kitOne G.K (.ref D) (.type n) = some true
structure ExF (G : Glob) (cs : List Nat) : Prop where
  ex : ∀ c ∈ cs, ∃ D, G.cls c = some D ∧ ExcC G.K D
section
variable {X : Cx} {G : Glob} {a : Act} {W : WX} {x en : Str} {c : Nat} {p0 : Addr × Obj} {D : Addr} {p p1 p2 pos : Pos} {cs kids : List Nat}
theorem je_isE (h : HotE X G a c p0 D) (F : IsEF G X.mg x cs kids) (EF : ExF G cs) (hc : c ∈ cs) (g : X.K = G.K) (hg : Gl X "isinstance") (hm : X.mg "isinstance" = none) (hgx : Gl X x) (hN : X.N[0]? = some en) (hv : Vis X.env.scope en) (hdx : (x == ("__debug__" : Str)) = false := by decide)
    (hde : (en == ("__debug__" : Str)) = false := by decide) (hdc : (en == ("__classdict__" : Str)) = false := by decide)
    (he : starEach [.Name en p1, .Name x p2] X.env = (false, eval (.Name en p1) X.env) :: starEach [.Name x p2] X.env := by rfl) (he2 : starEach [.Name x p2] X.env = (false, eval (.Name x p2) X.env) :: starEach [] X.env := by rfl) (hpl : (backTo pos (starEach [.Name x p2] X.env)).any (·.1) = false := by rfl) :
    JE X G a W (.Call (.Name "isinstance" p) [.Name en p1, .Name x p2] [] pos) (fC (.bl (decide (c ∈ kids)))) := by
  obtain ⟨C, hC, hk⟩ := F.ex
  obtain ⟨D', hD', hk⟩ := hk c hc
  obtain ⟨D2, hD2, ec⟩ := EF.ex c hc
  have e1 := h.cl.symm.trans hD'
  cases e1
  have e2 := h.cl.symm.trans hD2
  cases e2
  rw [← g] at hk ec
  refine (pe_callB (call_isP h.mem ec h.zc (h.hot.2.imp fun _ q => q.1)) hg hm (by rfl) (pa_cons (pe_var hN hv hde hdc) (pa_cons (pe_glob (v := .ref C) hgx hC rfl hdx) pa_nil he2) he) (by decide) (by decide) he hpl).imp fun σ H Q ⟨ρ, ts, Hs, S, k⟩ => ?_
  have hp := S.pin
  rw [h.pv] at hp
  have hs0 : σ[0]? = some (some (.ref p0.1)) := by
    cases σ with
    | nil => cases hp
    | cons s r =>
      simp at hp
      rw [hp]; rfl
  exact ⟨_, hs0, .ref C, _, _, rfl, fun u r => r, hk, k _ Hs H S (Same.refl _) (Kp.refl _) (by rw [Rp])⟩
theorem je_isT {n : String} (h : HotE X G a c p0 D) (F : IsET G n cs) (EF : ExF G cs) (hc : c ∈ cs) (g : X.K = G.K) (hg : Gl X "isinstance") (hm : X.mg "isinstance" = none) (hgx : Gl X x) (hmx : X.mg x = none) (hbx : bootBuiltins x = some (.type n)) (hN : X.N[0]? = some en) (hv : Vis X.env.scope en) (hnx : x ≠ "__name__" := by decide) (hdx : (x == ("__debug__" : Str)) = false := by decide)
    (hde : (en == ("__debug__" : Str)) = false := by decide) (hdc : (en == ("__classdict__" : Str)) = false := by decide)
    (he : starEach [.Name en p1, .Name x p2] X.env = (false, eval (.Name en p1) X.env) :: starEach [.Name x p2] X.env := by rfl) (he2 : starEach [.Name x p2] X.env = (false, eval (.Name x p2) X.env) :: starEach [] X.env := by rfl) (hpl : (backTo pos (starEach [.Name x p2] X.env)).any (·.1) = false := by rfl) :
    JE X G a W (.Call (.Name "isinstance" p) [.Name en p1, .Name x p2] [] pos) (fC (.bl true)) := by
  obtain ⟨D', hD', hk⟩ := F.ex c hc
  obtain ⟨D2, hD2, ec⟩ := EF.ex c hc
  have e1 := h.cl.symm.trans hD'
  cases e1
  have e2 := h.cl.symm.trans hD2
  cases e2
  rw [← g] at hk ec
  refine (pe_callB (call_isP h.mem ec h.zc (h.hot.2.imp fun _ q => q.1)) hg hm (by rfl) (pa_cons (pe_var hN hv hde hdc) (pa_cons (pe_bltn (v := .ty n) hgx hmx hbx rfl hnx hdx) pa_nil he2) he) (by decide) (by decide) he hpl).imp fun σ H Q ⟨ρ, ts, Hs, S, k⟩ => ?_
  have hp := S.pin
  rw [h.pv] at hp
  have hs0 : σ[0]? = some (some (.ref p0.1)) := by
    cases σ with
    | nil => cases hp
    | cons s r =>
      simp at hp
      rw [hp]; rfl
  exact ⟨_, hs0, .ty n, _, _, rfl, fun u r => r, hk, k _ Hs H S (Same.refl _) (Kp.refl _) (by rw [Rp])⟩
end
/-! a comprehension there -/
abbrev JIH (X : Cx) (G : Glob) (a : Act) (W : WX) (tg e : Expr) (f : En → Rs (List D)) : Prop := PIH X tg e (tG (ItR G) G a W f)
section
variable {X : Cx} {G : Glob} {a : Act} {W : WX} {tg e iter elt : Expr} {ifs : List Expr} {fa : En → Rs (List D)} {pos p : Pos} {scope : Scope} {own : List (Str × Nat)} {fi : En → Rs (List D)} {gt : D → En → Option En} {ft : En → Rs Bool} {fe : En → Rs D}
theorem _root_.L2H.PIH.imp {t t' : TI} (h : PIH X tg iter t) (k : ∀ σ H R, t' σ H R → t σ H R) : PIH X tg iter t' := ⟨fun pins s σ H R I q => h.run pins s σ H R I (k σ H R q)⟩
theorem jih_range1 (hg : Gl X "range") (hm : X.mg "range" = none) (ha : JA X G a W [e] fa) (hs : starEach [e] X.env = [(false, eval e X.env)] := by rfl) : JIH X G a W tg (.Call (.Name "range" p) [e] [] pos) (fWalk gRng1 fa) := by
  refine (pi_range1H hg hm ha hs).imp fun σ H Q ⟨ρ, ts, Hs, S, k⟩ => ⟨ρ, ts, Hs, S, (Po.bind (R := RpL G) k).mono ?_⟩
  rintro vs H1 ⟨ds, ρ1, Hs1, S1, s1, s2, r1, k1⟩
  cases hq : gRng1 ds with
  | none => rw [hq] at k1; exact False.elim k1
  | some items =>
    rw [hq] at k1
    unfold gRng1 at hq
    split at hq
    · rename_i j
      split at hq
      · rename_i hl
        cases hq
        obtain ⟨v, rfl, q⟩ := rpl_one r1
        rw [Rp] at q
        subst q
        exact ⟨j, rfl, hl.1, hl.2, k1 _ Hs1 H1 S1 (Same.refl _) (Kp.refl _) (itr_rng 0 j.toNat)⟩
      · cases hq
    · cases hq
theorem jo_lcP (hp : ∀ v ∈ own.map (·.2), a.pv.length ≤ v) (hot : HotC X) (hN : X.N.Nodup) (hst : X.stack = X.env :: X.outer) (hf : X.env.frame = some X.env.locals) (hi : JIH X G a W tg iter fi) (ok : BlkOk X.N X.env.scope scope own)
    (hg : ∀ (s : Shared) (H : Hp) (C : Addr) (cl : List (Str × Addr)) (fp : List Addr) (pn : List (Addr × Obj)), JG (blkP X s H scope (compEnvC scope cl C X.env) fp pn) G a (own.map (·.2)) tg gt)
    (ht : ∀ (s : Shared) (H : Hp) (C : Addr) (cl : List (Str × Addr)) (fp : List Addr) (pn : List (Addr × Obj)), JTs (blkP X s H scope (compEnvC scope cl C X.env) fp pn) G a WF ifs ft)
    (he : ∀ (s : Shared) (H : Hp) (C : Addr) (cl : List (Str × Addr)) (fp : List Addr) (pn : List (Addr × Obj)), JE (blkP X s H scope (compEnvC scope cl C X.env) fp pn) G a WF elt fe)
    (hs : ∀ x, foldedSetIterable iter X.env x = pure x := by intro _; rfl) : JO X G a W (.ListComp elt [⟨tg, iter, ifs, 0⟩] scope pos) (fLc fi gt ft fe (own.map (·.2))) := by
  refine ⟨fun pins s σ H Q I h => ?_⟩
  rw [eval_ListComp]
  exact lc_coreP hot hN hst hf I hi ok (fun s H C cl fp => hg s H C cl fp _) (fun s H C cl fp => ht s H C cl fp _) (fun s H C cl fp => he s H C cl fp _) hs (lc_imp hp σ H Q h) fun D ce s' m H' I' q hn f => ⟨m, hn, fun h2 sb => ⟨.ref D, H', I'.turned (t' := s'.toks) (fun b o hb e => (sb.2 b hb).trans e) f.1 f.2.1 f.2.2.2.1 f.2.2.2.2.1 f.2.2.2.2.2, rfl, q⟩⟩
end
/-! try .. except C as e: v = g(e) -/
def kTryH (i j : Nat) (ρ1 : En) : Rf → Ro
  | .ok o _ => .nxt ((ρ1.set j (some (.stb (fr o)))).set i none)
  | _ => .bad
def kTryHO (i j : Nat) (ρ1 : En) : Rf → Ro
  | .ok o _ => .nxt ((ρ1.set j (some o)).set i none)
  | _ => .bad
def fTryHO (yes no : List Nat) (i j : Nat) (F : Nat → Rf) (fb : En → Ro) : En → Ro := fun ρ => match fb ρ with
  | .exc e ρ1 => if e.c ∈ yes then (if e.fs = [] then kTryHO i j ρ1 (F e.c) else .bad) else if e.c ∈ no then .exc e ρ1 else .bad
  | r => r
def fTryH (yes no : List Nat) (i j : Nat) (F : Nat → Rf) (fb : En → Ro) : En → Ro := fun ρ => match fb ρ with
  | .exc e ρ1 => if e.c ∈ yes then (if e.fs = [] then kTryH i j ρ1 (F e.c) else .bad) else if e.c ∈ no then .exc e ρ1 else .bad
  | r => r
section
variable {X : Cx} {G : Glob} {a : Act} {W : WX}
/-- a slot told no more, whatever it holds -/
theorem Sta.unset {ρ : En} {ts : Tm} {σ : L2.St} {Hs H : Hp} (S : Sta G a ρ ts σ Hs H) {i : Nat} {v : Option V} (hp : a.pv.length ≤ i) : Sta G a (ρ.set i none) ts (σ.set i v) Hs H := by
  obtain ⟨f1, f2, h1, h2, nd, hf⟩ := S.own
  by_cases hi : i < ρ.length
  · obtain ⟨x, y, p, fo, q, e1, e2, e3, h3, h4⟩ := slo_at i h1 hi
    subst e3
    refine ⟨S.sub, S.base, S.tabs, S.stab, S.frsh, by rw [take_set hp]; exact S.pin, p ++ ([] ++ q), f2, h4 H Hs none v [] (Same.refl _) (fun _ _ => rfl) rfl, h2, ?_, fun b hb => hf b ?_⟩
    · grind
    · grind
  · have e1 : ρ.set i none = ρ := List.set_eq_of_length_le (by omega)
    have e2 : σ.set i v = σ := List.set_eq_of_length_le (by rw [← slo_length h1]; omega)
    rw [e1, e2]
    exact S
theorem js_tryH {x g en y : Str} {yes no : List Nat} {body : List Stmt} {k jj : Nat} {F : Nat → Rf} {fb : En → Ro} {np q ep p3 apos pos pos' pos2 : Pos} (i j : Nat)
    (Ct : CtF G X.mg x yes no) (hK : X.K = G.K) (hs : X.stack = X.env :: X.outer) (hf : X.env.frame = some X.env.locals) (hN : X.N.Nodup) (hgx : Gl X x) (tk : L2N.Takes X W)
    (C : CalE G X.prog X.w X.mg X.base g k F) (hr : Room jj X.A) (hk : k ≤ jj) (hgg : Gl X g) (hpi : a.pv.length ≤ i) (hpj : a.pv.length ≤ j)
    (hb : ∀ (W : WX) (pn : List (Addr × Obj)) (xe : Value → Shared → Prop) (h : Hp), L2N.Takes (X.tr pn xe) W → PassesOwn (model X.prog X.w) X.A X.env xe → JB (X.tr pn xe) G { a with Hs0 := h } W body fb)
    (hi : X.N[i]? = some en := by rfl) (hj : X.N[j]? = some y := by rfl) (hil : X.env.kindOf en = some .local := by rfl) (hve : Vis X.env.scope en := by exact Or.inl rfl) (hyl : X.env.scope.names.lookup y = some .local := by rfl)
    (hdb : (x == ("__debug__" : Str)) = false := by decide) (hdg : (g == ("__debug__" : Str)) = false := by decide) (hde : (en == ("__debug__" : Str)) = false := by decide) (hdc : (en == ("__classdict__" : Str)) = false := by decide)
    (hst : starEach [.Name en ep] X.env = (false, eval (.Name en ep) X.env) :: starEach [] X.env := by rfl) (hpl : (backTo pos2 (starEach [.Name en ep] X.env)).any (·.1) = false := by rfl)
    (hsw : swapsWith (.Call (.Name g q) [.Name en ep] [] pos2) (some (.Name y p3)) apos.line X.env = pure false := by rfl) :
    JS X G a W (.Try body [.ExceptHandler (some (.Name x np)) (some en) [.Assign [.Name y p3] (.Call (.Name g q) [.Name en ep] [] pos2) apos] pos'] [] [] pos) (fTryH yes no i j F fb) := by
  obtain ⟨Dc, hD, hy, hn⟩ := Ct.ex
  obtain ⟨fA, fd, px, FE, hm, kp, hbd⟩ := C.ex
  rw [← hK] at FE kp hbd
  refine (L2N.ps_try_as (i := i) (tb := fun W D σ H => ∃ h, tS G { a with Hs0 := h } W fb D σ H)
    (ts := fun b cls d D σ H => ∃ (Dd : Addr) (σ0 : L2.St), cls = .ref Dd ∧ d = none ∧ σ = σ0.set i (some (.ref b)) ∧ SpEx G F Dd H (fun v H' => D.nx (σ.set j (some v)) H'))
    hs hf hN hi hil ⟨hgx, hdb, .inl hD⟩ tk (fun W pn xe tkk ps => ⟨fun pins s σ H D I ⟨h, q⟩ => (hb W pn xe h tkk ps).run pins s σ H D I q⟩) (fun b oe cls d pn hz hfl => ⟨fun pins s σ H D I ⟨Dd, σ0, ec, ed, es, h2⟩ => ?_⟩)).imp fun D σ H ⟨ρ, ts, Hs, S, k⟩ => ?_
  · subst ec ed
    have h1 : σ[i]? = some (some (.ref b)) := by
      have l := I.len
      have l2 : i < X.N.length := (List.getElem?_eq_some_iff.mp hi).1
      rw [es, List.length_set] at l
      rw [es, List.getElem?_set_self (by rw [l]; exact l2)]
    have P1 := pe_callE (X := X) (a := b) (oe := oe) (pn := pn) (i := i) (en := en) (x := g) (q := q) (ep := ep) (pos := pos2) FE (RoomH.mono (⟨hr.dp, hr.un⟩ : RoomH jj (X.suite b ((b, oe) :: pn)).A) hk) (hot_of hz hfl) hz.zc hgg hm kp hbd hi hve hdg hde hdc hst hpl
    exact (pss_one (ps_set (X := X.suite b ((b, oe) :: pn)) (i := j) hN hj (.inl hyl) P1 hsw (.inr hyl))).run pins s σ H D I ⟨h1, h2⟩
  · refine ⟨Hs, ρ, ts, Hs, sta_at S, ?_⟩
    unfold fTryH at k
    cases hx : fb ρ with
    | bad => rw [hx] at k; exact k
    | nxt ρ1 => rw [hx] at k; exact fun σ1 Hs1 H1 S1 t1 => k σ1 Hs1 H1 (sta_back S S1) t1
    | brk ρ1 => rw [hx] at k; exact fun σ1 Hs1 H1 S1 t1 => k σ1 Hs1 H1 (sta_back S S1) t1
    | ctn ρ1 => rw [hx] at k; exact fun σ1 Hs1 H1 S1 t1 => k σ1 Hs1 H1 (sta_back S S1) t1
    | ret o ρ1 => rw [hx] at k; exact fun v σ1 Hs1 H1 S1 t1 => k v σ1 Hs1 H1 (sta_back S S1) t1
    | exc e ρ1 =>
      rw [hx] at k
      intro c d σ1 Hs1 H1 S1 r1
      have k' : PoS G a W ts Hs D (if e.c ∈ yes then (if e.fs = [] then kTryH i j ρ1 (F e.c) else .bad) else if e.c ∈ no then .exc e ρ1 else .bad) := k
      obtain ⟨C0, hC, rfl, hfs⟩ := id r1
      have same : Same Hs Hs1 := S1.stab
      have S2 := sta_back S S1
      by_cases h1 : e.c ∈ yes
      · rw [if_pos h1] at k'
        obtain ⟨C2, hC2, hb1⟩ := hy _ h1
        rw [hC] at hC2; cases hC2
        by_cases hfz : e.fs = []
        · rw [if_pos hfz] at k'
          have hd : d = none := by
            rcases hfs with ⟨_, z⟩ | ⟨e1, _⟩
            · exact z
            · exact absurd hfz e1
          subst hd
          rw [hK]
          refine ⟨true, hb1, (fun _ b hb => ⟨C0, σ1, rfl, rfl, rfl, e.c, Hs1, hC, S2.sub, S2.tabs, ?_⟩), (fun z => absurd z (by decide))⟩
          · cases hF : F e.c with
            | bad => rw [hF] at k'; exact k'
            | exc e2 os => rw [hF] at k'; exact False.elim k'
            | ok o os =>
              rw [hF] at k'
              intro v Hs' H' f1 f2 s1 s2 kp2 tb nw ow1 ow nd hfp
              have S3 := S2.calledO s1 s2 kp2 tb (fun b u e e0 => (nw b u e e0).elim id fun z => nomatch z) ow (by grind) (fun b hb => ⟨(hfp b (by grind)).1, ((hfp b (by grind)).2).elim id fun z => nomatch z⟩)
              obtain ⟨Hs2, t3, S4, r4⟩ := S3.fr
              have S5 := (S4.set (i := j) r4 hpj).unset (i := i) (v := none) hpi
              have es : (((σ1.set i (some (.ref b))).set j (some v)).set i none) = ((σ1.set j (some v)).set i none) := by
                by_cases hij : i = j
                · subst hij; simp
                · rw [List.set_comm _ _ hij, List.set_set]
              show D.nx (((σ1.set i (some (.ref b))).set j (some v)).set i none) H'
              rw [es]
              exact k' _ Hs2 H' S5 ((same.trans s1).trans t3)
        · rw [if_neg hfz] at k'; exact False.elim k'
      · rw [if_neg h1] at k'
        by_cases h2 : e.c ∈ no
        · rw [if_pos h2] at k'
          obtain ⟨C2, hC2, hb1⟩ := hn _ h2
          rw [hC] at hC2; cases hC2
          rw [hK]
          exact ⟨false, hb1, (fun z => absurd z (by decide)), (fun _ => k' _ _ _ _ _ S2 r1)⟩
        · rw [if_neg h2] at k'; exact False.elim k'
theorem js_tryHO {x g en y : Str} {yes no : List Nat} {body : List Stmt} {k jj : Nat} {F : Nat → Rf} {fb : En → Ro} {np q ep p3 apos pos pos' pos2 : Pos} (i j : Nat)
    (Ct : CtF G X.mg x yes no) (hK : X.K = G.K) (hs : X.stack = X.env :: X.outer) (hf : X.env.frame = some X.env.locals) (hN : X.N.Nodup) (hgx : Gl X x) (tk : L2N.Takes X W)
    (C : CalE G X.prog X.w X.mg X.base g k F) (hr : Room jj X.A) (hk : k ≤ jj) (hgg : Gl X g) (hpi : a.pv.length ≤ i) (hpj : a.pv.length ≤ j)
    (hb : ∀ (W : WX) (pn : List (Addr × Obj)) (xe : Value → Shared → Prop) (h : Hp), L2N.Takes (X.tr pn xe) W → PassesOwn (model X.prog X.w) X.A X.env xe → JB (X.tr pn xe) G { a with Hs0 := h } W body fb)
    (hi : X.N[i]? = some en := by rfl) (hj : X.N[j]? = some y := by rfl) (hil : X.env.kindOf en = some .local := by rfl) (hve : Vis X.env.scope en := by exact Or.inl rfl) (hyl : X.env.scope.names.lookup y = some .local := by rfl)
    (hdb : (x == ("__debug__" : Str)) = false := by decide) (hdg : (g == ("__debug__" : Str)) = false := by decide) (hde : (en == ("__debug__" : Str)) = false := by decide) (hdc : (en == ("__classdict__" : Str)) = false := by decide)
    (hst : starEach [.Name en ep] X.env = (false, eval (.Name en ep) X.env) :: starEach [] X.env := by rfl) (hpl : (backTo pos2 (starEach [.Name en ep] X.env)).any (·.1) = false := by rfl)
    (hsw : swapsWith (.Call (.Name g q) [.Name en ep] [] pos2) (some (.Name y p3)) apos.line X.env = pure false := by rfl) :
    JS X G a W (.Try body [.ExceptHandler (some (.Name x np)) (some en) [.Assign [.Name y p3] (.Call (.Name g q) [.Name en ep] [] pos2) apos] pos'] [] [] pos) (fTryHO yes no i j F fb) := by
  obtain ⟨Dc, hD, hy, hn⟩ := Ct.ex
  obtain ⟨fA, fd, px, FE, hm, kp, hbd⟩ := C.ex
  rw [← hK] at FE kp hbd
  refine (L2N.ps_try_as (i := i) (tb := fun W D σ H => ∃ h, tS G { a with Hs0 := h } W fb D σ H)
    (ts := fun b cls d D σ H => ∃ (Dd : Addr) (σ0 : L2.St), cls = .ref Dd ∧ d = none ∧ σ = σ0.set i (some (.ref b)) ∧ SpEx G F Dd H (fun v H' => D.nx (σ.set j (some v)) H'))
    hs hf hN hi hil ⟨hgx, hdb, .inl hD⟩ tk (fun W pn xe tkk ps => ⟨fun pins s σ H D I ⟨h, q⟩ => (hb W pn xe h tkk ps).run pins s σ H D I q⟩) (fun b oe cls d pn hz hfl => ⟨fun pins s σ H D I ⟨Dd, σ0, ec, ed, es, h2⟩ => ?_⟩)).imp fun D σ H ⟨ρ, ts, Hs, S, k⟩ => ?_
  · subst ec ed
    have h1 : σ[i]? = some (some (.ref b)) := by
      have l := I.len
      have l2 : i < X.N.length := (List.getElem?_eq_some_iff.mp hi).1
      rw [es, List.length_set] at l
      rw [es, List.getElem?_set_self (by rw [l]; exact l2)]
    have P1 := pe_callE (X := X) (a := b) (oe := oe) (pn := pn) (i := i) (en := en) (x := g) (q := q) (ep := ep) (pos := pos2) FE (RoomH.mono (⟨hr.dp, hr.un⟩ : RoomH jj (X.suite b ((b, oe) :: pn)).A) hk) (hot_of hz hfl) hz.zc hgg hm kp hbd hi hve hdg hde hdc hst hpl
    exact (pss_one (ps_set (X := X.suite b ((b, oe) :: pn)) (i := j) hN hj (.inl hyl) P1 hsw (.inr hyl))).run pins s σ H D I ⟨h1, h2⟩
  · refine ⟨Hs, ρ, ts, Hs, sta_at S, ?_⟩
    unfold fTryHO at k
    cases hx : fb ρ with
    | bad => rw [hx] at k; exact k
    | nxt ρ1 => rw [hx] at k; exact fun σ1 Hs1 H1 S1 t1 => k σ1 Hs1 H1 (sta_back S S1) t1
    | brk ρ1 => rw [hx] at k; exact fun σ1 Hs1 H1 S1 t1 => k σ1 Hs1 H1 (sta_back S S1) t1
    | ctn ρ1 => rw [hx] at k; exact fun σ1 Hs1 H1 S1 t1 => k σ1 Hs1 H1 (sta_back S S1) t1
    | ret o ρ1 => rw [hx] at k; exact fun v σ1 Hs1 H1 S1 t1 => k v σ1 Hs1 H1 (sta_back S S1) t1
    | exc e ρ1 =>
      rw [hx] at k
      intro c d σ1 Hs1 H1 S1 r1
      have k' : PoS G a W ts Hs D (if e.c ∈ yes then (if e.fs = [] then kTryHO i j ρ1 (F e.c) else .bad) else if e.c ∈ no then .exc e ρ1 else .bad) := k
      obtain ⟨C0, hC, rfl, hfs⟩ := id r1
      have same : Same Hs Hs1 := S1.stab
      have S2 := sta_back S S1
      by_cases h1 : e.c ∈ yes
      · rw [if_pos h1] at k'
        obtain ⟨C2, hC2, hb1⟩ := hy _ h1
        rw [hC] at hC2; cases hC2
        by_cases hfz : e.fs = []
        · rw [if_pos hfz] at k'
          have hd : d = none := by
            rcases hfs with ⟨_, z⟩ | ⟨e1, _⟩
            · exact z
            · exact absurd hfz e1
          subst hd
          rw [hK]
          refine ⟨true, hb1, (fun _ b hb => ⟨C0, σ1, rfl, rfl, rfl, e.c, Hs1, hC, S2.sub, S2.tabs, ?_⟩), (fun z => absurd z (by decide))⟩
          · cases hF : F e.c with
            | bad => rw [hF] at k'; exact k'
            | exc e2 os => rw [hF] at k'; exact False.elim k'
            | ok o os =>
              rw [hF] at k'
              intro v Hs' H' f1 f2 s1 s2 kp2 tb nw ow1 ow nd hfp
              have S3 := S2.calledO s1 s2 kp2 tb (fun b u e e0 => (nw b u e e0).elim id fun z => nomatch z) ow (by grind) (fun b hb => ⟨(hfp b (by grind)).1, ((hfp b (by grind)).2).elim id fun z => nomatch z⟩)
              have S5 := (S3.setO (i := j) hpj).unset (i := i) (v := none) hpi
              have es : (((σ1.set i (some (.ref b))).set j (some v)).set i none) = ((σ1.set j (some v)).set i none) := by
                by_cases hij : i = j
                · subst hij; simp
                · rw [List.set_comm _ _ hij, List.set_set]
              show D.nx (((σ1.set i (some (.ref b))).set j (some v)).set i none) H'
              rw [es]
              exact k' _ Hs' H' S5 (same.trans s1)
        · rw [if_neg hfz] at k'; exact False.elim k'
      · rw [if_neg h1] at k'
        by_cases h2 : e.c ∈ no
        · rw [if_pos h2] at k'
          obtain ⟨C2, hC2, hb1⟩ := hn _ h2
          rw [hC] at hC2; cases hC2
          rw [hK]
          exact ⟨false, hb1, (fun z => absurd z (by decide)), (fun _ => k' _ _ _ _ _ S2 r1)⟩
        · rw [if_neg h2] at k'; exact False.elim k'
end
end Lf
namespace Lf
open PySem PySem.Spec PyProof.Rows L2 HandSPX L2H
theorem cale_mk {P : Program} {w : World} {mg : Str → Option Value} {base : Heap} {G : Glob} {x px : Str} {st : Stmt} {N : List Str} {k : Nat} {cs : List Nat} {f : Nat → En → Ro} (d : DefOk G.K mg x st [px]) (S : FnScope N [px] (defScope st))
    (hb : ∀ (c : Nat) (fA : Addr) (cdv : Value) (A : Around) (outer : List PySem.Env) (s : Shared) (H : Hp) (E : XK) (p : Addr × Obj) (D : Addr) (a : Act), c ∈ cs → RoomH k (A.deeper (envOfC x (defScope st) s.heap.objs.size fA cdv)) → HotE (cxH (L2N.CX P w) P w G.K mg base N x (defScope st) fA cdv A outer s H E p) G a c p D →
      JB (cxH (L2N.CX P w) P w G.K mg base N x (defScope st) fA cdv A outer s H E p) G a WF (defBody st) (f c)) :
    CalE G P w mg base x (k + 1) (fun c => if c ∈ cs then toRf 0 (f c (List.replicate N.length none)) else .bad) := by
  obtain ⟨fA, fd, F, hm, b⟩ := d.ex
  exact ⟨fA, fd, px, fnE_def F S fun c cdv A outer s H E p D a => hb c fA cdv A outer s H E p D a, hm, F.kp, b⟩
theorem kit_blt {K : PySem.W.Frag} {D : Addr} {n : String} (hm : PySem.W.kitMeta n = true) (h : PySem.W.subIn K (.ref D) (.type n) = some true) : PySem.W.kitOne K (.ref D) (.type n) = some true := by
  unfold PySem.W.kitOne
  rw [if_neg (by simp)]
  show (if PySem.W.kitMeta n = true then PySem.W.subIn K (.ref D) (.type n) else none) = some true
  rw [if_pos hm, h]
end Lf
namespace Lf
section
variable {yes no : List Nat} {i j : Nat} {F : Nat → Rf} {fb : En → Ro} {ρ : En} {e : Ex} {o : O} {os : List O}
def kTH (yes no : List Nat) (i j : Nat) (F : Nat → Rf) : Ro → Ro
  | .exc e ρ1 => if e.c ∈ yes then (if e.fs = [] then kTryH i j ρ1 (F e.c) else .bad) else if e.c ∈ no then .exc e ρ1 else .bad
  | r => r
@[simp] theorem fTryH_eq : fTryH yes no i j F fb ρ = kTH yes no i j F (fb ρ) := nr rfl
@[simp] theorem kTH_nxt : kTH yes no i j F (.nxt ρ) = .nxt ρ := nr rfl
@[simp] theorem kTH_ret : kTH yes no i j F (.ret o ρ) = .ret o ρ := nr rfl
@[simp] theorem kTH_exc : kTH yes no i j F (.exc e ρ) = if e.c ∈ yes then (if e.fs = [] then kTryH i j ρ (F e.c) else .bad) else if e.c ∈ no then .exc e ρ else .bad := nr rfl
@[simp] theorem kTryH_ok : kTryH i j ρ (.ok o os) = .nxt ((ρ.set j (some (.stb (fr o)))).set i none) := nr rfl
def kTHO (yes no : List Nat) (i j : Nat) (F : Nat → Rf) : Ro → Ro
  | .exc e ρ1 => if e.c ∈ yes then (if e.fs = [] then kTryHO i j ρ1 (F e.c) else .bad) else if e.c ∈ no then .exc e ρ1 else .bad
  | r => r
@[simp] theorem fTryHO_eq : fTryHO yes no i j F fb ρ = kTHO yes no i j F (fb ρ) := nr rfl
@[simp] theorem kTHO_nxt : kTHO yes no i j F (.nxt ρ) = .nxt ρ := nr rfl
@[simp] theorem kTHO_ret : kTHO yes no i j F (.ret o ρ) = .ret o ρ := nr rfl
@[simp] theorem kTHO_exc : kTHO yes no i j F (.exc e ρ) = if e.c ∈ yes then (if e.fs = [] then kTryHO i j ρ (F e.c) else .bad) else if e.c ∈ no then .exc e ρ else .bad := nr rfl
@[simp] theorem kTryHO_ok : kTryHO i j ρ (.ok o os) = .nxt ((ρ.set j (some o)).set i none) := nr rfl
end
end Lf

namespace Lf
open PySem PySem.Spec PyProof.Rows L2

/-! exceptions that are kept as values -/
/-- an exception of the class cls at a, its dict at d -/
def ExV (cls : Value) (d : Option Addr) (a : Addr) : HO := .ext fun h => ∃ (oe : Obj) (vs : Array Value), h.get? a = some oe ∧ Zc cls d oe ∧ oe.data = .fields vs
theorem exv_ok {P : Program} {w : World} {H : Hp} {h : Heap} {a : Addr} {cls : Value} {d : Option Addr} {oe : Obj} {vs : Array Value} (e : h.get? a = some oe) (z : Zc cls d oe) (hd : oe.data = .fields vs) : ObjOk P w H h a (ExV cls d a) :=
  ⟨⟨oe, vs, e, z, hd⟩, ⟨oe, e⟩, fun _ _ ⟨o, v, q, r⟩ k => ⟨o, v, k o q, r⟩⟩
section
variable {X : Cx} {pins : List (Addr × Obj)} {σ : L2.St} {H : Hp} {s : Shared}
/-- what is pinned and was not there at the entry may be tracked -/
theorem track {a : Addr} {oe : Obj} {vs : Array Value} {cls : Value} {d : Option Addr} (I : Inv X ((a, oe) :: pins) σ H s) (z : Zc cls d oe) (hd : oe.data = .fields vs) (n0 : X.s_0.heap.get? a = none) (np : ∀ p ∈ X.pn ++ pins, p.1 ≠ a) :
    Inv X pins σ (upd H a (ExV cls d a)) s := by
  obtain ⟨ga, na, nL, nF, nc⟩ := I.pin (a, oe) (List.mem_append_right _ List.mem_cons_self)
  have ne0 : ∀ b o, X.s_0.heap.get? b = some o → b ≠ a := fun b o e q => by
    rw [q, n0] at e
    cases e
  have neH : ∀ b u, H b = some u → b ≠ a := fun b u e q => by
    rw [q, na] at e
    cases e
  refine ⟨I.ok, I.os, I.bare, ⟨I.base.keep, I.base.slot, fun b o e n hx => ?_, I.base.there, fun b xs q => ?_, fun b o u q => ?_, fun b ps q => ?_⟩, I.loc, I.cell, ?_, fun x c e => ?_, fun p hp => ?_, fun b u e => ?_, I.len⟩
  · rw [upd_ne (ne0 b o e)]
    exact I.base.free b o e n hx
  · have q' := I.base.tups b xs q
    rw [upd_ne (neH b _ q')]
    exact q'
  · have q' := I.base.frzs b o u q
    rw [upd_ne (neH b _ q')]
    exact q'
  · obtain ⟨m, q'⟩ := I.base.tbls b ps q
    exact ⟨m, by rw [upd_ne (neH b _ q')]; exact q'⟩
  · rw [upd_ne (Ne.symm nL)]
    exact I.free
  · obtain ⟨v, o, ho, hv⟩ := I.cell x c e
    have nca : c ≠ a := fun q => by
      subst q
      have ga' : s.heap.get? c = some oe := ga
      rw [ga'] at ho
      cases ho
      exact nc v hv
    rw [upd_ne nca]
    exact I.freeC x c e
  · have hm : p ∈ X.pn ++ ((a, oe) :: pins) := (List.mem_append.mp hp).elim (fun y => List.mem_append_left _ y) fun y => List.mem_append_right _ (List.mem_cons_of_mem _ y)
    obtain ⟨p1, p2, p3⟩ := I.pin p hm
    exact ⟨p1, by rw [upd_ne (np p hp)]; exact p2, p3⟩
  · by_cases hb : b = a
    · subst hb
      rw [upd_same] at e
      cases e
      exact exv_ok ga z hd
    · rw [upd_ne hb] at e
      exact (I.hok b u e).stay (fun c v _ q => q) (fun c q => by rw [upd_ne (neH c _ q)]; exact q) fun c xs q => by rw [upd_ne (neH c _ q)]; exact q
/-- out of the suite, the exception still pinned -/
theorem unsuiteP {a : Addr} {q : Addr × Obj} {pn' : List (Addr × Obj)} (I : Inv (X.suite a (q :: (X.pn ++ pins))) pn' σ H s) (ok : X.Ok) : Inv X (q :: pins) σ H s :=
  ⟨ok, I.os, I.bare, I.base, I.loc, I.cell, I.free, I.freeC, fun p hp => I.pin p (List.mem_append_left _ ((List.mem_append.mp hp).elim (fun y => List.mem_cons_of_mem _ (List.mem_append_left _ y)) fun y => (List.mem_cons.mp y).elim (fun e => e ▸ List.mem_cons_self) fun y => List.mem_cons_of_mem _ (List.mem_append_right _ y))), I.hok, I.len⟩
end
/-- the catch that keeps the exception -/
def wVal (K : PySem.W.Frag) (c : Value) (i j : Nat) (Wout : WX) (D : Ends) : WX := fun cls d σ H =>
  ∃ b, PySem.W.exmOne K cls c = some b ∧ (b = true → ∀ a, H a = none → D.nx ((σ.set j (some (.ref a))).set i none) (upd H a (ExV cls d a))) ∧ (b = false → Wout cls d σ H)
section
open HandSPX
variable {X : Cx} {x n y : Str} {c : Value} {i j : Nat} {body : List Stmt} {np ep p3 apos pos pos' : Pos} {tb : WX → TS} {Wout : WX}
theorem ps_try_val (hs : X.stack = X.env :: X.outer) (hf : X.env.frame = some X.env.locals) (hex : X.ex = []) (hN : X.N.Nodup) (hi : X.N[i]? = some n) (hj : X.N[j]? = some y) (hln : X.env.kindOf n = some .local) (hly : X.env.scope.names.lookup y = some .local) (hve : Vis X.env.scope n) (hc : Names X x c) (tk : L2N.Takes X Wout)
    (hb : ∀ (W : WX) (pn : List (Addr × Obj)) (xe : Value → Shared → Prop), L2N.Takes (X.tr pn xe) W → PassesOwn (model X.prog X.w) X.A X.env xe → PSs (X.tr pn xe) body (tb W))
    (hde : (n == ("__debug__" : Str)) = false) (hdc : (n == ("__classdict__" : Str)) = false) (hsw : swapsWith (.Name n ep) (some (.Name y p3)) apos.line X.env = pure false) :
    PS X (.Try body [.ExceptHandler (some (.Name x np)) (some n) [.Assign [.Name y p3] (.Name n ep) apos] pos'] [] [] pos) (fun D σ H => tb (wVal X.K c i j Wout D) D σ H) := by
  refine ⟨fun pins s σ H D I h => ?_⟩
  have ok := I.ok
  have hfr : X.A.frames = some (X.env :: X.outer) := by rw [ok.frames, hs]
  have hloc : Loc X.env.scope n := .inl hln
  refine wpAny_Try_except ?_
  refine wpAny_mono ((hb (wVal X.K c i j Wout D) (X.pn ++ pins) (fun e s₁ => wpAny (model X.prog X.w) X.A (noteFrame e X.env) (fun _ s₂ => wpAny (model X.prog X.w) X.A (setFlight e none) (fun _ s₃ =>
    wpAny (model X.prog X.w) X.A (handleBy e X.env [.ExceptHandler (some (.Name x np)) (some n) [.Assign [.Name y p3] (.Name n ep) apos] pos']) (SP X pins D) X.xe s₃) X.xe s₂) X.xe s₁) (fun u s' xx => ?_) PassesOwn.looking).run [] s σ H D (I.toTry _) h) (fun f s1 hsp => ?_) (fun e s1 he => he)
  · obtain ⟨a, B, sI, pins', σ', H', cls, d, rfl, J', nb, up, sky, na, os, ag, b, hb1, hyes, hno⟩ := xx
    have J : Inv X pins σ' H' sI := J'.ofTry ok
    have sky' : Sky B (X.env :: X.outer) a (L2N.Zn cls d) X.env.locals s'.heap := by rw [← hs]; exact sky
    show wpAny (model X.prog X.w) X.A (noteFrame (.ref a) X.env) _ _ _
    refine L2N.Sky.land L2N.Zn.steady hfr hf sky' fun h3 fl3 up3 => ?_
    have J3 : Inv X pins σ' H' { s' with heap := h3 } := J.landed nb fl3.1 (up.trans up3) os ag
    obtain ⟨oe3, vs3, he3, hz3, hd3⟩ := fl3.there
    have notFr : ∀ {h : Heap} {o : Obj} {vs : Array Value}, h.FunFrames B (X.env :: X.outer) → h.get? a = some o → o.data = .fields vs → a ∉ frs (X.env :: X.outer) := fun {h o vs} ff e dd hm => by
      obtain ⟨_, o', e', hnf⟩ := ff.mem hm
      rw [e] at e'; cases e'
      exact hnf _ dd
    have nfr := notFr fl3.2.2.1 he3 hd3
    have nL : a ≠ X.env.locals := fun z => nfr (List.mem_filterMap.mpr ⟨X.env, List.mem_cons_self, by rw [hf, z]⟩)
    have nF : a ∉ X.fs := fun hm => by
      obtain ⟨e, he, q⟩ := List.mem_filterMap.mp hm
      exact nfr (List.mem_filterMap.mpr ⟨e, List.mem_cons_of_mem _ he, q⟩)
    have nI : sI.heap.get? a = none := by
      cases q : sI.heap.get? a with
      | none => rfl
      | some o =>
        have z := nb a o q (by rw [hs]; exact nfr)
        rw [fl3.2.1] at z
        cases z
    have n0 : X.s_0.heap.get? a = none := by
      cases q : X.s_0.heap.get? a with
      | none => rfl
      | some o =>
        obtain ⟨o', z⟩ := J.base.there a o q (by rw [hex]; exact fun z => nomatch z)
        rw [nI] at z
        cases z
    have np' : ∀ p ∈ X.pn ++ pins, p.1 ≠ a := fun p hp z => by
      have q := (J.pin p hp).1
      rw [z, nI] at q
      cases q
    have S3 := J3.suite he3 hd3 na nL nF
    refine wpAny_handleBy_cons (codeAny_handlers_test ?_) (by intro q; cases q)
    have LT : PySem.W.Looks (model X.prog X.w) h3 (typeOf (.ref a)) cls := fun A Q E s k q => wpAny_typeOf_ref (k _ _ he3) (by rw [hz3.1]; exact q)
    have LM := PySem.W.exm_one (M := model X.prog X.w) (J3.kIn) LT hb1
    have test : ∀ {Q : Value → Shared → Prop} {E : Value → Shared → Prop}, Q c { s' with heap := h3 } → wpAny (model X.prog X.w) (X.A.mark (some (.ref a))) (eval (.Name x np) X.env) Q E { s' with heap := h3 } := fun {Q E} q => by
      obtain ⟨hg, hdbg, hm | ⟨hm, hv, hnn⟩⟩ := hc
      · exact ld_glob (X := X.suite a ((a, oe3) :: (X.pn ++ pins))) S3 hg hm q hdbg
      · exact ld_blt (X := X.suite a ((a, oe3) :: (X.pn ++ pins))) S3 hg hm hv q hnn hdbg
    refine test (LM.here ?_)
    cases b with
    | true =>
      refine codeAny_handlers_suite_as ?_
      refine HandSPX.lands_againZ fl3 fun h4 fl4 up4 => ?_
      have J4 : Inv X pins σ' H' { s' with heap := h4 } := J.landed nb fl4.1 ((up.trans up3).trans up4) os ag
      obtain ⟨oe4, vs4, he4, hz4, hd4⟩ := fl4.there
      have S4 := J4.suite he4 hd4 na nL nF
      refine store_ok (X := X.suite a ((a, oe4) :: (X.pn ++ pins))) (v := .ref a) S4 hN hi hloc rfl (fun s5 S5 => ?_) (.inr hln)
      have l2 : i < (X.N).length := (List.getElem?_eq_some_iff.mp hi).1
      have h1 : (σ'.set i (some (.ref a)))[i]? = some (some (.ref a)) := by
        have l := S5.len
        rw [List.length_set] at l
        rw [List.getElem?_set_self (by rw [l]; exact l2)]
      have P1 : PSs (X.suite a ((a, oe4) :: (X.pn ++ pins))) [.Assign [.Name y p3] (.Name n ep) apos] _ := pss_one (ps_set (X := X.suite a ((a, oe4) :: (X.pn ++ pins))) (i := j) hN hj (.inl hly) (pe_var (i := i) hi hve hde hdc) hsw (.inr hly))
      refine wpAny_mono (P1.run [] s5 _ H' { nx := fun σ6 H6 => σ6 = (σ'.set i (some (.ref a))).set j (some (.ref a)) ∧ H6 = H', rt := fun _ _ => False, bk := fun _ _ => False, ct := fun _ _ => False } S5 ⟨_, h1, rfl, rfl⟩) (fun f s6 hsp => ?_) (fun _ _ z => False.elim z)
      cases f with
      | next =>
        obtain ⟨σ6, H6, S6, rfl, rfl⟩ := hsp
        refine gone_ok (unsuiteP S6 ok) hN hi hln fun s7 J7 => ?_
        refine ⟨_, _, track J7 hz4.zc hd4 n0 np', ?_⟩
        have es : ((σ'.set i (some (.ref a))).set j (some (V.ref a))).set i none = (σ'.set j (some (.ref a))).set i none := by
          by_cases hij : i = j
          · subst hij; simp
          · rw [List.set_comm _ _ hij, List.set_set]
        rw [es]
        exact hyes rfl a na
      | brk =>
        obtain ⟨_, _, _, z⟩ := hsp
        exact z.elim
      | cont =>
        obtain ⟨_, _, _, z⟩ := hsp
        exact z.elim
      | ret u =>
        obtain ⟨_, _, _, _, _, z⟩ := hsp
        exact z.elim
    | false =>
      show wpAny _ X.A (handleBy (.ref a) X.env []) _ _ _
      refine wpAny_handleBy_nil ?_
      obtain ⟨k1, k2, k3, oe, vs, T, oT, ts', he, hz, hd, h1, hr⟩ := id fl3
      unfold PySem.passOn
      refine wpAny_bind (wpAny_field he hd h1 ?_)
      rw [if_neg (show ¬ ((Value.ref T == Value.none) = true) from by simp)]
      have fin : wpAny (model X.prog X.w) X.A (setFlight (.ref a) X.env.frame) (fun _ s4 => wpAny (model X.prog X.w) X.A (throw (.ref a) : Sem Flow) (SP X pins D) X.xe s4) X.xe { s' with heap := h3 } := by
        rw [hf]
        refine HandSPX.setFlight_upZ fl3 fun h4 hh4 up4 => wpAny_throw (tk _ _ ?_)
        exact ⟨a, B, sI, pins, σ', H', cls, d, rfl, J, nb, (up.trans up3).trans up4, .inr (.inr (by rw [hs]; exact hh4)), na, os, ag, hno rfl⟩
      first
        | exact wpAny_bind (wpAny_pure (wpAny_bind fin))
        | exact wpAny_bind fin
  · cases f with
    | next =>
      obtain ⟨σ', H', J', q⟩ := hsp
      exact wpAny_execs_nil ⟨σ', H', J'.ofTry ok, q⟩
    | brk =>
      obtain ⟨σ', H', J', q⟩ := hsp
      exact ⟨σ', H', J'.ofTry ok, q⟩
    | cont =>
      obtain ⟨σ', H', J', q⟩ := hsp
      exact ⟨σ', H', J'.ofTry ok, q⟩
    | ret u =>
      obtain ⟨v, σ', H', J', r, q⟩ := hsp
      exact ⟨v, σ', H', J'.ofTry ok, r, q⟩
end
/-- the global's word for an exception kept: its class by number, its fields -/
def exFn (cls : Nat → Option Addr) (flds : Nat → List Str) (Hs : Hp) (c : Nat) (vs : List V) (v : V) : Prop :=
  ∃ a d C, v = .ref a ∧ cls c = some C ∧ Hs a = some (ExV (.ref C) d a) ∧ ((vs = [] ∧ d = none) ∨ vs ≠ [] ∧ ∃ dx, d = some dx ∧ Hs dx = some (.xd ((flds c).zip vs)))
structure ExG (G : Glob) : Prop where
  fnr : ∀ {Hs : Hp} {c : Nat} {vs : List V} {v : V} {D : Addr}, G.cls c = some D → (G.fnr Hs c vs v ↔ exFn G.cls G.flds Hs c vs v)
theorem exFn_mono {cls : Nat → Option Addr} {flds : Nat → List Str} {H H' : Hp} {n : Nat} {cs : List V} {v : V} (s : Same H H') (h : exFn cls flds H n cs v) : exFn cls flds H' n cs v := by
  obtain ⟨a, d, C, e, q, ha, hd⟩ := h
  exact ⟨a, d, C, e, q, s _ _ ha, hd.imp id fun ⟨z, dx, e1, e2⟩ => ⟨z, dx, e1, s _ _ e2⟩⟩
theorem exFn_ref {cls : Nat → Option Addr} {flds : Nat → List Str} {H : Hp} {n : Nat} {cs : List V} {v : V} (h : exFn cls flds H n cs v) : ∃ a, v = .ref a := h.imp fun a ⟨_, _, e, _⟩ => e
def fTryV (yes no : List Nat) (i j : Nat) (fb : En → Ro) : En → Ro := fun ρ => match fb ρ with
  | .exc e ρ1 => if e.c ∈ yes then .nxt ((ρ1.set j (some (.stb (.fn e.c e.fs)))).set i none) else if e.c ∈ no then .exc e ρ1 else .bad
  | r => r
section
variable {X : Cx} {G : Glob} {a : Act} {W : WX}
theorem rp_exc {Hs : Hp} {e : Ex} {cls : Value} {d : Option Addr} (EG : ExG G) (h : ExR G Hs e cls d) {b : Addr} (hb : Hs b = none) : Rp G (upd Hs b (ExV cls d b)) (.fn e.c e.fs) (.ref b) := by
  obtain ⟨C, hC, rfl, hd⟩ := h
  have sm : Same Hs (upd Hs b (ExV (.ref C) d b)) := Same.new hb
  rw [Rp]
  rcases hd with ⟨e1, e2⟩ | ⟨e1, dx, vs, e2, e3, e4⟩
  · refine ⟨[], (EG.fnr hC).mpr ⟨b, d, C, rfl, hC, upd_same, .inl ⟨rfl, e2⟩⟩, ?_⟩
    rw [e1, RpL]
  · refine ⟨vs, (EG.fnr hC).mpr ⟨b, d, C, rfl, hC, upd_same, .inr ⟨fun z => ?_, dx, e2, sm _ _ e3⟩⟩, rpl_mono sm _ _ e4⟩
    have l := rpl_length e4
    rw [z] at l
    exact e1 (List.eq_nil_of_length_eq_zero l)
theorem js_tryV {x en y : Str} {yes no : List Nat} {body : List Stmt} {fb : En → Ro} {np ep p3 apos pos pos' : Pos} (i j : Nat)
    (Ct : CtF G X.mg x yes no) (EG : ExG G) (hK : X.K = G.K) (hs : X.stack = X.env :: X.outer) (hf : X.env.frame = some X.env.locals) (hex : X.ex = []) (hN : X.N.Nodup) (hgx : Gl X x) (tk : L2N.Takes X W) (hpi : a.pv.length ≤ i) (hpj : a.pv.length ≤ j)
    (hb : ∀ (W : WX) (pn : List (Addr × Obj)) (xe : Value → Shared → Prop) (h : Hp), L2N.Takes (X.tr pn xe) W → PassesOwn (model X.prog X.w) X.A X.env xe → JB (X.tr pn xe) G { a with Hs0 := h } W body fb)
    (hi : X.N[i]? = some en := by rfl) (hj : X.N[j]? = some y := by rfl) (hil : X.env.kindOf en = some .local := by rfl) (hve : Vis X.env.scope en := by exact Or.inl rfl) (hyl : X.env.scope.names.lookup y = some .local := by rfl)
    (hdb : (x == ("__debug__" : Str)) = false := by decide) (hde : (en == ("__debug__" : Str)) = false := by decide) (hdc : (en == ("__classdict__" : Str)) = false := by decide)
    (hsw : swapsWith (.Name en ep) (some (.Name y p3)) apos.line X.env = pure false := by rfl) :
    JS X G a W (.Try body [.ExceptHandler (some (.Name x np)) (some en) [.Assign [.Name y p3] (.Name en ep) apos] pos'] [] [] pos) (fTryV yes no i j fb) := by
  obtain ⟨Dc, hD, hy, hn⟩ := Ct.ex
  refine (ps_try_val (tb := fun W D σ H => ∃ h, tS G { a with Hs0 := h } W fb D σ H) hs hf hex hN hi hj hil hyl hve ⟨hgx, hdb, .inl hD⟩ tk
    (fun W pn xe tkk ps => ⟨fun pins s σ H D I ⟨h, q⟩ => (hb W pn xe h tkk ps).run pins s σ H D I q⟩) hde hdc hsw).imp fun D σ H ⟨ρ, ts, Hs, S, k⟩ => ?_
  refine ⟨Hs, ρ, ts, Hs, sta_at S, ?_⟩
  unfold fTryV at k
  cases hx : fb ρ with
  | bad => rw [hx] at k; exact k
  | nxt ρ1 => rw [hx] at k; exact fun σ1 Hs1 H1 S1 t1 => k σ1 Hs1 H1 (sta_back S S1) t1
  | brk ρ1 => rw [hx] at k; exact fun σ1 Hs1 H1 S1 t1 => k σ1 Hs1 H1 (sta_back S S1) t1
  | ctn ρ1 => rw [hx] at k; exact fun σ1 Hs1 H1 S1 t1 => k σ1 Hs1 H1 (sta_back S S1) t1
  | ret o ρ1 => rw [hx] at k; exact fun v σ1 Hs1 H1 S1 t1 => k v σ1 Hs1 H1 (sta_back S S1) t1
  | exc e ρ1 =>
    rw [hx] at k
    intro c d σ1 Hs1 H1 S1 r1
    have k' : PoS G a W ts Hs D (if e.c ∈ yes then .nxt ((ρ1.set j (some (.stb (.fn e.c e.fs)))).set i none) else if e.c ∈ no then .exc e ρ1 else .bad) := k
    obtain ⟨C0, hC, rfl, hfs⟩ := id r1
    have same : Same Hs Hs1 := S1.stab
    have S2 := sta_back S S1
    rw [← hK] at hy hn
    by_cases h1 : e.c ∈ yes
    · rw [if_pos h1] at k'
      obtain ⟨C2, hC2, hb1⟩ := hy _ h1
      rw [hC] at hC2; cases hC2
      refine ⟨true, hb1, (fun _ b hb => ?_), (fun z => absurd z (by decide))⟩
      have hbs : Hs1 b = none := S2.sub.free hb
      have S3 := S2.new (o := ExV (.ref C0) d b) hb
      exact k' _ _ _ ((S3.set (i := j) (rp_exc EG r1 hbs) hpj).unset (i := i) (v := none) hpi) (same.trans (Same.new hbs))
    · rw [if_neg h1] at k'
      by_cases h2 : e.c ∈ no
      · rw [if_pos h2] at k'
        obtain ⟨C2, hC2, hb1⟩ := hn _ h2
        rw [hC] at hC2; cases hC2
        exact ⟨false, hb1, (fun z => absurd z (by decide)), (fun _ => k' _ _ _ _ _ S2 r1)⟩
      · rw [if_neg h2] at k'; exact False.elim k'
end
/-! isinstance of such a value, its field -/
/-- it stands there, as the heap tells it -/
theorem exv_at {P : Program} {w : World} {H : Hp} {h : Heap} {a C : Addr} {d : Option Addr} (hok : HOk P w H h) (ha : H a = some (ExV (.ref C) d a)) (hd : ∀ dx, d = some dx → ∃ fs, H dx = some (.xd fs)) :
    ∃ (oe : Obj) (od : Option Obj), PySem.W.InstAt h a oe C od ∧ ∀ dx fs f v, d = some dx → H dx = some (.xd fs) → fs.lookup f = some v → ∃ (ob : Obj) (u : Value), od = some ob ∧ PySem.W.lookIn f ob = some (some u) ∧ RelV v u := by
  have q : ObjOk P w H h a (.ext fun h => ∃ (oe : Obj) (vs : Array Value), h.get? a = some oe ∧ Zc (.ref C) d oe ∧ oe.data = .fields vs) := hok a _ ha
  obtain ⟨oe, vs, e, z, hf⟩ := q.1
  have nc : PySem.W.notCls oe = true := by
    unfold PySem.W.notCls
    rw [hf] <;> rfl
  cases d with
  | none => exact ⟨oe, none, ⟨e, z.1, nc, by rw [z.2]; trivial⟩, fun dx fs f v e1 => by cases e1⟩
  | some dx =>
    obtain ⟨fs, hx⟩ := hd dx rfl
    have hxo : ObjOk P w H h dx (.xd fs) := hok dx _ hx
    obtain ⟨mA, hns, hr⟩ := hxo
    obtain ⟨od, ho, hl⟩ := lookIn_ns hns
    refine ⟨oe, some od, ⟨e, z.1, nc, by rw [z.2]; exact ho⟩, fun dx' fs' f v e1 e2 e3 => ?_⟩
    cases e1
    rw [hx] at e2
    cases e2
    obtain ⟨u, hu, ru⟩ := RelO.some_of (v := v) (o := mA f) (by rw [← e3]; exact hr f)
    exact ⟨od, u, rfl, by rw [hl, hu], ru⟩
/-- isinstance(e, c), e an exception that is kept -/
def rIsV (K : PySem.W.Frag) : List V → Hp → VK → Prop := fun xs H Q => ∃ (a C : Addr) (d : Option Addr) (c : V) (cv : Value) (b : Bool), xs = [.ref a, c] ∧ H a = some (ExV (.ref C) d a) ∧ (∀ dx, d = some dx → ∃ fs, H dx = some (.xd fs)) ∧ ExcC K C ∧ (∀ u, RelV c u → u = cv) ∧ PySem.W.kitOne K (.ref C) cv = some b ∧ Q (.bl b) H
theorem call_isV {X : Cx} : CallR X (.builtin "isinstance") (rIsV X.K) := by
  intro pins s σ H xs us Q I r h
  obtain ⟨a, C, d, c, cv, b, rfl, ha, hd, EC, hcv, e, q⟩ := h
  cases r with | cons rx rr => cases rr with | cons rt rr =>
  cases rr; cases rx
  have ec := hcv _ rt; subst ec
  obtain ⟨oe, od, J, _⟩ := exv_at I.hok ha hd
  have hcl : (PySem.W.clsIn X.K C).isSome = true := by
    obtain ⟨cd, hc, _⟩ := PySem.W.any_some EC.hd
    rw [hc] <;> rfl
  exact PySem.W.kia_one (PySem.W.kitx_exc hcl EC.hg EC.hk EC.hs EC.ha EC.hn EC.ht EC.hm) I.kIn J e (fun y => nomatch y) fun tk => ⟨.bl b, H, I.kept (t' := tk) fun _ _ y => y, rfl, q⟩
def fIsV (cs kids : List Nat) (fe : En → Rs D) : En → Rs D := fun ρ => (fe ρ).bind fun d ρ1 => match d with
  | .fn c _ => if c ∈ cs then .ok (.bl (decide (c ∈ kids))) ρ1 else .bad
  | _ => .bad
def fIsVT (cs : List Nat) (fe : En → Rs D) : En → Rs D := fun ρ => (fe ρ).bind fun d ρ1 => match d with
  | .fn c _ => if c ∈ cs then .ok (.bl true) ρ1 else .bad
  | _ => .bad
section
variable {X : Cx} {G : Glob} {a : Act} {W : WX} {e : Expr} {x : Str} {fe : En → Rs D} {p p2 pos : Pos} {cs kids : List Nat}
theorem je_isV (F : IsEF G X.mg x cs kids) (EF : ExF G cs) (EG : ExG G) (g : X.K = G.K) (h : JE X G a W e fe) (hg : Gl X "isinstance") (hm : X.mg "isinstance" = none) (hgx : Gl X x) (hdx : (x == ("__debug__" : Str)) = false := by decide)
    (he : starEach [e, .Name x p2] X.env = (false, eval e X.env) :: starEach [.Name x p2] X.env := by rfl) (he2 : starEach [.Name x p2] X.env = (false, eval (.Name x p2) X.env) :: starEach [] X.env := by rfl) (hpl : (backTo pos (starEach [.Name x p2] X.env)).any (·.1) = false := by rfl) :
    JE X G a W (.Call (.Name "isinstance" p) [e, .Name x p2] [] pos) (fIsV cs kids fe) := by
  obtain ⟨C, hC, hk⟩ := F.ex
  refine (pe_callB call_isV hg hm (by rfl) (pa_cons h (pa_cons (pe_glob (v := .ref C) hgx hC rfl hdx) pa_nil he2) he) (by decide) (by decide) he hpl).imp fun σ H Q ⟨ρ, ts, Hs, S, k⟩ => ⟨ρ, ts, Hs, S, (Po.bind (R := Rp G) k).mono ?_⟩
  rintro v H1 ⟨d, ρ1, Hs1, S1, s1, s2, r1, k1⟩
  cases d with
  | fn c xs =>
    by_cases hc : c ∈ cs
    · simp only [if_pos hc] at k1
      rw [Rp] at r1
      obtain ⟨vs, r2, _⟩ := r1
      obtain ⟨D2, hD2, ec⟩ := EF.ex c hc
      obtain ⟨b, d, C', rfl, hC', hb, hd⟩ := (EG.fnr hD2).mp r2
      obtain ⟨D', hD', hk⟩ := hk c hc
      rw [hC'] at hD' hD2
      cases hD'; cases hD2
      rw [← g] at hk ec
      refine ⟨b, D2, d, .ref C, _, _, rfl, S1.sub _ _ hb, fun dx e1 => ?_, ec, fun u r => r, hk, k1 _ Hs1 H1 S1 (Same.refl _) (Kp.refl _) (by rw [Rp])⟩
      rcases hd with ⟨_, z⟩ | ⟨_, dx', z, y⟩
      · rw [z] at e1; cases e1
      · rw [z] at e1; cases e1
        exact ⟨_, S1.sub _ _ y⟩
    · simp only [if_neg hc] at k1
      exact False.elim k1
  | _ => exact False.elim k1
theorem je_isVT {n : String} (F : IsET G n cs) (EF : ExF G cs) (EG : ExG G) (g : X.K = G.K) (h : JE X G a W e fe) (hg : Gl X "isinstance") (hm : X.mg "isinstance" = none) (hgx : Gl X x) (hmx : X.mg x = none) (hbx : bootBuiltins x = some (.type n)) (hnx : x ≠ "__name__" := by decide) (hdx : (x == ("__debug__" : Str)) = false := by decide)
    (he : starEach [e, .Name x p2] X.env = (false, eval e X.env) :: starEach [.Name x p2] X.env := by rfl) (he2 : starEach [.Name x p2] X.env = (false, eval (.Name x p2) X.env) :: starEach [] X.env := by rfl) (hpl : (backTo pos (starEach [.Name x p2] X.env)).any (·.1) = false := by rfl) :
    JE X G a W (.Call (.Name "isinstance" p) [e, .Name x p2] [] pos) (fIsVT cs fe) := by
  refine (pe_callB call_isV hg hm (by rfl) (pa_cons h (pa_cons (pe_bltn (v := .ty n) hgx hmx hbx rfl hnx hdx) pa_nil he2) he) (by decide) (by decide) he hpl).imp fun σ H Q ⟨ρ, ts, Hs, S, k⟩ => ⟨ρ, ts, Hs, S, (Po.bind (R := Rp G) k).mono ?_⟩
  rintro v H1 ⟨d, ρ1, Hs1, S1, s1, s2, r1, k1⟩
  cases d with
  | fn c xs =>
    by_cases hc : c ∈ cs
    · simp only [if_pos hc] at k1
      rw [Rp] at r1
      obtain ⟨vs, r2, _⟩ := r1
      obtain ⟨D2, hD2, ec⟩ := EF.ex c hc
      obtain ⟨b, d, C', rfl, hC', hb, hd⟩ := (EG.fnr hD2).mp r2
      obtain ⟨D', hD', hk⟩ := F.ex c hc
      rw [hC'] at hD' hD2
      cases hD'; cases hD2
      rw [← g] at hk ec
      refine ⟨b, D2, d, .ty n, _, _, rfl, S1.sub _ _ hb, fun dx e1 => ?_, ec, fun u r => r, hk, k1 _ Hs1 H1 S1 (Same.refl _) (Kp.refl _) (by rw [Rp])⟩
      rcases hd with ⟨_, z⟩ | ⟨_, dx', z, y⟩
      · rw [z] at e1; cases e1
      · rw [z] at e1; cases e1
        exact ⟨_, S1.sub _ _ y⟩
    · simp only [if_neg hc] at k1
      exact False.elim k1
  | _ => exact False.elim k1
end
end Lf

namespace Lf
open PySem PySem.Spec PyProof.Rows L2

/-! raise C(e), C a class of errors with an __init__ of its own: B.__init__(self, '..'); self.f = e -/
section
variable {X : Cx} {e : Expr} {es : List Expr} {ta : TA} {p p1 p2 pos : Pos}
theorem pe_ownInit {pl : Sem Bool} {B : Str} {BA : Addr} (hg : Gl X B) (hm : X.mg B = some (.ref BA)) (ga : PySem.W.specialIn X.K (.ref BA) "__getattribute__" = some (some (.builtin "type.__getattribute__"))) (rd : PySem.W.readsIn X.K BA (.type "type") = true)
    (at_ : PySem.W.findCls X.K (.ref BA) (.type "type") "__init__" = some (.val (.builtin "ValueError.__init__"))) (ha : PA X (e :: es) ta)
    (hc : eval (.Call (.Attribute (.Name B p1) "__init__" p2) (e :: es) [] pos) X.env = (do
      let ov ← eval (.Name B p1) X.env
      standAt p2.atName
      let (f, first) ← holding [ov] (getMethod ov "__init__" pl)
      callWith pos f first (backTo pos (starEach (e :: es) X.env)) (backToKw pos (keywordEach [] X.env))) := by rfl)
    (he : starEach (e :: es) X.env = (false, eval e X.env) :: starEach es X.env := by rfl) (hpl : (backTo pos (starEach es X.env)).any (·.1) = false := by rfl) (hdb : (B == ("__debug__" : Str)) = false := by decide) :
    PE X (.Call (.Attribute (.Name B p1) "__init__" p2) (e :: es) [] pos) (tVeI X.K ta) := by
  refine ⟨fun pins s σ H Q I h => ?_⟩
  refine PySem.W.methodCall_KW (ld_glob I hg hm ?_ hdb) hc
  refine PySem.W.method_cls I.kIn ga (PySem.W.cls_value I.kIn rd at_ (by decide +kernel) ?_)
  show wpAny _ _ (callWith pos (Value.builtin "ValueError.__init__") [] (backTo pos (starEach (e :: es) X.env)) []) _ _ _
  refine PyProof.Rows.callWith_method1 (thn (ha.run pos pins _ σ H _ (I.tok _) h) fun us s1 ⟨vs, H1, I1, r1, a, C, ws, ev, hl, T, ea, q⟩ => ?_) he hpl
  subst ev
  cases r1 with
  | @cons _ u0 _ ur ra rw' =>
    obtain rfl : u0 = Value.ref a := ra
    have hlen : ur.length ≤ sizeLine := by
      rw [← Paired.length rw', sizeLine_eq]
      omega
    exact oinit_ok T I1 ea hlen fun s' J => ⟨.non, H1, J, rfl, q⟩
end
/-- what such an __init__ keeps -/
def SpI (K : PySem.W.Frag) (cs : Addr → Prop) (f : Str) : Sp := fun vs H Q _ => ∃ a C y, vs = [.ref a, y] ∧ cs C ∧ H a = some (exo a C none) ∧ ∀ dx, H dx = none → dx ≠ a → Q .non (upd (upd H dx (exd dx [(f, y)])) a (exo a C (some dx)))
theorem init_ok {P : Program} {w : World} {K : PySem.W.Frag} {mg : Str → Option Value} {base : Heap} {qual f : Str} {st : Stmt} {fA : Addr} {fd : FuncData} {cs : Addr → Prop} {m : Str} (F : Fun K "__init__" qual st fA fd) (S : FnScope ["self", f] ["self", f] (defScope st))
    (hC : ∀ C, cs C → OexC K C ∧ PySem.W.findIn K (.ref C) f = some none)
    (hb : ∀ (cdv : Value) (A : Around) (outer : List Env) (s : Shared) (H : Hp) (E : XK), PSs (cxOf CX0 P w K mg base ["self", f] qual (defScope st) fA cdv A outer s H E).nox (defBody st) (tSeq (tDrop (tVeI K (tCons (tVar 0) (tCons (tC (.str m)) tNil)))) (tOst K f (tVar 0) (tVar 1)))) :
    FnOk P w K mg base CX0 1 fA fd ["self", f] (SpI K cs f) := by
  refine F.ok S (fun vs H Q E ⟨a, C, y, e, _⟩ => by rw [e]; rfl) fun cdv A outer s H vs Q E hr ⟨a, C, y, e, hc, ha, q⟩ => ⟨_, hb cdv A outer s H E, ?_⟩
  obtain ⟨T, hno⟩ := hC C hc
  subst e
  exact ⟨_, rfl, a, C, [.str m], rfl, (show 1 ≤ 1000 by omega), T, ha, _, rfl, _, rfl, a, C, rfl, T, hno, .inl ⟨ha, fun dx n ne => q dx n ne⟩⟩
/-- C(e, ..), C's own __init__ keeping sp; the exception's context is None -/
theorem pmk_oexN {X : Cx} {CX : CXT} {x : Str} {e : Expr} {es : List Expr} {ta : TA} {p pos : Pos} {C fI : Addr} {k : Nat} {fd : FuncData} {ps : List Str} {sp : Sp} (T : OexC X.K C) (iC : PySem.W.findIn X.K (.ref C) "__init__" = some (some (.ref fI))) (tI : PySem.W.typeIn X.K (.ref fI) = some (.type "function"))
    (F1 : FnOk X.prog X.w X.K X.mg X.base CX k fI fd ps sp) (hr : Room (k + 1) X.A) (hb : Binds X.K fd ps []) (hx : Passes CX X (fun _ _ _ => False)) (hg : Gl X x) (hm : X.mg x = some (.ref C)) (ha : PA X (e :: es) ta)
    (hdb : (x == ("__debug__" : Str)) = false := by decide) (he : starEach (e :: es) X.env = (false, eval e X.env) :: starEach es X.env := by rfl) (hpl : (backTo pos (starEach es X.env)).any (·.1) = false := by rfl) :
    L2N.PMk X (.Call (.Name x p) (e :: es) [] pos) (tMkO C sp [] ta) := by
  intro pins s σ H Q I h
  obtain ⟨nm, q, N, bs, bm, sn, sub, ab, col, dd, k0, k1, k2, k3, k5, hC, hbm⟩ := T.cls
  refine wpAny_Call_Name_kw (ld_glob I hg hm ?_ hdb)
  refine PySem.W.callWith_K (h₀ := X.base) I.ok.mod.kin T.kC (thn (ha.run pos pins s σ H _ I h) fun us s1 ⟨vs, H1, I1, r1, hz, q1⟩ => ⟨I1.kIn, ?_⟩) he hpl
  show wpAny _ _ (call (.ref C) us) _ _ _
  obtain ⟨hp, g, dr, tk, os⟩ := s1
  have hsz : hp.objs.size ≤ hp.objs.size + 1 := Nat.le_succ _
  have hn : H1 (hp.objs.size + 1) = none := I1.hok.fresh hsz
  have hq := q1 (hp.objs.size + 1) hn
  rw [List.append_nil] at hq
  have kk : ∀ b o, hp.get? b = some o → ((hp.push (PySem.W.kdv_tup us)).push (PySem.HandSPX.excO C hp.objs.size)).get? b = some o := fun b o e => Heap.get?_push_of_some _ (Heap.get?_push_of_some _ e)
  have hget : ((hp.push (PySem.W.kdv_tup us)).push (PySem.HandSPX.excO C hp.objs.size)).get? (hp.objs.size + 1) = some (PySem.HandSPX.excO C hp.objs.size) := by heap_get
  have I2 : Inv X pins σ (upd H1 (hp.objs.size + 1) (exo (hp.objs.size + 1) C none)) ⟨(hp.push (PySem.W.kdv_tup us)).push (PySem.HandSPX.excO C hp.objs.size), g, dr, tk, os⟩ :=
    I1.laid (t' := tk) (a := hp.objs.size + 1) (o := exo (hp.objs.size + 1) C none) (h' := (hp.push (PySem.W.kdv_tup us)).push (PySem.HandSPX.excO C hp.objs.size)) kk hsz (exo_ok hget)
  have r2 : Vals (V.ref (hp.objs.size + 1) :: vs) (Value.ref (hp.objs.size + 1) :: us) := .cons rfl r1
  have hl : (Value.ref (hp.objs.size + 1) :: us ++ []).length = ps.length := by
    have e := r2.length
    rw [F1.len _ _ _ _ hq] at e
    rw [List.append_nil]
    exact e.symm
  have hus : us.length ≤ sizeLine := by
    rw [← Paired.length r1, sizeLine_eq]
    omega
  have b2 := hb _ (Value.ref (hp.objs.size + 1) :: us) I2.kIn hl
  rw [List.append_nil] at b2
  refine wpAny_call (PySem.HandSPX.call_own F.excBase_ValueError (fun Y => PySem.HandSPX.refsVE_contains Y bm hbm) (I1.kIn _ _ hC) (PySem.W.looks_findIn I1.kIn iC) (fun self => PySem.W.bind_fn I1.kIn self tI) hus
    (codeAny_mono (F1.run _ X.stack _ _ ⟨Value.ref (hp.objs.size + 1) :: us, []⟩ (Value.ref (hp.objs.size + 1) :: us) _ _ (fun _ _ _ => False) (hr.make C us []) (I2.env0.make C us []) b2 r2 hq) fun r s' hq' => ?_))
  cases r with
  | error er => exact hx pins σ _ _ er s' I2 hq'
  | ok fl =>
    cases fl with
    | ret u =>
      obtain ⟨v, H2, os2, bare2, un2, hok2, rv, ev, d, fs, ea, ed, hd1, q2⟩ := hq'
      subst ev
      obtain ⟨h2, g2, d2, t2, os'⟩ := s'
      obtain ⟨t0, G, J, kG, ge, hoe, na⟩ := mk_end0 (d2 := d2) (t2 := t2) I1 hsz kk un2 hok2 os2 bare2 ea ed hd1
      refine ⟨rv, ⟨hp.objs.size + 1, _, _, ⟨G, g2, d2, t2, os'⟩, _, .ref C, some d, rfl, J, kG, ge, hoe, ⟨rfl, rfl, fun vs hv => ?_⟩, rfl, rfl, na, rfl, bare2, raises_own T.exC T.tyC, q2⟩⟩
      cases hv
      rfl
    | next => exact False.elim hq'
    | brk => exact False.elim hq'
    | cont => exact False.elim hq'
/-- a class of errors with such an __init__ -/
structure XiF (G : Glob) (P : Program) (w : World) (mg : Str → Option Value) (base : Heap) (x : Str) (c : Nat) (f : Str) : Prop where
  ex : ∃ C fI fd, G.cls c = some C ∧ mg x = some (.ref C) ∧ OexC G.K C ∧ PySem.W.findIn G.K (.ref C) "__init__" = some (some (.ref fI)) ∧ PySem.W.typeIn G.K (.ref fI) = some (.type "function") ∧ FnOk P w G.K mg base CX0 1 fI fd ["self", f] (SpI G.K (· = C) f) ∧ Binds G.K fd ["self", f] []
  fl : G.flds c = [f]
def fRaiseI (c : Nat) (fe : En → Rs D) : En → Ro := fun ρ => (fe ρ).bindS fun d ρ1 => .exc ⟨c, [d]⟩ ρ1
section
variable {X : Cx} {G : Glob} {a : Act} {W : WX}
theorem js_raiseI {x f : Str} {e : Expr} {fe : En → Rs D} {c : Nat} {p pos pos' : Pos} (F : XiF G X.prog X.w X.mg X.base x c f) (hK : X.K = G.K) (hc : X.calm = true) (tk : L2N.Takes X W) (hr : Room 2 X.A) (h : JE X G a W e fe) (hg : Gl X x) (hdb : (x == ("__debug__" : Str)) = false := by decide)
    (he : starEach [e] X.env = (false, eval e X.env) :: starEach [] X.env := by rfl) (hpl : (backTo pos (starEach [] X.env)).any (·.1) = false := by rfl) :
    JS X G a W (.Raise (some (.Call (.Name x p) [e] [] pos)) none pos') (fRaiseI c fe) := by
  obtain ⟨C, fI, fd, hC, hm, T, iC, tI, F1, hb⟩ := F.ex
  rw [← hK] at T iC tI F1 hb
  refine (L2N.ps_raise hc tk (pmk_oexN T iC tI F1 hr hb (fun _ _ _ _ _ _ _ h => h.elim) hg hm (pa_cons h pa_nil he) hdb he hpl)).imp fun D σ H ⟨ρ, ts, Hs, S, k⟩ => ?_
  refine ⟨ρ, ts, Hs, S, (Po.bindS (R := Rp G) k).mono ?_⟩
  rintro y H1 ⟨d, ρ1, Hs1, S1, s1, s2, r1, k1⟩
  refine ⟨(show 1 ≤ 1000 by omega), fun b hb0 => ?_⟩
  refine ⟨b, C, y, rfl, rfl, upd_same, fun dx hdx hne => ⟨rfl, dx, [(f, y)], upd_same, ?_, ?_, ?_⟩⟩
  · rw [upd_ne hne, upd_same]
  · rw [upd_ne hne] at hdx
    exact hdx
  · rw [upd_ne hne] at hdx
    have e1 : upd (del (upd (upd (upd H1 b (exo b C none)) dx (exd dx [(f, y)])) b (exo b C (some dx))) b) dx (.xd [(f, y)]) = upd H1 dx (.xd [(f, y)]) := by
      funext z
      by_cases h1 : z = dx
      · rw [h1, upd_same, upd_same]
      · rw [upd_ne h1, upd_ne h1]
        by_cases h2 : z = b
        · rw [h2, del_same, hb0]
        · rw [del_ne h2, upd_ne h2, upd_ne h1, upd_ne h2]
    show W (.ref C) (some dx) σ (upd (del _ b) dx (.xd [(f, y)]))
    rw [e1]
    have hds : Hs1 dx = none := S1.sub.free hdx
    refine k1 _ (some dx) σ _ _ (S1.new (o := .xd [(f, y)]) hdx) ⟨C, hC, rfl, .inr ⟨by simp, dx, [y], rfl, ?_, ?_⟩⟩
    · rw [F.fl, upd_same]; rfl
    · have r2 := rp_mono (Same.new (o := .xd [(f, y)]) hds) d y r1
      show RpL G (upd Hs1 dx (.xd [(f, y)])) [d] [y]
      rw [RpL]
      exact ⟨y, [], rfl, r2, by rw [RpL]⟩
end
/-! the field of an exception that is kept -/
/-- what its class must say -/
structure XvF (G : Glob) (c : Nat) (f : Str) : Prop where
  fl : G.flds c = [f]
  ex : ∃ C, G.cls c = some C ∧ PySem.W.findIn G.K (.ref C) "__getattribute__" = some (some (.builtin "BaseException.__getattribute__")) ∧ PySem.W.findIn G.K (.ref C) "__getattr__" = some none ∧ PySem.W.subIn G.K (.ref C) (.type "BaseException") = some true ∧ PySem.W.hasDictIn G.K C = true ∧ PySem.W.findIn G.K (.ref C) f = some none
def fXf (c : Nat) (fe : En → Rs D) : En → Rs D := fun ρ => (fe ρ).bind fun d ρ1 => match d with
  | .fn c' [x] => if c' = c then .ok x ρ1 else .bad
  | _ => .bad
theorem je_xf {X : Cx} {G : Glob} {a : Act} {W : WX} {e : Expr} {f : Str} {fe : En → Rs D} {c : Nat} {pos : Pos} (F : XvF G c f) (EG : ExG G) (g : X.K = G.K) (h : JE X G a W e fe) (hb : attributeBase e f X.env (eval e X.env) = eval e X.env := by rfl) : JE X G a W (.Attribute e f pos) (fXf c fe) := by
  refine ⟨fun pins s σ H Q I hq => ?_⟩
  obtain ⟨ρ, ts, Hs, S, k⟩ := hq
  refine attr_of hb (thn (h.run pins s σ H _ I ⟨ρ, ts, Hs, S, Po.bind (R := Rp G) k⟩) fun u s1 hh => ?_)
  obtain ⟨v, H1, I1, rv, d, ρ1, Hs1, S1, s1', s2', r1, k1⟩ := hh
  cases d with
  | fn c' xs =>
    cases xs with
    | nil => exact False.elim k1
    | cons x0 l =>
      cases l with
      | cons x1 l => exact False.elim k1
      | nil =>
        by_cases hc : c' = c
        · simp only [if_pos hc] at k1
          subst hc
          obtain ⟨C, hC, ga, gg, exC, hdC, hno⟩ := F.ex
          rw [Rp] at r1
          obtain ⟨vs, r2, r3⟩ := r1
          obtain ⟨b, d, C', rfl, hC', hb', hd⟩ := (EG.fnr hC).mp r2
          rw [hC] at hC'
          cases hC'
          rw [RpL] at r3
          obtain ⟨y, rest, rfl, ry, r4⟩ := r3
          rw [RpL] at r4
          subst r4
          rcases hd with ⟨z, _⟩ | ⟨_, dx, rfl, hx⟩
          · cases z
          rw [F.fl] at hx
          obtain rfl : u = Value.ref b := rv
          obtain ⟨oe, od, J, hl⟩ := exv_at I1.hok (S1.sub _ _ hb') (fun dx' e1 => by cases e1; exact ⟨_, S1.sub _ _ hx⟩)
          obtain ⟨ob, u', rfl, hu, ru⟩ := hl dx _ f y rfl (S1.sub _ _ hx) (by show List.lookup f [(f, y)] = some y; simp [List.lookup])
          rw [← g] at ga gg exC hdC hno
          exact HandSPX.exc_get I1.kIn J ga gg exC (PySem.W.findObj_own hdC hno rfl hu) (handed_of ru) ⟨y, H1, I1.tok _, ru, k1 _ Hs1 H1 S1 (Same.refl _) (Kp.refl _) ry⟩
        · simp only [if_neg hc] at k1
          exact False.elim k1
  | _ => exact False.elim k1
/-- such a class as the text tells it -/
structure XiT (G : Glob) (mg : Str → Option Value) (x : Str) (c : Nat) (f B qual : Str) (st : Stmt) : Prop where
  ex : ∃ C fI fd BA, G.cls c = some C ∧ mg x = some (.ref C) ∧ OexC G.K C ∧ PySem.W.findIn G.K (.ref C) "__init__" = some (some (.ref fI)) ∧ PySem.W.typeIn G.K (.ref fI) = some (.type "function") ∧ Fun G.K "__init__" qual st fI fd ∧ Binds G.K fd ["self", f] [] ∧ PySem.W.findIn G.K (.ref C) f = some none ∧
    mg B = some (.ref BA) ∧ PySem.W.specialIn G.K (.ref BA) "__getattribute__" = some (some (.builtin "type.__getattribute__")) ∧ PySem.W.readsIn G.K BA (.type "type") = true ∧ PySem.W.findCls G.K (.ref BA) (.type "type") "__init__" = some (.val (.builtin "ValueError.__init__"))
  fl : G.flds c = [f]
theorem xi_mk {G : Glob} {P : Program} {w : World} {mg : Str → Option Value} {base : Heap} {x f B qual m : Str} {c : Nat} {st : Stmt} (d : XiT G mg x c f B qual st) (S : FnScope ["self", f] ["self", f] (defScope st))
    (hb : ∀ (BA fA : Addr) (cdv : Value) (A : Around) (outer : List Env) (s : Shared) (H : Hp) (E : XK), mg B = some (.ref BA) → PySem.W.specialIn G.K (.ref BA) "__getattribute__" = some (some (.builtin "type.__getattribute__")) → PySem.W.readsIn G.K BA (.type "type") = true →
      PySem.W.findCls G.K (.ref BA) (.type "type") "__init__" = some (.val (.builtin "ValueError.__init__")) →
      PSs (cxOf CX0 P w G.K mg base ["self", f] qual (defScope st) fA cdv A outer s H E).nox (defBody st) (tSeq (tDrop (tVeI G.K (tCons (tVar 0) (tCons (tC (.str m)) tNil)))) (tOst G.K f (tVar 0) (tVar 1)))) : XiF G P w mg base x c f := by
  obtain ⟨C, fI, fd, BA, h1, h2, h3, h4, h5, h6, h7, h8, h9, h10, h11, h12⟩ := d.ex
  exact ⟨⟨C, fI, fd, h1, h2, h3, h4, h5, init_ok h6 S (fun C' e => e ▸ ⟨h3, h8⟩) (fun cdv A outer s H E => hb BA fI cdv A outer s H E h9 h10 h11 h12), h7⟩, d.fl⟩
/-- the classes' addresses and fields; exceptions may be kept -/
def glV (K : PySem.W.Frag) (l : List (Nat × Addr)) (fl : List (Nat × List Str)) : Glob := ⟨K, fun c => l.lookup c, fun c => (fl.lookup c).getD [], exFn (fun c => l.lookup c) (fun c => (fl.lookup c).getD []), exFn_mono, exFn_ref, fun _ _ => False, fun h => h.elim, []⟩
theorem exG_glV {K : PySem.W.Frag} {l : List (Nat × Addr)} {fl : List (Nat × List Str)} : ExG (glV K l fl) := ⟨fun _ => Iff.rfl⟩
section
variable {yes no cs kids : List Nat} {i j c c' : Nat} {fb : En → Ro} {fe : En → Rs D} {ρ : En} {e : Ex} {o : O} {d x : D} {xs : List D}
def kTV (yes no : List Nat) (i j : Nat) : Ro → Ro
  | .exc e ρ1 => if e.c ∈ yes then .nxt ((ρ1.set j (some (.stb (.fn e.c e.fs)))).set i none) else if e.c ∈ no then .exc e ρ1 else .bad
  | r => r
@[simp] theorem fTryV_eq : fTryV yes no i j fb ρ = kTV yes no i j (fb ρ) := nr rfl
@[simp] theorem kTV_nxt : kTV yes no i j (.nxt ρ) = .nxt ρ := nr rfl
@[simp] theorem kTV_ret : kTV yes no i j (.ret o ρ) = .ret o ρ := nr rfl
@[simp] theorem kTV_exc : kTV yes no i j (.exc e ρ) = if e.c ∈ yes then .nxt ((ρ.set j (some (.stb (.fn e.c e.fs)))).set i none) else if e.c ∈ no then .exc e ρ else .bad := nr rfl
def kRI (c : Nat) : Rs D → Ro
  | .ok d ρ => .exc ⟨c, [d]⟩ ρ
  | .exc e ρ => .exc e ρ
  | .bad => .bad
@[simp] theorem fRaiseI_eq : fRaiseI c fe ρ = kRI c (fe ρ) := by
  unfold fRaiseI
  cases fe ρ <;> rfl
@[simp] theorem kRI_ok : kRI c (.ok d ρ) = .exc ⟨c, [d]⟩ ρ := nr rfl
def kIV (cs kids : List Nat) : Rs D → Rs D
  | .ok d ρ1 => (match d with
    | .fn c _ => if c ∈ cs then .ok (.bl (decide (c ∈ kids))) ρ1 else .bad
    | _ => .bad)
  | .exc e ρ => .exc e ρ
  | .bad => .bad
@[simp] theorem fIsV_eq : fIsV cs kids fe ρ = kIV cs kids (fe ρ) := by
  unfold fIsV
  cases fe ρ with
  | ok d ρ1 => cases d <;> rfl
  | exc e ρ1 => rfl
  | bad => rfl
@[simp] theorem kIV_fn : kIV cs kids (.ok (.fn c xs) ρ) = if c ∈ cs then .ok (.bl (decide (c ∈ kids))) ρ else .bad := nr rfl
def kIVT (cs : List Nat) : Rs D → Rs D
  | .ok d ρ1 => (match d with
    | .fn c _ => if c ∈ cs then .ok (.bl true) ρ1 else .bad
    | _ => .bad)
  | .exc e ρ => .exc e ρ
  | .bad => .bad
@[simp] theorem fIsVT_eq : fIsVT cs fe ρ = kIVT cs (fe ρ) := by
  unfold fIsVT
  cases fe ρ with
  | ok d ρ1 => cases d <;> rfl
  | exc e ρ1 => rfl
  | bad => rfl
@[simp] theorem kIVT_fn : kIVT cs (.ok (.fn c xs) ρ) = if c ∈ cs then .ok (.bl true) ρ else .bad := nr rfl
def kXf (c : Nat) : Rs D → Rs D
  | .ok d ρ1 => (match d with
    | .fn c' [x] => if c' = c then .ok x ρ1 else .bad
    | _ => .bad)
  | .exc e ρ => .exc e ρ
  | .bad => .bad
@[simp] theorem fXf_eq : fXf c fe ρ = kXf c (fe ρ) := by
  unfold fXf
  cases fe ρ with
  | ok d ρ1 =>
    cases d with
    | fn n l =>
      cases l with
      | nil => rfl
      | cons y l => cases l <;> rfl
    | _ => rfl
  | exc e ρ1 => rfl
  | bad => rfl
@[simp] theorem kXf_fn : kXf c (.ok (.fn c' [x]) ρ) = if c' = c then .ok x ρ else .bad := nr rfl
end
/-! wide products -/
def dMulX : D → D → Option D
  | .int i, .int j => if Builtin.Int.intBits i + Builtin.Int.intBits j ≤ 100000000 then some (.int (i * j)) else none
  | _, _ => none
theorem opd_mulX {G : Glob} : OpD G (rI CMulX fun i j => .int (i * j)) dMulX := by
  intro Hs H d1 d2 d v1 v2 Q sub r1 r2 hg k
  cases d1 <;> cases d2 <;> first | (simp [dMulX] at hg; done) | skip
  simp only [dMulX] at hg
  split at hg
  · rename_i hl
    cases hg
    rw [Rp] at r1 r2
    exact ⟨_, _, r1, r2, (show (Builtin.Int.intBits _ : Int) + (Builtin.Int.intBits _ : Int) ≤ 134217728 by omega), k _ Hs H Gr.rfl (by rw [Rp])⟩
  · cases hg
end Lf

namespace Lf
open PySem PySem.Spec PyProof.Rows L2

/-! defs with defaults -/
structure DefOkD (K : PySem.W.Frag) (mg : Str → Option Value) (x : Str) (st : Stmt) (ps : List Str) (dvs : List V) : Prop where
  ex : ∃ fA fd ds, FunX K x x st fA fd ∧ mg x = some (.ref fA) ∧ PySem.W.keepIn K (.ref fA) = true ∧ Binds K fd ps [] ∧ Vals dvs ds ∧ Binds K fd ps ds
/-- a def that may be called without its last arguments dd -/
structure CalD (G : Glob) (P : Program) (w : World) (mg : Str → Option Value) (base : Heap) (x : Str) (k na : Nat) (dd : List D) (Fm : List O → Rf) : Prop where
  ex : ∃ fA fd ps ds dvs, FnOk P w G.K mg base (L2N.CX P w) k fA fd ps (SpF G na 0 Fm) ∧ mg x = some (.ref fA) ∧ PySem.W.keepIn G.K (.ref fA) = true ∧ Binds G.K fd ps ds ∧ Vals dvs ds ∧ ∀ Hs, RpL G Hs dd dvs
theorem defokd_mk {K : PySem.W.Frag} {h : Heap} {mg : Str → Option Value} {x : Str} {st : Stmt} {ps : List Str} {f T : Addr} {oc : Value} {od an : Option Addr} {osl : Array (Option Value)} {kV doc pm cdv ct : Value} {dvs : List V} {o : Obj} {its : List Value} {m : Nat} (n : Nat) (X : K.In h) (G : h.Ns mainGlobals mg)
    (a : PySem.W.nsIn K mainGlobals x = some (some (.ref f))) (l : K.lookup f = some ⟨oc, od, .func (PySem.W.fnOf x x (defArgs st) (defBody st) (defScope st) (.ref T) kV doc pm an cdv ct), osl⟩)
    (c : PySem.W.codeIn K cdv x = true) (k : PySem.W.keepIn K (.ref f) = true) (hd : dvs ≠ []) (lT : K.lookup T = some o) (oT : o.data = .seq its.toArray m) (rT : Vals dvs its) (hn : n + dvs.length = ps.length)
    (h0 : ∀ (T : Addr) (kV doc pm : Value) (an : Option Addr) (cdv ct : Value) (us its : List Value), us.length = n → its.length = dvs.length →
      ∃ k, bindArgs (PySem.W.fnOf x x (defArgs st) (defBody st) (defScope st) (.ref T) kV doc pm an cdv ct) ⟨us, []⟩ = seqItems? (.ref T) >>= k ∧ k (some its.toArray) = pure (ps.zip (us ++ its.drop 0)))
    (h1 : ∀ (T : Addr) (kV doc pm : Value) (an : Option Addr) (cdv ct : Value) (us its : List Value), us.length = ps.length → its.length = dvs.length →
      ∃ k, bindArgs (PySem.W.fnOf x x (defArgs st) (defBody st) (defScope st) (.ref T) kV doc pm an cdv ct) ⟨us, []⟩ = seqItems? (.ref T) >>= k ∧ k (some its.toArray) = pure (ps.zip (us ++ its.drop dvs.length))) : DefOkD K mg x st ps dvs := by
  have F : FunD K x x (defArgs st) (defBody st) (defScope st) dvs [] f _ := ⟨⟨oc, od, .ref T, kV, doc, pm, an, cdv, ct, osl, rfl, l, c, .inr ⟨hd, T, o, its, m, rfl, lT, oT, rT⟩, .inl rfl⟩, k⟩
  obtain ⟨ds, v0, b0⟩ := F.binds1 n 0 hd (by omega) h0
  obtain ⟨es, v1, b1⟩ := F.binds1 ps.length dvs.length hd (by omega) h1
  rw [List.drop_length] at v1
  cases v1
  exact ⟨f, _, ds, ⟨oc, od, _, kV, doc, pm, an, cdv, ct, osl, rfl, l, c⟩, PySem.W.mg_of X G a, k, b1, v0, b0⟩
section
variable {P : Program} {w : World} {mg : Str → Option Value} {base : Heap} {G : Glob} {x : Str} {st : Stmt} {N ps : List Str} {k : Nat} {f : En → Ro} {dvs : List V} {dd : List D}
theorem cald_mk (d : DefOkD G.K mg x st ps dvs) (S : FnScope N ps (defScope st))
    (hb : ∀ (fA : Addr) (cdv : Value) (A : Around) (outer : List PySem.Env) (s : Shared) (H : Hp) (E : XK) (a : Act), Room k (A.deeper (envOfC x (defScope st) s.heap.objs.size fA cdv)) → a.pv.length = 0 →
      JB (cxOf (L2N.CX P w) P w G.K mg base N x (defScope st) fA cdv A outer s H E) G a (fun c d _ H => E c d H) (defBody st) f) (hd : ∀ Hs, RpL G Hs dd dvs) :
    Cal G P w mg base x (k + 1) ps.length (mkF 0 N.length f) ∧ CalD G P w mg base x (k + 1) ps.length dd (mkF 0 N.length f) := by
  obtain ⟨fA, fd, ds, F, hm, kp, b, v, bd⟩ := d.ex
  have FO := fn_defX (P := P) (w := w) (mg := mg) (base := base) (np := 0) F S (Nat.zero_le _) (hb fA)
  exact ⟨⟨fA, fd, ps, FO, hm, kp, b⟩, ⟨fA, fd, ps, ds, dvs, FO, hm, kp, bd, v, hd⟩⟩
end
/-- arguments, the defaults behind them -/
def fDfl (dd : List D) (fa : En → Rs (List D)) : En → Rs (List D) := fun ρ => (fa ρ).bind fun xs ρ1 => .ok (xs ++ dd) ρ1
theorem rpl_app2 {G : Glob} {Hs : Hp} : ∀ {ds : List D} {vs : List V} {es : List D} {ws : List V}, RpL G Hs ds vs → RpL G Hs es ws → RpL G Hs (ds ++ es) (vs ++ ws)
  | [], vs, es, ws, h, k => by
    rw [RpL] at h
    subst h
    exact k
  | d :: r, vs, es, ws, h, k => by
    rw [RpL] at h
    obtain ⟨v, rest, rfl, q, t⟩ := h
    rw [List.cons_append, RpL]
    exact ⟨v, rest ++ ws, rfl, q, rpl_app2 t k⟩
section
variable {X : Cx} {G : Glob} {a : Act} {W : WX} {e : Expr} {es : List Expr} {fa : En → Rs (List D)} {x : Str} {k j na : Nat} {Fm : List O → Rf} {dd : List D} {p pos : Pos}
theorem jo_callD (c : CalD G X.prog X.w X.mg X.base x k na dd Fm) (g : X.K = G.K) (hr : Room j X.A) (hk : k ≤ j) (tk : L2N.Takes X W) (hg : Gl X x) (ha : JA X G a W (e :: es) fa) (hdb : (x == ("__debug__" : Str)) = false := by decide)
    (he : starEach (e :: es) X.env = (false, eval e X.env) :: starEach es X.env := by rfl) (hpl : (backTo pos (starEach es X.env)).any (·.1) = false := by rfl) : JO X G a W (.Call (.Name x p) (e :: es) [] pos) (fCalO Fm na (fDfl dd fa)) := by
  obtain ⟨fA, fd, ps, ds, dvs, F, hm, kp, b, v, hd⟩ := c.ex
  rw [← g] at F kp b
  refine (pe_callSD (F.mono hk) hr hg hm kp b v (fun σ => L2N.passAt tk σ) ha hdb he hpl).imp fun σ H Q ⟨ρ, ts, Hs, S, k⟩ => ⟨ρ, ts, Hs, S, ?_⟩
  have k' : PoO G a W ts σ Hs H Q ((fa ρ).bind fun xs ρ1 => if (xs ++ dd).length = na then ofRf (Fm ((xs ++ dd).map .stb)) ρ1 else .bad) := by
    have e1 : fCalO Fm na (fDfl dd fa) ρ = (fa ρ).bind fun xs ρ1 => if (xs ++ dd).length = na then ofRf (Fm ((xs ++ dd).map .stb)) ρ1 else .bad := by
      unfold fCalO fDfl
      cases fa ρ <;> rfl
    rw [← e1]
    exact k
  refine (Po.bindO (R := RpL G) k').mono ?_
  rintro vs H1 ⟨ds1, ρ1, Hs1, S1, s1, s2, r1, k1⟩
  exact call_end S1 (rpl_app2 r1 (hd Hs1)) k1
end
section
variable {fa : En → Rs (List D)} {dd xs : List D} {ρ : En}
def kDfl (dd : List D) : Rs (List D) → Rs (List D)
  | .ok xs ρ1 => .ok (xs ++ dd) ρ1
  | .exc e ρ => .exc e ρ
  | .bad => .bad
@[simp] theorem fDfl_eq : fDfl dd fa ρ = kDfl dd (fa ρ) := by
  unfold fDfl
  cases fa ρ <;> rfl
@[simp] theorem kDfl_ok : kDfl dd (.ok xs ρ) = .ok (xs ++ dd) ρ := nr rfl
end
end Lf

namespace Lf
open PySem PySem.Spec PyProof.Rows L2 NdefX

/-! functions as values -/
/-- a captured cell that holds w -/
def CellV (c : Addr) (w : V) : HO := .ext fun h => ∃ u, L2.RelV w u ∧ h.IsCell c (some u)
theorem cellV_ok {P : Program} {wd : World} {H : Hp} {h : Heap} {c : Addr} {w : V} {u : Value} (r : L2.RelV w u) (e : h.IsCell c (some u)) : ObjOk P wd H h c (CellV c w) := by
  obtain ⟨o, ho, hd⟩ := e
  exact ⟨⟨u, r, o, ho, hd⟩, ⟨o, ho⟩, fun _ _ ⟨u', r', o', h', d'⟩ k => ⟨u', r', o', k o' h', d'⟩⟩
theorem cellV_at {P : Program} {wd : World} {H : Hp} {h : Heap} {c : Addr} {w : V} (hok : HOk P wd H h) (e : H c = some (CellV c w)) : ∃ u, L2.RelV w u ∧ h.IsCell c (some u) := by
  have q : ObjOk P wd H h c (.ext fun h => ∃ u, L2.RelV w u ∧ h.IsCell c (some u)) := hok c _ e
  exact q.1
/-- a def within a def, as the text tells it: its words, parameters, captured names -/
structure NDef where
  st : Stmt
  name : Str
  qual : Str
  ps : List Str
  fr : List Str
abbrev NDef.nf (d : NDef) (cl : List (Str × Addr)) (c : Addr) : NF := NF.of d.st d.name d.qual cl c
/-- v is such a function, its captured cells hold vs -/
def fnFn (d : NDef) (Hs : Hp) (vs : List V) (v : V) : Prop := ∃ (f c : Addr) (cl : List (Str × Addr)) (as : List Addr), v = .ref f ∧ Hs f = some (FnO f (d.nf cl c)) ∧ Hs c = some (LamX.CodeO c d.qual) ∧ as.length = d.fr.length ∧ vs.length = d.fr.length ∧ as.Nodup ∧
  (∀ y, cl.lookup y = (d.fr.zip as).lookup y) ∧ (d.fr = [] → cl = []) ∧ ∀ (i : Nat) (a : Addr) (w : V), as[i]? = some a → vs[i]? = some w → Hs a = some (CellV a w)
theorem fnFn_mono {d : NDef} {H H' : Hp} {vs : List V} {v : V} (s : Same H H') (h : fnFn d H vs v) : fnFn d H' vs v := by
  obtain ⟨f, c, cl, as, e, h1, h2, h3, h4, h5, h6, h7, h8⟩ := h
  exact ⟨f, c, cl, as, e, s _ _ h1, s _ _ h2, h3, h4, h5, h6, h7, fun i a w p q => s _ _ (h8 i a w p q)⟩
theorem fnFn_ref {d : NDef} {H : Hp} {vs : List V} {v : V} (h : fnFn d H vs v) : ∃ a, v = .ref a := by
  obtain ⟨f, _, _, _, e, _⟩ := h
  exact ⟨f, e⟩
/-! the heap without some cells, and with them again -/
def delL (as : List Addr) (H : Hp) : Hp := fun b => if b ∈ as then none else H b
def reT (as : List Addr) (H H' : Hp) : Hp := fun b => if b ∈ as then H b else H' b
theorem delL_in {as : List Addr} {H : Hp} {b : Addr} (h : b ∈ as) : delL as H b = none := if_pos h
theorem delL_out {as : List Addr} {H : Hp} {b : Addr} (h : b ∉ as) : delL as H b = H b := if_neg h
theorem reT_in {as : List Addr} {H H' : Hp} {b : Addr} (h : b ∈ as) : reT as H H' b = H b := if_pos h
theorem reT_out {as : List Addr} {H H' : Hp} {b : Addr} (h : b ∉ as) : reT as H H' b = H' b := if_neg h
section
variable {X : Cx} {pins : List (Addr × Obj)} {σ : L2.St} {H H' : Hp} {s s' : Shared} {as : List Addr}
theorem inv_del (I : Inv X pins σ H s) (h : ∀ a ∈ as, ∃ w, H a = some (CellV a w)) : Inv X pins σ (delL as H) s := by
  have nT : ∀ b xs, H b = some (.tup xs) → b ∉ as := fun b xs e hb => by
    obtain ⟨w, q⟩ := h b hb
    rw [q] at e; cases e
  have nF : ∀ b o u, H b = some (.frz o u) → b ∉ as := fun b o u e hb => by
    obtain ⟨w, q⟩ := h b hb
    rw [q] at e; cases e
  have nB : ∀ b ps, H b = some (.tbl ps) → b ∉ as := fun b ps e hb => by
    obtain ⟨w, q⟩ := h b hb
    rw [q] at e; cases e
  have nO : ∀ b c, H b = some (.own c) → b ∉ as := fun b c e hb => by
    obtain ⟨w, q⟩ := h b hb
    rw [q] at e; cases e
  have nn : ∀ b, H b = none → delL as H b = none := fun b e => by
    by_cases hb : b ∈ as
    · exact delL_in hb
    · rw [delL_out hb, e]
  refine ⟨I.ok, I.os, I.bare, ⟨I.base.keep, I.base.slot, fun b o e n hx => nn b (I.base.free b o e n hx), I.base.there, fun b xs q => ?_, fun b o u q => ?_, fun b ps q => ?_⟩, I.loc, I.cell, nn _ I.free, fun x c e => nn _ (I.freeC x c e), fun p hp => ?_, fun b u e => ?_, I.len⟩
  · have z := I.base.tups b xs q
    rw [delL_out (nT b xs z)]; exact z
  · have z := I.base.frzs b o u q
    rw [delL_out (nF b o u z)]; exact z
  · obtain ⟨m, z⟩ := I.base.tbls b ps q
    exact ⟨m, by rw [delL_out (nB b _ z)]; exact z⟩
  · obtain ⟨e1, n1, r⟩ := I.pin p hp
    exact ⟨e1, nn _ n1, r⟩
  · have hb : b ∉ as := fun z => by rw [delL_in z] at e; cases e
    rw [delL_out hb] at e
    exact (I.hok b u e).stay (fun c v _ q => q) (fun c q => by rw [delL_out (nO c b q)]; exact q) fun c xs q => by rw [delL_out (nT c xs q)]; exact q
theorem inv_reT (I : Inv X pins σ H s) (J : Inv X pins σ H' s') (h : ∀ a ∈ as, ∃ w, H a = some (CellV a w)) (hn : ∀ a ∈ as, H' a = none) (hk : ∀ a ∈ as, ∀ o, s.heap.get? a = some o → s'.heap.get? a = some o) : Inv X pins σ (reT as H H') s' := by
  have nI : ∀ b u, H' b = some u → b ∉ as := fun b u e hb => by
    rw [hn b hb] at e; cases e
  have nn : ∀ b, H b = none → H' b = none → reT as H H' b = none := fun b e e' => by
    by_cases hb : b ∈ as
    · rw [reT_in hb, e]
    · rw [reT_out hb, e']
  refine ⟨J.ok, J.os, J.bare, ⟨J.base.keep, J.base.slot, fun b o e n hx => nn b (I.base.free b o e n hx) (J.base.free b o e n hx), J.base.there, fun b xs q => ?_, fun b o u q => ?_, fun b ps q => ?_⟩, J.loc, J.cell, nn _ I.free J.free, fun x c e => nn _ (I.freeC x c e) (J.freeC x c e), fun p hp => ?_, fun b u e => ?_, J.len⟩
  · have z := J.base.tups b xs q
    rw [reT_out (nI b _ z)]; exact z
  · have z := J.base.frzs b o u q
    rw [reT_out (nI b _ z)]; exact z
  · obtain ⟨m, z⟩ := J.base.tbls b ps q
    exact ⟨m, by rw [reT_out (nI b _ z)]; exact z⟩
  · obtain ⟨_, n1, _⟩ := I.pin p hp
    obtain ⟨e2, n2, r⟩ := J.pin p hp
    exact ⟨e2, nn _ n1 n2, r⟩
  · by_cases hb : b ∈ as
    · rw [reT_in hb] at e
      obtain ⟨w, q⟩ := h b hb
      rw [q] at e
      cases e
      obtain ⟨u, r, o, ho, hd⟩ := cellV_at I.hok q
      exact cellV_ok r ⟨o, hk b hb o ho, hd⟩
    · rw [reT_out hb] at e
      exact (J.hok b u e).stay (fun c v _ q => q) (fun c q => by rw [reT_out (nI c _ q)]; exact q) fun c xs q => by rw [reT_out (nI c _ q)]; exact q
/-- a call of a function that is held as a value, its cells tracked -/
theorem run_nv {CX : CXT} {F : NF} {ps fr : List Str} {sp : List (Option V) → Sp} {f : Addr} {k j : Nat} {us : List Value} {vs ws : List V} {Q : VK} (Fn : NOk X.prog X.w X.K X.mg X.base CX k f F ps fr sp) (hr : Room j X.A) (hk : k ≤ j) (hx : Passes CX X (fun _ _ _ => False)) (I : Inv X pins σ H s)
    (hf : H f = some (FnO f F)) (hc : H F.c = some (LamX.CodeO F.c F.qual)) (la : as.length = fr.length) (lw : ws.length = fr.length) (nd : as.Nodup) (hcl : ∀ y, F.cl.lookup y = (fr.zip as).lookup y) (nfr : fr.Nodup) (hw : ∀ (i : Nat) (a : Addr) (w : V), as[i]? = some a → ws[i]? = some w → H a = some (CellV a w))
    (r : Vals vs us) (q : sp (ws.map some) vs (delL as H) (fun v H' => (∀ a ∈ as, H' a = none) → Q v (reT as H H')) (fun _ _ _ => False)) : wpAny (model X.prog X.w) X.A (call (.ref f) us) (EP X pins σ Q) X.xe s := by
  have hc0 : ∀ a ∈ as, ∃ w, H a = some (CellV a w) := fun a ha => by
    obtain ⟨i, hi⟩ := List.mem_iff_getElem?.mp ha
    have hl : i < as.length := (List.getElem?_eq_some_iff.mp hi).1
    have hw' : ws[i]? = some ws[i] := List.getElem?_eq_getElem (by omega)
    exact ⟨_, hw i a _ hi hw'⟩
  have D := inv_del I hc0
  have nx : ∀ {b : Addr} {φ : Heap → Prop}, H b = some (.ext φ) → (∀ w, HO.ext φ ≠ CellV b w) → b ∉ as := fun {b φ} e n hb => by
    obtain ⟨w, z⟩ := hc0 b hb
    rw [e] at z
    exact n w (Option.some.inj z)
  have fa : f ∉ as := fun hb => by
    obtain ⟨w, z⟩ := hc0 f hb
    obtain ⟨od, sl, doc, pm, ctv, ho⟩ := fnO_at I.hok hf
    obtain ⟨u, _, o, ho', hd⟩ := cellV_at I.hok z
    rw [ho] at ho'
    cases ho'
    cases hd
  have ca : F.c ∉ as := fun hb => by
    obtain ⟨w, z⟩ := hc0 F.c hb
    obtain ⟨c', oc, vs', t, e0, h1, h2, h3⟩ := codeO_at I.hok hc
    cases e0
    obtain ⟨u, _, o, ho', hd⟩ := cellV_at I.hok z
    rw [h1] at ho'
    cases ho'
    rw [h2] at hd
    cases hd
  have memz : ∀ y a, (fr.zip as).lookup y = some a → ∃ i, fr[i]? = some y ∧ as[i]? = some a := fun y a e => by
    have hm := PySem.mem_of_lookup e
    obtain ⟨i, hi⟩ := List.mem_iff_getElem?.mp hm
    rw [List.getElem?_zip_eq_some] at hi
    exact ⟨i, hi⟩
  have C : CellsAt F.cl fr (ws.map some) s.heap (delL as H) := by
    refine ⟨by rw [List.length_map]; exact lw, fun y a e => ?_, fun x y a e1 e2 => ?_, fun i y e => ?_⟩
    · rw [hcl] at e
      obtain ⟨i, h1, h2⟩ := memz y a e
      have ha := List.mem_of_getElem? h2
      obtain ⟨w, z⟩ := hc0 a ha
      obtain ⟨u, _, hu⟩ := cellV_at I.hok z
      exact ⟨delL_in ha, _, hu⟩
    · rw [hcl] at e1 e2
      obtain ⟨i, h1, h2⟩ := memz x a e1
      obtain ⟨i', h1', h2'⟩ := memz y a e2
      have hi := (List.getElem?_eq_some_iff.mp h2).1
      have e3 : i = i' := by
        exact (List.getElem?_inj hi nd).mp (h2.trans h2'.symm)
      subst e3
      rw [h1] at h1'
      exact Option.some.inj h1'
    · have hi := (List.getElem?_eq_some_iff.mp e).1
      have ha : as[i]? = some as[i] := List.getElem?_eq_getElem (by omega)
      refine ⟨as[i], ?_, fun v ev => ?_⟩
      · rw [hcl]
        have hm : (y, as[i]) ∈ fr.zip as := by
          refine List.mem_iff_getElem?.mpr ⟨i, ?_⟩
          rw [List.getElem?_zip_eq_some]
          exact ⟨e, ha⟩
        obtain ⟨a', hq⟩ := mem_lookup hm
        obtain ⟨i', h1, h2⟩ := memz y a' hq
        have e3 : i = i' := (List.getElem?_inj (List.getElem?_eq_some_iff.mp e).1 nfr).mp (e.trans h1.symm)
        subst e3
        rw [hq, ← h2, ha]
      · rw [List.getElem?_map] at ev
        cases hv : ws[i]? with
        | none => rw [hv] at ev; cases ev
        | some w =>
          rw [hv] at ev
          cases ev
          exact cellV_at I.hok (hw i _ _ ha hv)
  refine wpAny_call (codeAny_mono (Fn.run X.A X.stack s (delL as H) us vs _ _ (fun _ _ _ => False) (hr.mono hk) D.env0 (by rw [delL_out fa]; exact hf) (by rw [delL_out ca]; exact hc) C r q) fun r s' hq => ?_)
  cases r with
  | error e => exact hx pins σ _ s e s' D hq
  | ok fl =>
    cases fl with
    | ret u =>
      obtain ⟨v, H', os, bare, un, hok', rv, q'⟩ := hq
      have J : Inv X pins σ H' s' := D.call' (ch := []) os un hok' bare (fun b z => absurd z (by simp))
      have hnot : ∀ a ∈ as, a ∉ frs X.stack := fun a ha hm => by
        obtain ⟨w, z⟩ := hc0 a ha
        rcases List.mem_cons.mp (I.stkSub a hm) with e | e
        · rw [e, I.free] at z; cases z
        · obtain ⟨_, o, ho, _⟩ := I.ok.funs.mem e
          have := I.base.free a o ho (I.ok.frf a e) (fun hx => I.ok.exfs a hx e)
          rw [this] at z; cases z
      have live : ∀ a ∈ as, ∃ o, s.heap.get? a = some o := fun a ha => by
        obtain ⟨w, z⟩ := hc0 a ha
        obtain ⟨u, _, o, ho, _⟩ := cellV_at I.hok z
        exact ⟨o, ho⟩
      have gone : ∀ a ∈ as, H' a = none := fun a ha => by
        obtain ⟨o, ho⟩ := live a ha
        exact un.free a o ho (delL_in ha) (by simp)
      exact ⟨v, reT as H H', inv_reT I J hc0 gone (fun a ha o ho => un.keep a o ho (delL_in ha) (hnot a ha) (by simp)), rv, q' gone⟩
    | next => exact False.elim hq
    | brk => exact False.elim hq
    | cont => exact False.elim hq
end
/-! what such a function promises -/
def SpN (G : Glob) (na nc : Nat) (F : List O → Rf) : List (Option V) → Sp := fun ws vs H Q E => ∃ ww : List V, ws = ww.map some ∧ vs.length = na ∧ ww.length = nc ∧ SpF G (na + nc) 0 F (vs ++ ww) H Q E
def NokD (d : NDef) (G : Glob) (P : Program) (w : World) (mg : Str → Option Value) (base : Heap) (k : Nat) (F : List O → Rf) : Prop :=
  ∀ (f c : Addr) (cl : List (Str × Addr)), (d.fr = [] → cl = []) → NOk P w G.K mg base (L2N.CX P w) k f (d.nf cl c) d.ps d.fr (SpN G d.ps.length d.fr.length F)
section
variable {P : Program} {w : World} {K : PySem.W.Frag} {mg : Str → Option Value} {base : Heap} {CX : CXT} {N ps : List Str} {k : Nat} {f : Addr} {sp : List (Option V) → Sp}
/-- a def within a def that captures nothing -/
theorem nokA {F : NF} (hcl : F.cl = []) (S : FnScope N ps F.scope) (hb : ∀ (doc pm ctv : Value) (us : List Value), us.length = ps.length → bindArgs (F.fd doc pm ctv) ⟨us, []⟩ = pure (ps.zip us)) (len : ∀ ws vs H Q E, sp ws vs H Q E → vs.length = ps.length)
    (hbody : ∀ (A : Around) (outer : List Env) (s : Shared) (H : Hp) (vs : List V) (ws : List (Option V)) (Q : VK) (E : XK), Room k (A.deeper (envOfC F.qual F.scope s.heap.objs.size f (.ref F.c))) → ws.length = 0 → sp ws vs H Q E →
      ∃ t, PSs (cxOf CX P w K mg base N F.qual F.scope f (.ref F.c) A outer s H E) F.body t ∧ t { nx := fun _ H' => Q .non H', rt := Q } (L2.start N vs) H) : NOk P w K mg base CX (k + 1) f F ps [] sp := by
  obtain ⟨name, qual, params, body, scope, cl, c⟩ := F
  have hcl' : cl = [] := hcl
  subst hcl'
  refine ⟨len, fun A outer s H us vs ws Q E hr e0 hf hc C r hsp => ?_⟩
  have hl := len _ _ _ _ _ hsp
  have lim : s.heap.NoLimit := e0.mod.nolimit.keeps fun b o e => (e0.bs b o e).1
  obtain ⟨od, sl, doc, pm, ctv, ho⟩ := fnO_at e0.hok hf
  have hkind : ∀ y ∈ ps.zip us, scope.names.lookup y.1 = some .local ∨ (scope.names.lookup y.1 = some .cell ∧ ((cellsFrom (s.heap.objs.size + 1) scope.names []).lookup y.1).isSome = true) := fun ⟨n, v⟩ hy => by
    rcases S.par n (List.of_mem_zip hy).1 with q | q
    · exact .inl q
    · exact .inr ⟨q, PySem.W.cellsFrom_some _ _ _ (.inl q)⟩
  refine codeAny_call_function hr.depth ho rfl S.co S.gen rfl (codeO_at e0.hok hc) ?_
  rw [hb doc pm ctv us (by rw [← r.length]; exact hl)]
  refine wpAny_pure (wpAny_newFunctionEnv_cells S.kind hkind fun env he s1 x => ?_)
  subst he
  refine ⟨lim.keeps x.toInCall.keep, codeAny_func ?_⟩
  obtain ⟨t, ht, hq⟩ := hbody A outer s H vs ws Q E (hr.deeper _) C.len hsp
  have I : Inv (cxOf CX P w K mg base N qual scope f (.ref c) A outer s H E) [] (L2.start N vs) H s1 := inv_start S hr.hd e0 hl r x
  refine wpAny_mono (ht.run [] s1 (L2.start N vs) H _ I hq) (fun fl s' hs => ?_) fun e s' hs => hs
  have fin : ∀ {σ' : L2.St} {H' : Hp} {v : V} {u : Value}, Inv (cxOf CX P w K mg base N qual scope f (.ref c) A outer s H E) [] σ' H' s' → L2.RelV v u → Q v H' → CE outer P w H s Q u s' :=
    fun {σ' H' v u} J rv q => ⟨v, H', J.os, J.bare, J.base, J.hok, rv, q⟩
  cases fl with
  | ret u =>
    obtain ⟨v, σ', H', J, rv, q⟩ := hs
    exact fin J rv q
  | next =>
    obtain ⟨σ', H', J, q⟩ := hs
    exact fin (v := V.non) (u := Value.none) J rfl q
  | brk =>
    obtain ⟨_, _, _, q⟩ := hs
    exact False.elim q
  | cont =>
    obtain ⟨_, _, _, q⟩ := hs
    exact False.elim q
end
section
variable {P : Program} {w : World} {mg : Str → Option Value} {base : Heap} {G : Glob} {N : List Str} {k : Nat} {d : NDef} {fm : En → Ro}
theorem nfnA (hfr : d.fr = []) (S : FnScope N d.ps (C8.fnScope d.st)) (hbi : ∀ (cl : List (Str × Addr)) (c : Addr) (doc pm ctv : Value) (us : List Value), us.length = d.ps.length → bindArgs ((d.nf cl c).fd doc pm ctv) ⟨us, []⟩ = pure (d.ps.zip us))
    (hb : ∀ (f c : Addr) (A : Around) (outer : List Env) (s : Shared) (H : Hp) (E : XK) (a : Act), Room k (A.deeper (envOfC d.qual (C8.fnScope d.st) s.heap.objs.size f (.ref c))) → a.pv.length = 0 →
      JB (cxOf (L2N.CX P w) P w G.K mg base N d.qual (C8.fnScope d.st) f (.ref c) A outer s H E) G a (fun c d _ H => E c d H) (C8.fnBody d.st) fm) :
    NokD d G P w mg base (k + 1) (mkF 0 N.length fm) := fun f c cl hcl => by
  have hN : d.ps.length ≤ N.length := by
    have e := congrArg List.length S.pre
    rw [List.length_take] at e
    omega
  have z := nokA (P := P) (w := w) (K := G.K) (mg := mg) (base := base) (CX := L2N.CX P w) (k := k) (f := f) (F := d.nf cl c) (sp := SpN G d.ps.length d.fr.length (mkF 0 N.length fm)) (hcl hfr) S (hbi cl c) (fun ws vs H Q E ⟨ww, _, h, _⟩ => h) (fun A outer s H vs ws Q E hr hws h => by
    obtain ⟨ww, e, h1, h2, h3⟩ := h
    have hw0 : ww = [] := by
      rw [e, List.length_map] at hws
      exact List.eq_nil_of_length_eq_zero hws
    subst hw0
    rw [List.append_nil, hfr] at h3
    exact def_end (na := d.ps.length) hN (Nat.zero_le _) (fun a ha => hb f c A outer s H E a hr ha) h3)
  rw [hfr] at z ⊢
  exact z
theorem startF_eq {vs ww : List V} : startF N vs (ww.map some) = L2.start N (vs ++ ww) := by
  show vs.map some ++ (ww.map some ++ List.replicate (N.length - vs.length - (ww.map some).length) none) = (vs ++ ww).map some ++ List.replicate (N.length - (vs ++ ww).length) none
  rw [List.length_map, List.length_append, List.map_append, List.append_assoc, Nat.sub_sub]
theorem nfnB (S : NScope N d.ps d.fr (C8.fnScope d.st)) (hbi : ∀ (cl : List (Str × Addr)) (c : Addr) (doc pm ctv : Value) (us : List Value), us.length = d.ps.length → bindArgs ((d.nf cl c).fd doc pm ctv) ⟨us, []⟩ = pure (d.ps.zip us))
    (hb : ∀ (cl : List (Str × Addr)) (f c : Addr) (A : Around) (outer : List Env) (s : Shared) (H : Hp) (E : XK) (a : Act), Room k (A.deeper (envF (d.nf cl c) f s.heap.objs.size)) → a.pv.length = 0 →
      JB (ncx (L2N.CX P w) P w G.K mg base N (d.nf cl c) f A outer s H E) G a (fun c d _ H => E c d H) (C8.fnBody d.st) fm) :
    NokD d G P w mg base (k + 1) (mkF 0 N.length fm) := fun f c cl _ => by
  have hN : d.ps.length + d.fr.length ≤ N.length := by
    have e := congrArg List.length S.pre
    rw [List.length_take, List.length_append] at e
    omega
  refine nok_of S (hbi cl c) (fun ws vs H Q E ⟨ww, _, h, _⟩ => h) fun A outer s H vs ws Q E hr _ _ _ h => ?_
  obtain ⟨ww, rfl, h1, h2, h3⟩ := h
  obtain ⟨t, ht, hq⟩ := def_end (X := ncx (L2N.CX P w) P w G.K mg base N (d.nf cl c) f A outer s H E) hN (Nat.zero_le _) (fun a ha => hb cl f c A outer s H E a hr ha) h3
  exact ⟨t, ht, by rw [startF_eq]; exact hq⟩
end
/-! values without functions do not feel it when cells are not tracked -/
mutual
def noFn : D → Bool
  | .tup xs => noFnL xs
  | .lst xs => noFnL xs
  | .dct kvs => noFnK kvs
  | .obj _ xs => noFnL xs
  | .fn _ _ => false
  | _ => true
def noFnL : List D → Bool
  | [] => true
  | d :: r => noFn d && noFnL r
def noFnP : D × D → Bool
  | (_, d) => noFn d
def noFnK : List (D × D) → Bool
  | [] => true
  | p :: r => noFnP p && noFnK r
end
section
variable {G : Glob} {Hs : Hp} {as : List Addr}
theorem del_at (hc : ∀ a ∈ as, ∃ w, Hs a = some (CellV a w)) {b : Addr} {o : HO} (e : Hs b = some o) (n : ∀ φ, o ≠ .ext φ) : delL as Hs b = some o := by
  rw [delL_out fun hb => ?_]
  · exact e
  · obtain ⟨w, z⟩ := hc b hb
    rw [e] at z
    exact n _ (Option.some.inj z)
mutual
theorem rp_del (hc : ∀ a ∈ as, ∃ w, Hs a = some (CellV a w)) : ∀ (d : D) (v : V), noFn d = true → Rp G Hs d v → Rp G (delL as Hs) d v
  | .non, v, _, h => by simpa only [Rp] using h
  | .bl _, v, _, h => by simpa only [Rp] using h
  | .int _, v, _, h => by simpa only [Rp] using h
  | .str _, v, _, h => by simpa only [Rp] using h
  | .ty _, v, _, h => by simpa only [Rp] using h
  | .tup xs, v, n, h => by
    rw [noFn] at n
    rw [Rp] at h ⊢
    obtain ⟨p, vs, e, q, r⟩ := h
    refine ⟨p, vs, e, ?_, rpl_del hc xs vs n r⟩
    rcases q with (q | ⟨o, q⟩) | q
    · exact .inl (.inl (del_at hc q fun _ z => (nomatch z)))
    · exact .inl (.inr ⟨o, del_at hc q fun _ z => (nomatch z)⟩)
    · exact .inr q
  | .lst xs, v, n, h => by
    rw [noFn] at n
    rw [Rp] at h ⊢
    obtain ⟨p, vs, e, q, r⟩ := h
    exact ⟨p, vs, e, del_at hc q fun _ z => (nomatch z), rpl_del hc xs vs n r⟩
  | .dct kvs, v, n, h => by
    rw [noFn] at n
    rw [Rp] at h ⊢
    obtain ⟨p, o, vs, e, q, r, t⟩ := h
    exact ⟨p, o, vs, e, del_at hc q (G.dck r).2.2.2, r, rpk_del hc kvs vs n t⟩
  | .obj c xs, v, n, h => by
    rw [noFn] at n
    rw [Rp] at h ⊢
    obtain ⟨p, C, dx, vs, e, q, r, l, t⟩ := h
    exact ⟨p, C, dx, vs, e, del_at hc q fun _ z => (nomatch z), r, l, rpl_del hc xs vs n t⟩
  | .fn m xs, v, n, h => by rw [noFn] at n; cases n
  | .scr ns, v, _, h => by
    rw [Rp] at h ⊢
    obtain ⟨p, e, q⟩ := h
    refine ⟨p, e, ?_⟩
    rcases q with (q | ⟨o, q⟩) | q
    · exact .inl (.inl (del_at hc q fun _ z => (nomatch z)))
    · exact .inl (.inr ⟨o, del_at hc q fun _ z => (nomatch z)⟩)
    · exact .inr q
theorem rpl_del (hc : ∀ a ∈ as, ∃ w, Hs a = some (CellV a w)) : ∀ (ds : List D) (vs : List V), noFnL ds = true → RpL G Hs ds vs → RpL G (delL as Hs) ds vs
  | [], vs, _, h => by simpa only [RpL] using h
  | d :: r, vs, n, h => by
    rw [noFnL, Bool.and_eq_true] at n
    rw [RpL] at h ⊢
    obtain ⟨v, rest, e, q, t⟩ := h
    exact ⟨v, rest, e, rp_del hc d v n.1 q, rpl_del hc r rest n.2 t⟩
theorem rpp_del (hc : ∀ a ∈ as, ∃ w, Hs a = some (CellV a w)) : ∀ (p : D × D) (v : V), noFnP p = true → RpP G Hs p v → RpP G (delL as Hs) p v
  | (_, d), v, n, h => by
    rw [noFnP] at n
    rw [RpP] at h ⊢
    exact rp_del hc d v n h
theorem rpk_del (hc : ∀ a ∈ as, ∃ w, Hs a = some (CellV a w)) : ∀ (ds : List (D × D)) (vs : List V), noFnK ds = true → RpK G Hs ds vs → RpK G (delL as Hs) ds vs
  | [], vs, _, h => by simpa only [RpK] using h
  | p :: r, vs, n, h => by
    rw [noFnK, Bool.and_eq_true] at n
    rw [RpK] at h ⊢
    obtain ⟨v, rest, e, q, t⟩ := h
    exact ⟨v, rest, e, rpp_del hc p v n.1 q, rpk_del hc r rest n.2 t⟩
end
end
/-! the call -/
structure NCal (G : Glob) (P : Program) (w : World) (mg : Str → Option Value) (base : Heap) (n k na : Nat) (F : List O → Rf) : Prop where
  ex : ∃ d : NDef, d.ps.length = na ∧ d.fr.Nodup ∧ (∀ {Hs vs v}, G.fnr Hs n vs v → fnFn d Hs vs v) ∧ NokD d G P w mg base k F
def ofRfN (x : Rf) (ρ : En) : Rs O := match x with
  | .ok o _ => .ok o ρ
  | _ => .bad
def fCalN (tab : Nat → Option (List O → Rf)) (na i : Nat) (fa : En → Rs (List D)) : En → Rs O := fun ρ => match ρ[i]? with
  | some (some (.stb (.fn n caps))) => (match tab n with
    | some F => (fa ρ).bind fun ds ρ1 => if ds.length = na ∧ noFnL (ds ++ caps) = true then ofRfN (F ((ds ++ caps).map .stb)) ρ1 else .bad
    | none => .bad)
  | _ => .bad
theorem tabs_del {P : Program} {w : World} {T : List NTab} {H : Hp} {h : Heap} {as : List Addr} (hok : HOk P w H h) (t : TabsN T H) (hc : ∀ a ∈ as, ∃ w, H a = some (CellV a w)) : (∀ p ∈ T, p.1 ∉ as ∧ ∀ c q, H c = some (LamX.CodeO c q) → c ∉ as) ∧ TabsN T (delL as H) := by
  have n1 : ∀ b ps, H b = some (.tbl ps) → b ∉ as := fun b ps e hb => by
    obtain ⟨w, q⟩ := hc b hb
    rw [q] at e; cases e
  have n2 : ∀ c q, H c = some (LamX.CodeO c q) → c ∉ as := fun c q e hb => by
    obtain ⟨w, z⟩ := hc c hb
    obtain ⟨c', oc, vs', t, e0, h1, h2, h3⟩ := codeO_at hok e
    cases e0
    obtain ⟨u, _, o, ho', hd⟩ := cellV_at hok z
    rw [h1] at ho'
    cases ho'
    rw [h2] at hd
    cases hd
  refine ⟨fun p hp => ⟨?_, n2⟩, fun p hp => ?_⟩
  · obtain ⟨ps, h1, _⟩ := t p hp
    exact n1 _ _ h1
  · obtain ⟨ps, h1, h2, h3⟩ := t p hp
    refine ⟨ps, by rw [delL_out (n1 _ _ h1)]; exact h1, h2, fun pos cv hq => ?_⟩
    obtain ⟨c, e1, e2⟩ := h3 pos cv hq
    exact ⟨c, e1, by rw [delL_out (n2 _ _ e2)]; exact e2⟩
section
variable {X : Cx} {G : Glob} {a : Act} {W : WX} {e : Expr} {es : List Expr} {fa : En → Rs (List D)} {x : Str} {k j na i : Nat} {tab : Nat → Option (List O → Rf)} {p pos : Pos}
/-- the state behind such a call -/
theorem ncall_end {na nc : Nat} {F : List O → Rf} {as : List Addr} {ts : Tm} {σ : L2.St} {Hs H : Hp} {ρ : En} {ds caps : List D} {vs ww : List V} {Q : VK} {P : Program} {w : World} {h : Heap} (hok : HOk P w H h) (S : Sta G a ρ ts σ Hs H) (hc : ∀ a ∈ as, ∃ w, Hs a = some (CellV a w)) (r : RpL G Hs ds vs) (rc : RpL G Hs caps ww)
    (hl : ds.length = na) (hlc : caps.length = nc) (nf : noFnL (ds ++ caps) = true) (k : PoO G a W ts σ Hs H Q (ofRfN (F ((ds ++ caps).map .stb)) ρ)) :
    SpN G na nc F (ww.map some) vs (delL as H) (fun v H' => (∀ a ∈ as, H' a = none) → Q v (reT as H H')) (fun _ _ _ => False) := by
  have hcH : ∀ a ∈ as, ∃ w, H a = some (CellV a w) := fun a ha => (hc a ha).imp fun w z => S.sub _ _ z
  obtain ⟨nT, tD⟩ := tabs_del hok S.tabs.1 hcH
  have lv : vs.length = ds.length := (rpl_length r).symm
  have lw : ww.length = caps.length := (rpl_length rc).symm
  refine ⟨ww, rfl, by omega, by omega, delL as Hs, [], (ds ++ caps).map .stb, by rw [List.length_map, List.length_append]; omega, fun b u e => ?_, ⟨tD, fun b ps e => by
    by_cases hb : b ∈ as
    · rw [delL_in hb] at e; cases e
    · rw [delL_out hb] at e; exact S.tabs.2 b ps e⟩, ownl_stb (rpl_del hc _ _ nf (rpl_append r rc)), List.nodup_nil, by simp, ?_⟩
  · have hb : b ∉ as := fun z => by rw [delL_in z] at e; cases e
    rw [delL_out hb] at e ⊢
    exact S.sub _ _ e
  · cases hF : F ((ds ++ caps).map .stb) with
    | bad => rw [hF] at k; exact False.elim k
    | exc ex outs => rw [hF] at k; exact False.elim k
    | ok o outs =>
      rw [hF] at k
      intro v Hs3 H3 f1 f2 s1 s2 kk tb n o1 ow nd hf gone
      have out3 : ∀ b u, Hs3 b = some u → b ∉ as := fun b u e hb => by
        have z := s2 b u e
        rw [gone b hb] at z; cases z
      have t1 : Same Hs (reT as Hs Hs3) := fun b u e => by
        by_cases hb : b ∈ as
        · rw [reT_in hb]; exact e
        · rw [reT_out hb]
          exact s1 b u (by rw [delL_out hb]; exact e)
      have t2 : Same (reT as Hs Hs3) (reT as H H3) := fun b u e => by
        by_cases hb : b ∈ as
        · rw [reT_in hb] at e ⊢; exact S.sub _ _ e
        · rw [reT_out hb] at e ⊢; exact s2 b u e
      have t3 : Kp H (reT as H H3) := fun b u e _ => by
        by_cases hb : b ∈ as
        · rw [reT_in hb]; exact .inl e
        · rw [reT_out hb]
          exact kk b u (by rw [delL_out hb]; exact e) (by simp)
      have t5 : ∀ q ∈ G.tabs, q.1 ∉ as := fun q hq hb => by
        obtain ⟨ps, h1⟩ := tb.at hq
        rw [gone _ hb] at h1; cases h1
      have t4 : Tbs G.tabs (reT as Hs Hs3) (reT as H H3) := ⟨fun q hq => by
        obtain ⟨ps, h1, h2, h3⟩ := tb.1 q hq
        refine ⟨ps, by rw [reT_out (t5 q hq)]; exact h1, h2, fun pos cv hz => ?_⟩
        obtain ⟨c, e1, e2⟩ := h3 pos cv hz
        have n2 : c ∉ as := fun hb => by rw [gone _ hb] at e2; cases e2
        exact ⟨c, e1, by rw [reT_out n2]; exact e2⟩, fun b ps e => by
        by_cases hb : b ∈ as
        · rw [reT_in hb] at e; exact S.tabs.2 b ps e
        · rw [reT_out hb] at e; exact tb.2 b ps e⟩
      have fr3 : Same Hs3 (reT as Hs Hs3) := fun b u e => by rw [reT_out (out3 b u e)]; exact e
      have gth : ∀ b ∈ f2, b ∉ as := fun b hb ha => by
        obtain ⟨u, e, _⟩ := own_there _ _ _ ow b hb
        rw [gone b ha] at e; cases e
      have ow' : Own G (reT as H H3) (reT as Hs Hs3) o v f2 := own_frame fr3 o v f2 (fun b hb => reT_out (gth b hb)) ow
      refine k v _ _ (S.calledO t1 t2 t3 t4 (fun b u e e0 => ?_) ow' (by grind) fun b hb => ?_) t1 t3
      · have hb : b ∉ as := fun hb => by rw [reT_in hb, e0] at e; cases e
        rw [reT_out hb] at e
        rcases n b u e (by rw [delL_out hb]; exact e0) with z | z
        · intro w' e' 
          exact z w' (by rw [delL_out hb]; exact e')
        · cases z
      · have nb := gth b hb
        obtain ⟨z1, z2⟩ := hf b (List.mem_append_right _ hb)
        refine ⟨by rw [reT_out nb]; exact z1, ?_⟩
        rcases z2 with z2 | z2
        · rw [delL_out nb] at z2; exact z2
        · cases z2
theorem jo_callN (T : ∀ n F, tab n = some F → ∃ k, k ≤ j ∧ NCal G X.prog X.w X.mg X.base n k na F) (g : X.K = G.K) (hr : Room j X.A) (tk : L2N.Takes X W) (i : Nat) (ha : JA X G a W (e :: es) fa) (hN : X.N[i]? = some x := by rfl)
    (hv : Vis X.env.scope x := by first | exact Or.inl rfl | exact Or.inr (Or.inl rfl) | exact Or.inr (Or.inr rfl)) (hd : (x == ("__debug__" : Str)) = false := by decide) (hcd : (x == ("__classdict__" : Str)) = false := by decide)
    (he : starEach (e :: es) X.env = (false, eval e X.env) :: starEach es X.env := by rfl) (hpl : (backTo pos (starEach es X.env)).any (·.1) = false := by rfl) : JO X G a W (.Call (.Name x p) (e :: es) [] pos) (fCalN tab na i fa) := by
  refine ⟨fun pins s σ H Q I ⟨ρ, ts, Hs, S, k0⟩ => ?_⟩
  unfold fCalN at k0
  cases hx : ρ[i]? with
  | none => rw [hx] at k0; exact False.elim k0
  | some x0 =>
    cases x0 with
    | none => rw [hx] at k0; exact False.elim k0
    | some o0 =>
      cases o0 with
      | stb d0 =>
        cases d0 with
        | fn n caps =>
          rw [hx] at k0
          obtain ⟨v, g0, hs, ow0⟩ := S.slotO hx
          rw [Own, Rp] at ow0
          obtain ⟨_, cs, hfn, rc⟩ := ow0
          cases ht : tab n with
          | none =>
            simp only [ht] at k0
            exact False.elim k0
          | some F =>
            simp only [ht] at k0
            have k1 : PoO G a W ts σ Hs H Q ((fa ρ).bind fun ds ρ1 => if ds.length = na ∧ noFnL (ds ++ caps) = true then ofRfN (F ((ds ++ caps).map .stb)) ρ1 else .bad) := k0
            obtain ⟨k, hk, nc⟩ := T n F ht
            obtain ⟨d, hna, hnd, hfr, Fn⟩ := nc.ex
            obtain ⟨f, c, cl, as, rfl, h1, h2, h3, h4, h5, h6, h7, h8⟩ := hfr hfn
            have FN := Fn f c cl h7
            rw [← g] at FN
            refine wpAny_Call_Name_kw (thn ((pe_var (pos := p) hN hv hd hcd).run pins s σ H (fun v H1 => v = .ref f ∧ H1 = H) I ⟨.ref f, hs, rfl, rfl⟩) fun u s1 ⟨v, H1, I1, r1, q1⟩ => ?_)
            obtain ⟨ev, eH⟩ := q1
            subst ev
            subst eH
            obtain rfl : u = Value.ref f := r1
            refine PySem.W.callWith_F (first := []) (fnAt_of I1 (S.sub _ _ h1)) (thn (ha.run pos pins s1 σ H1 _ I1 ⟨ρ, ts, Hs, S, Po.bindO (R := RpL G) k1⟩) fun us s2 ⟨vs, H2, I2, r, ⟨ds, ρ1, Hs1, S1, t1, t2, rl, k2⟩⟩ => ⟨fnAt_of I2 (S1.sub _ _ (t1 _ _ h1)), ?_⟩) he hpl
            show wpAny _ _ (call (.ref f) us) _ _ _
            by_cases hcnd : ds.length = na ∧ noFnL (ds ++ caps) = true
            · rw [if_pos hcnd] at k2
              have hc1 : ∀ (i : Nat) (a : Addr) (w : V), as[i]? = some a → cs[i]? = some w → Hs1 a = some (CellV a w) := fun i a w p q => t1 _ _ (h8 i a w p q)
              refine run_nv (as := as) (ws := cs) FN hr hk (fun _ _ _ _ _ _ _ h => ?_) I2 (S1.sub _ _ (t1 _ _ h1)) (S1.sub _ _ (t1 _ _ h2)) h3 h4 h5 h6 hnd (fun i a w p q => S1.sub _ _ (hc1 i a w p q)) r ?_
              · obtain ⟨_, _, _, _, _, _, _, _, _, _, _, _, z⟩ := h
                exact z.elim
              · refine ncall_end I2.hok S1 (fun a ha => ?_) rl (rpl_mono t1 _ _ rc) (by omega) (by rw [← h4, rpl_length rc]) hcnd.2 k2
                obtain ⟨i, hi⟩ := List.mem_iff_getElem?.mp ha
                have hl : i < as.length := (List.getElem?_eq_some_iff.mp hi).1
                have hw' : cs[i]? = some cs[i] := List.getElem?_eq_getElem (by omega)
                exact ⟨_, hc1 i a _ hi hw'⟩
            · rw [if_neg hcnd] at k2
              exact False.elim k2
        | _ => rw [hx] at k0; exact False.elim k0
      | _ => rw [hx] at k0; exact False.elim k0
end
end Lf

namespace Lf
open PySem PySem.Spec PyProof.Rows L2 NdefX

/-! makers: defs that make a def and hand it out -/
/-- a maker as the text tells it, its code object and that one's table; q: the made function's name -/
structure MkD (G : Glob) (mg : Str → Option Value) (base : Heap) (x : Str) (st : Stmt) (ps : List Str) (q : Str) : Prop where
  ex : ∃ (fA : Addr) (fd : FuncData) (mc mP : Addr) (oc : Value) (od : Option Addr) (dV kV dc pm : Value) (an : Option Addr) (ct : Value) (osl : Array (Option Value)),
    fd = PySem.W.fnOf x x (defArgs st) (defBody st) (defScope st) dV kV dc pm an (.ref mc) ct ∧ G.K.lookup fA = some ⟨oc, od, .func fd, osl⟩ ∧ PySem.W.codeIn G.K (.ref mc) x = true ∧
    mg x = some (.ref fA) ∧ PySem.W.keepIn G.K (.ref fA) = true ∧ Binds G.K fd ps [] ∧ LamX.TabB base mg mc mP ∧ (mP, fun _ _ => q) ∈ G.tabs ∧ ∀ p ∈ G.tabs, p.1 = mP → p.2 = fun _ _ => q
/-- plain values all -/
def dsO : List O → Option (List D)
  | [] => some []
  | .stb d :: r => (dsO r).map (d :: ·)
  | _ :: _ => none
def fMkr (n na : Nat) (js : List Nat) : List O → Rf := fun os => match dsO os with
  | some ds => if ds.length = na then .ok (.stb (.fn n (js.map fun j => ds.getD j .non))) [] else .bad
  | none => .bad
theorem dsO_map : ∀ {ds : List D}, dsO (ds.map .stb) = some ds
  | [] => rfl
  | d :: r => by
    show (dsO (r.map .stb)).map (d :: ·) = _
    rw [dsO_map]; rfl
theorem dsO_own {G : Glob} {H Hs : Hp} : ∀ {os : List O} {ds : List D} {vs : List V} {f : List Addr}, dsO os = some ds → OwnL G H Hs os vs f → RpL G Hs ds vs
  | [], ds, vs, f, e, h => by
    cases e
    rw [OwnL] at h
    rw [RpL]
    exact h.1
  | .stb d :: r, ds, vs, f, e, h => by
    have e' : (dsO r).map (d :: ·) = some ds := e
    cases q : dsO r with
    | none => rw [q] at e'; cases e'
    | some l =>
      rw [q] at e'
      cases e'
      rw [OwnL] at h
      obtain ⟨v, rest, f1, f2, rfl, rfl, ow, t⟩ := h
      rw [Own] at ow
      rw [RpL]
      exact ⟨v, rest, rfl, ow.2, dsO_own q t⟩
  | .tup _ :: _, ds, vs, f, e, h => by cases e
  | .lst _ :: _, ds, vs, f, e, h => by cases e
  | .lsl _ :: _, ds, vs, f, e, h => by cases e
  | .dct _ :: _, ds, vs, f, e, h => by cases e
  | .obj _ _ :: _, ds, vs, f, e, h => by cases e
theorem zip_map_look {g : Str → Addr} : ∀ {l : List Str} {y : Str}, (l.zip (l.map g)).lookup y = if y ∈ l then some (g y) else none
  | [], y => by simp [List.lookup]
  | x :: r, y => by
    rw [List.map_cons, List.zip_cons_cons, List.lookup]
    by_cases e : y = x
    · subst e
      simp
    · rw [show (y == x) = false from by simpa using e]
      show (r.zip (r.map g)).lookup y = _
      rw [zip_map_look]
      simp [e]
theorem rpl_getD {G : Glob} {Hs : Hp} : ∀ {ds : List D} {vs : List V} {j : Nat} {v : V}, RpL G Hs ds vs → vs[j]? = some v → Rp G Hs (ds.getD j .non) v
  | [], vs, j, v, h, e => by
    rw [RpL] at h
    subst h
    simp at e
  | d :: r, vs, j, v, h, e => by
    rw [RpL] at h
    obtain ⟨v0, rest, rfl, q, t⟩ := h
    cases j with
    | zero =>
      simp at e
      subst e
      simpa using q
    | succ j =>
      have e' : rest[j]? = some v := by simpa using e
      have z := rpl_getD (j := j) t e'
      simpa using z
theorem rpl_js {G : Glob} {Hs : Hp} {ds : List D} {vs : List V} (h : RpL G Hs ds vs) : ∀ {js : List Nat}, (∀ j ∈ js, j < vs.length) → RpL G Hs (js.map fun j => ds.getD j .non) (js.map fun j => vs.getD j .non)
  | [], _ => by
    rw [List.map_nil, List.map_nil, RpL]
  | j :: r, hj => by
    rw [List.map_cons, List.map_cons, RpL]
    refine ⟨_, _, rfl, rpl_getD h ?_, rpl_js h fun x hx => hj x (List.mem_cons_of_mem _ hx)⟩
    have l := hj j List.mem_cons_self
    rw [List.getD_eq_getElem?_getD, List.getElem?_eq_getElem l]; rfl
theorem un_cells {fs ex : List Addr} {H H1 : Hp} {h h1 : Heap} {as : List Addr} {f : Addr → V} (u : Un fs ex H H1 h h1) (n : ∀ a ∈ as, h.get? a = none) (n1 : ∀ a ∈ as, H1 a = none) : Un fs ex H (fun b => if b ∈ as then some (CellV b (f b)) else H1 b) h h1 :=
  ⟨u.keep, u.slot, fun b o e q hx => by
    show (if b ∈ as then _ else H1 b) = none
    rw [if_neg fun z => by rw [n b z] at e; cases e]
    exact u.free b o e q hx, u.there, fun b xs e => by
    show (if b ∈ as then _ else H1 b) = _
    have z := u.tups b xs e
    rw [if_neg fun q => by rw [n1 b q] at z; cases z]
    exact z, fun b o w e => by
    show (if b ∈ as then _ else H1 b) = _
    have z := u.frzs b o w e
    rw [if_neg fun q => by rw [n1 b q] at z; cases z]
    exact z, fun b ps e => by
    obtain ⟨more, z⟩ := u.tbls b ps e
    refine ⟨more, ?_⟩
    show (if b ∈ as then _ else H1 b) = _
    rw [if_neg fun q => by rw [n1 b q] at z; cases z]
    exact z⟩
theorem hok_cells {P : Program} {w : World} {H1 : Hp} {h : Heap} {as : List Addr} {f : Addr → V} (hk : HOk P w H1 h) (n1 : ∀ a ∈ as, H1 a = none) (hc : ∀ a ∈ as, ∃ u, L2.RelV (f a) u ∧ h.IsCell a (some u)) : HOk P w (fun b => if b ∈ as then some (CellV b (f b)) else H1 b) h := fun b u e => by
  by_cases hb : b ∈ as
  · have e' : some (CellV b (f b)) = some u := by
      have z : (if b ∈ as then some (CellV b (f b)) else H1 b) = some u := e
      rw [if_pos hb] at z
      exact z
    cases e'
    obtain ⟨u', r, z⟩ := hc b hb
    exact cellV_ok r z
  · have e' : H1 b = some u := by
      have z : (if b ∈ as then some (CellV b (f b)) else H1 b) = some u := e
      rw [if_neg hb] at z
      exact z
    have st : ∀ {c : Addr} {v : HO}, H1 c = some v → (if c ∈ as then some (CellV c (f c)) else H1 c) = some v := fun {c v} q => by
      rw [if_neg fun z => by rw [n1 c z] at q; cases q]
      exact q
    exact (hk b u e').stay (fun c v _ q => q) (fun c q => st q) fun c xs q => st q
theorem zip_at {α : Type} : ∀ {as : List Addr} {ws : List α} {i : Nat} {a : Addr} {v : α}, as.Nodup → as[i]? = some a → ws[i]? = some v → (as.zip ws).lookup a = some v
  | [], ws, i, a, v, _, h, _ => by simp at h
  | b :: r, [], i, a, v, _, _, h => by simp at h
  | b :: r, w :: s, 0, a, v, nd, h, h2 => by
    simp at h h2
    subst h h2
    simp [List.lookup]
  | b :: r, w :: s, i + 1, a, v, nd, h, h2 => by
    have h' : r[i]? = some a := by simpa using h
    have hab : a ≠ b := fun z => (List.nodup_cons.mp nd).1 (z ▸ List.mem_of_getElem? h')
    rw [List.zip_cons_cons, List.lookup, show (a == b) = false from by simpa using hab]
    exact zip_at (i := i) (List.nodup_cons.mp nd).2 h' (by simpa using h2)
section
variable {P : Program} {w : World} {mg : Str → Option Value} {base : Heap} {G : Glob} {x : Str} {st : Stmt} {N ps : List Str} {k n i : Nat} {d : NDef} {js : List Nat}
/-- THE RULE for a maker -/
theorem cal_mkr {pos pos2 npos : Pos} (M : MkD G mg base x st ps d.qual) (S : FnScope N ps (defScope st)) (hb : defBody st = [d.st, .Return (some (.Name d.name npos)) pos2])
    (hst : d.st = .FunctionDef d.name (C8.fnArgs d.st) (C8.fnBody d.st) [] none [] (C8.fnScope d.st) none d.name pos) (hq : d.qual = x ++ ".<locals>." ++ d.name) (hi : N[i]? = some d.name) (hil : (defScope st).names.lookup d.name = some .local)
    (hd0 : (C8.fnArgs d.st).defaults = []) (hk0 : (C8.fnArgs d.st).kw_defaults = []) (han : ∀ env : Env, annTrees (C8.fnArgs d.st) none env = [])
    (hfn : d.fr.Nodup) (hf1 : ∀ y ∈ (C8.fnScope d.st).names, y.2 = .free → y.1 ∈ d.fr) (hf2 : ∀ y ∈ d.fr, (y, NameKind.free) ∈ (C8.fnScope d.st).names) (hf3 : ∀ y ∈ d.fr, (defScope st).names.lookup y = some .cell)
    (hjs : js.map (fun j => N[j]?) = d.fr.map some) (hjl : ∀ j ∈ js, j < ps.length) (hji : i ∉ js) (hfr : ∀ {Hs vs v}, fnFn d Hs vs v → G.fnr Hs n vs v)
    (hdb : (d.name == ("__debug__" : Str)) = false := by decide) (hdc : (d.name == ("__classdict__" : Str)) = false := by decide) :
    Cal G P w mg base x (k + 1) ps.length (fMkr n ps.length js) := by
  obtain ⟨fA, fd, mc, mP, oc, od, dV, kV, dc, pm, an, ct, osl, rfl, lk, hcd, hmg, hkp, hbd, TB, hmP, hu⟩ := M.ex
  refine ⟨fA, _, ps, ⟨fun vs H Q E h => ?_, fun A outer s H args us vs Q E hr e0 hbn r hsp => ?_⟩, hmg, hkp, hbd⟩
  · obtain ⟨Hs, io, os, hl, _, _, ow, _⟩ := h
    rw [← hl, ownl_length ow]
  · obtain ⟨Hs, io, os, hl0, sub, tb, ow, nd, hio, po⟩ := hsp
    have hl : vs.length = ps.length := by rw [← hl0, ownl_length ow]
    cases hds : dsO os with
    | none => simp only [fMkr, hds] at po; exact False.elim po
    | some ds =>
      have rds : RpL G Hs ds vs := dsO_own hds ow
      have hld : ds.length = ps.length := by rw [rpl_length rds, hl]
      simp only [fMkr, hds, if_pos hld] at po
      have KX : G.K.In s.heap := e0.mod.kin.keeps fun b o e => (e0.bs b o e).1
      have lim : s.heap.NoLimit := e0.mod.nolimit.keeps fun b o e => (e0.bs b o e).1
      have hkind : ∀ y ∈ ps.zip us, (defScope st).names.lookup y.1 = some .local ∨ ((defScope st).names.lookup y.1 = some .cell ∧ ((cellsFrom (s.heap.objs.size + 1) (defScope st).names []).lookup y.1).isSome = true) := fun ⟨n, v⟩ hy => by
        rcases S.par n (List.of_mem_zip hy).1 with q | q
        · exact .inl q
        · exact .inr ⟨q, PySem.W.cellsFrom_some _ _ _ (.inl q)⟩
      refine codeAny_call_function hr.depth (KX _ _ lk) rfl S.co S.gen rfl (PySem.W.codeRec_of KX hcd) (hbn _ _ _ _ ?_)
      refine wpAny_newFunctionEnv_cells S.kind hkind fun env he s1 xc => ?_
      subst he
      refine ⟨lim.keeps xc.toInCall.keep, codeAny_func ?_⟩
      have I : Inv (cxOf (L2N.CX P w) P w G.K mg base N x (defScope st) fA (.ref mc) A outer s H E) [] (L2.start N vs) H s1 := inv_start S hr.hd e0 hl r xc
      rw [hb]
      have hqx : (cxOf (L2N.CX P w) P w G.K mg base N x (defScope st) fA (.ref mc) A outer s H E).env.qual ++ d.name = d.qual := hq.symm
      have hfree : ∀ y ∈ (C8.fnScope d.st).names, y.2 = .free → (defScope st).names.lookup y.1 = some .cell ∨ (defScope st).names.lookup y.1 = some .free := fun y hy e => .inl (hf3 _ (hf1 y hy e))
      refine wpAny_execs_cons (wpAny_mono ((ps_ndefMS (X := cxOf (L2N.CX P w) P w G.K mg base N x (defScope st) fA (.ref mc) A outer s H E) (T := G.tabs) (i := i) hst TB rfl hmP hqx.symm hu hfree hd0 hk0 (han _) S.nd hi (.inl hil) (.inr hil)).run [] s1 (L2.start N vs) H
        { nx := fun σ' H1 => ∃ f c', σ' = (L2.start N vs).set i (some (.ref f)) ∧ LamX.ExtN H H1 ∧ (∀ b, H1 b = none → H b = none) ∧ TabsN G.tabs H1 ∧ H f = none ∧ H1 f = some (FnO f (d.nf (cloFrom (cellsFrom (s.heap.objs.size + 1) (defScope st).names []) (C8.fnScope d.st).names []) c')) ∧ H1 c' = some (LamX.CodeO c' d.qual), rt := fun _ _ => False } I ⟨tb.1, ?_⟩) ?_ ?_)
      · intro f c' H1 e1 e2 e3 e4 e5 e6
        rw [hqx] at e5 e6
        exact ⟨f, c', rfl, e1, e2, e3, e4, e5, e6⟩
      · intro fl s2 h2
        cases fl with
        | ret u =>
          obtain ⟨_, _, _, _, _, z⟩ := h2
          exact False.elim z
        | brk =>
          obtain ⟨_, _, _, z⟩ := h2
          exact False.elim z
        | cont =>
          obtain ⟨_, _, _, z⟩ := h2
          exact False.elim z
        | next =>
          obtain ⟨σ', H1, J, f, c', rfl, e1, e2, e3, e4, e5, e6⟩ := h2
          have hsl : ((L2.start N vs).set i (some (.ref f)))[i]? = some (some (.ref f)) := by
            have hlt : i < (L2.start N vs).length := by rw [I.len]; exact (List.getElem?_eq_some_iff.mp hi).1
            rw [List.getElem?_set_self hlt]
          refine wpAny_execs_cons (wpAny_Return_some (thn ((pe_var (pos := npos) (i := i) hi (.inl hil) hdb hdc).run [] s2 _ H1 (fun v H2 => v = .ref f ∧ H2 = H1) J ⟨.ref f, hsl, rfl, rfl⟩) fun u s3 ⟨v, H2, J3, r3, ev, eH⟩ => ?_))
          subst ev
          subst eH
          obtain rfl : u = Value.ref f := r3
          have hC : ∀ y ∈ d.fr, ∃ c, (cellsFrom (s.heap.objs.size + 1) (defScope st).names []).lookup y = some c := fun y hy => cell_has (hf3 y hy)
          let cel : Str → Addr := fun y => ((cellsFrom (s.heap.objs.size + 1) (defScope st).names []).lookup y).getD 0
          have hcel : ∀ y ∈ d.fr, (cellsFrom (s.heap.objs.size + 1) (defScope st).names []).lookup y = some (cel y) := fun y hy => by
            obtain ⟨c, e⟩ := hC y hy
            show _ = some (((cellsFrom (s.heap.objs.size + 1) (defScope st).names []).lookup y).getD 0)
            rw [e]; rfl
          let as : List Addr := d.fr.map cel
          let ww : List V := js.map fun j => vs.getD j .non
          have lnd : as.Nodup := List.pairwise_map.mpr (List.Pairwise.imp_of_mem (fun {y z} hy hz hne e => hne (J3.ok.inj y z (cel y) (hcel y hy) (by rw [e]; exact hcel z hz))) hfn)
          have inAs : ∀ a ∈ as, ∃ y ∈ d.fr, a = cel y := fun a ha => by
            obtain ⟨y, hy, e⟩ := List.mem_map.mp ha
            exact ⟨y, hy, e.symm⟩
          have newC : ∀ a ∈ as, s.heap.get? a = none := fun a ha => by
            obtain ⟨y, hy, rfl⟩ := inAs a ha
            have z := xc.above y _ (PySem.mem_of_lookup (hcel y hy))
            cases q : s.heap.get? (cel y) with
            | none => rfl
            | some o => exact absurd (Heap.lt_size q) (Nat.not_lt.mpr (Nat.le_of_lt z))
          have unT : ∀ a ∈ as, H2 a = none := fun a ha => by
            obtain ⟨y, hy, rfl⟩ := inAs a ha
            exact J3.freeC y _ (hcel y hy)
          have unH : ∀ a ∈ as, H a = none := fun a ha => e2 a (unT a ha)
          have ljs : js.length = d.fr.length := by
            have z := congrArg List.length hjs
            rw [List.length_map, List.length_map] at z
            exact z
          have vals : ∀ (m : Nat) (a : Addr) (v : V), as[m]? = some a → ww[m]? = some v → ∃ u, L2.RelV v u ∧ s3.heap.IsCell a (some u) := fun m a v h1 h2 => by
            have h1' : (d.fr.map cel)[m]? = some a := h1
            have h2' : (js.map fun j => vs.getD j .non)[m]? = some v := h2
            rw [List.getElem?_map] at h1' h2'
            cases hy : d.fr[m]? with
            | none => rw [hy] at h1'; cases h1'
            | some y =>
              cases hj : js[m]? with
              | none => rw [hj] at h2'; cases h2'
              | some j =>
                rw [hy] at h1'; rw [hj] at h2'
                cases h1'; cases h2'
                have hym := List.mem_of_getElem? hy
                have hjm := List.mem_of_getElem? hj
                have hjv : j < vs.length := by rw [hl]; exact hjl j hjm
                have hNj : N[j]? = some y := by
                  have z := congrArg (fun l => l[m]?) hjs
                  simp only [List.getElem?_map, hj, hy] at z
                  exact Option.some.inj z
                have hne : i ≠ j := fun z => hji (z ▸ hjm)
                have hst : ((L2.start N vs).set i (some (.ref f)))[j]? = some (some (vs.getD j .non)) := by
                  rw [List.getElem?_set_ne hne]
                  unfold L2.start
                  rw [List.getElem?_append_left (by rw [List.length_map]; exact hjv), List.getElem?_map, List.getElem?_eq_getElem hjv, List.getD_eq_getElem?_getD, List.getElem?_eq_getElem hjv] <;> rfl
                obtain ⟨mm, hn, hlk⟩ := J3.loc
                obtain ⟨u, ru, lk2⟩ := hlk j y _ hNj hst (.inr (.inl (hf3 y hym)))
                refine ⟨u, ru, ?_⟩
                rcases lk2 with ⟨z, _⟩ | ⟨_, a', ha', hcell⟩
                · have z' : (defScope st).names.lookup y = some .local := z
                  rw [hf3 y hym] at z'; cases z'
                · have ha2 : (cellsFrom (s.heap.objs.size + 1) (defScope st).names []).lookup y = some a' := ha'
                  rw [hcel y hym] at ha2
                  cases ha2
                  exact hcell
          let gv : Addr → V := fun a => ((as.zip ww).lookup a).getD .non
          have lww : ww.length = d.fr.length := by show (js.map _).length = _; rw [List.length_map, ljs]
          have las : as.length = d.fr.length := List.length_map _
          have hgv : ∀ (m : Nat) (a : Addr) (v : V), as[m]? = some a → ww[m]? = some v → gv a = v := fun m a v h1 h2 => by
            show ((as.zip ww).lookup a).getD .non = v
            rw [zip_at lnd h1 h2]; rfl
          have hcs : ∀ a ∈ as, ∃ u, L2.RelV (gv a) u ∧ s3.heap.IsCell a (some u) := fun a ha => by
            obtain ⟨m, hm⟩ := List.mem_iff_getElem?.mp ha
            have hlt := (List.getElem?_eq_some_iff.mp hm).1
            have hw : ww[m]? = some ww[m] := List.getElem?_eq_getElem (by omega)
            rw [hgv m a _ hm hw]
            exact vals m a _ hm hw
          have cEq : ∀ u, H c' = some u → u = LamX.CodeO c' d.qual := fun u e => by
            by_cases ht : ∃ ps, u = .tbl ps
            · obtain ⟨tp, rfl⟩ := ht
              obtain ⟨more, z⟩ := J3.base.tbls c' tp e
              rw [e6] at z; cases z
            · have z := e1 c' u e fun tp q => ht ⟨tp, q⟩
              rw [e6] at z
              exact (Option.some.inj z).symm
          have fAs : f ∉ as := fun z => by rw [unT f z] at e5; cases e5
          have cAs : c' ∉ as := fun z => by rw [unT c' z] at e6; cases e6
          have cf : c' ≠ f := fun z => by
            rw [z, e5] at e6
            have q := Option.some.inj e6
            obtain ⟨od', sl', dc', pm', ct', z1⟩ := fnO_at J3.hok e5
            obtain ⟨c0, oc0, vs0, t0, z0, z2, z3, _⟩ := codeO_at J3.hok (show H2 f = some (LamX.CodeO f d.qual) from by rw [e5, q])
            cases z0
            rw [z1] at z2; cases z2; cases z3
          let Ht : Hp := fun b => if b ∈ as then some (CellV b (gv b)) else H2 b
          let Hs2 : Hp := fun b => if b ∈ as ∨ b = f ∨ b = c' then Ht b else Hs b
          have htO : ∀ {b}, b ∉ as → Ht b = H2 b := fun hb => if_neg hb
          have htI : ∀ {b}, b ∈ as → Ht b = some (CellV b (gv b)) := fun hb => if_pos hb
          have h2I : ∀ {b}, (b ∈ as ∨ b = f ∨ b = c') → Hs2 b = Ht b := fun hb => if_pos hb
          have h2O : ∀ {b}, ¬ (b ∈ as ∨ b = f ∨ b = c') → Hs2 b = Hs b := fun hb => if_neg hb
          have hs1 : Same Hs Hs2 := fun b u e => by
            by_cases hb : b ∈ as ∨ b = f ∨ b = c'
            · rcases hb with hb | hb | hb
              · have z := sub b u e
                rw [unH b hb] at z; cases z
              · have z := sub b u e
                rw [hb, e4] at z; cases z
              · subst hb
                rw [h2I (.inr (.inr rfl)), htO cAs, e6, cEq u (sub _ _ e)]
            · rw [h2O hb]; exact e
          have hs2 : Same Hs2 Ht := fun b u e => by
            by_cases hb : b ∈ as ∨ b = f ∨ b = c'
            · rw [h2I hb] at e; exact e
            · rw [h2O hb] at e
              rw [htO fun z => hb (.inl z)]
              exact e1 b u (sub b u e) fun tp z => tb.2 b tp (z ▸ e)
          have kp : Kp H Ht := fun b o e _ => by
            have nb : b ∉ as := fun z => by rw [unH b z] at e; cases e
            by_cases ht : ∃ tp, o = .tbl tp
            · refine .inr ⟨ht, ?_⟩
              rw [htO nb]
              cases q : H2 b with
              | none => rw [e2 b q] at e; cases e
              | some u => exact ⟨u, rfl⟩
            · left
              rw [htO nb]
              exact e1 b o e fun tp q => ht ⟨tp, q⟩
          have tb3 : Tbs G.tabs Hs2 Ht := ⟨fun p hp => by
            obtain ⟨tp, z1, z2, z3⟩ := e3 p hp
            refine ⟨tp, by rw [htO fun z => by rw [unT _ z] at z1; cases z1]; exact z1, z2, fun pos' cv hq' => ?_⟩
            obtain ⟨c0, y1, y2⟩ := z3 pos' cv hq'
            exact ⟨c0, y1, by rw [htO fun z => by rw [unT _ z] at y2; cases y2]; exact y2⟩, fun b tp e => by
            by_cases hb : b ∈ as ∨ b = f ∨ b = c'
            · rw [h2I hb] at e
              rcases hb with hb | hb | hb
              · rw [htI hb] at e; cases e
              · rw [hb, htO fAs, e5] at e; cases e
              · rw [hb, htO cAs, e6] at e; cases e
            · rw [h2O hb] at e; exact tb.2 b tp e⟩
          have fn : fnFn d Hs2 ww (.ref f) := by
            refine ⟨f, c', cloFrom (cellsFrom (s.heap.objs.size + 1) (defScope st).names []) (C8.fnScope d.st).names [], as, rfl, by rw [h2I (.inr (.inl rfl)), htO fAs]; exact e5, by rw [h2I (.inr (.inr rfl)), htO cAs]; exact e6, las, lww, lnd, fun y => ?_, fun hz => ?_, fun m a v p q => ?_⟩
            · have hfe : ∀ y ∈ (C8.fnScope d.st).names, y.2 = .free → ∃ c, (cellsFrom (s.heap.objs.size + 1) (defScope st).names []).lookup y.1 = some c := fun y hy e => hC _ (hf1 y hy e)
              show _ = (d.fr.zip (d.fr.map cel)).lookup y
              rw [zip_map_look]
              by_cases hy : y ∈ d.fr
              · rw [if_pos hy]
                exact clo_has hfe (hf2 y hy) (hcel y hy)
              · rw [if_neg hy]
                cases e : (cloFrom (cellsFrom (s.heap.objs.size + 1) (defScope st).names []) (C8.fnScope d.st).names []).lookup y with
                | none => rfl
                | some c =>
                  rcases cloFrom_mem (PySem.mem_of_lookup e) with hm | ⟨h1, _⟩
                  · cases hm
                  · exact absurd (hf1 _ h1 rfl) hy
            · refine List.eq_nil_iff_forall_not_mem.mpr fun p hp => ?_
              rcases cloFrom_mem hp with hm | ⟨h1, _⟩
              · cases hm
              · have z := hf1 _ h1 rfl
                rw [hz] at z; cases z
            · have ha := List.mem_of_getElem? p
              rw [h2I (.inl ha), htI ha, hgv m a v p q]
          refine ⟨.ref f, Ht, J3.os, J3.bare, un_cells J3.base newC unT, hok_cells J3.hok unT hcs, rfl, ?_⟩
          refine po (.ref f) Hs2 Ht [] [] hs1 hs2 (fun b o e hb => kp b o e (by simp)) tb3 (fun b u e e0 => ?_) (by rw [List.take_zero, OwnL]; exact ⟨rfl, rfl⟩) ?_ (by simp) (by simp)
          · left
            by_cases hb : b ∈ as ∨ b = f ∨ b = c'
            · rcases hb with hb | hb | hb
              · exact .of (unH b hb)
              · exact .of (by rw [hb]; exact e4)
              · subst hb
                intro v ev ow
                rw [cEq v ev] at ow
                exact ow.2 _ rfl
            · rw [h2O hb, e0] at e; cases e
          · rw [Own, Rp]
            exact ⟨rfl, ww, hfr fn, rpl_mono hs1 _ _ (rpl_js rds fun j hj => by rw [hl]; exact hjl j hj)⟩
      · exact fun e s' hs => hs
end
end Lf

namespace Lf
open PySem PySem.Spec PyProof.Rows L2 NdefX

/-! functions by number, from a hundred on -/
def ndFn (nds : List (Nat × NDef)) (Hs : Hp) (n : Nat) (vs : List V) (v : V) : Prop := ∃ d, nds.lookup n = some d ∧ fnFn d Hs vs v
def glFn (cls : Nat → Option Addr) (flds : Nat → List Str) (nds : List (Nat × NDef)) (Hs : Hp) (n : Nat) (vs : List V) (v : V) : Prop := if n < 100 then exFn cls flds Hs n vs v else ndFn nds Hs n vs v
theorem glFn_mono {cls : Nat → Option Addr} {flds : Nat → List Str} {nds : List (Nat × NDef)} {H H' : Hp} {n : Nat} {cs : List V} {v : V} (s : Same H H') (h : glFn cls flds nds H n cs v) : glFn cls flds nds H' n cs v := by
  unfold glFn at h ⊢
  split at h
  · rw [if_pos ‹_›]; exact exFn_mono s h
  · rw [if_neg ‹_›]; exact h.imp fun d z => ⟨z.1, fnFn_mono s z.2⟩
theorem glFn_ref {cls : Nat → Option Addr} {flds : Nat → List Str} {nds : List (Nat × NDef)} {H : Hp} {n : Nat} {cs : List V} {v : V} (h : glFn cls flds nds H n cs v) : ∃ a, v = .ref a := by
  unfold glFn at h
  split at h
  · exact exFn_ref h
  · obtain ⟨d, _, z⟩ := h
    exact fnFn_ref z
theorem mem_look {α : Type} {c : Nat} {x : α} : ∀ {l : List (Nat × α)}, l.lookup c = some x → (c, x) ∈ l
  | [], h => by cases h
  | (k, y) :: r, h => by
    rw [List.lookup_cons] at h
    cases hb : (c == k) with
    | true =>
      rw [hb] at h
      cases h
      rw [beq_iff_eq] at hb
      subst hb
      exact List.mem_cons_self
    | false =>
      rw [hb] at h
      exact List.mem_cons_of_mem _ (mem_look h)
def glF (K : PySem.W.Frag) (l : List (Nat × Addr)) (fl : List (Nat × List Str)) (nds : List (Nat × NDef)) (T : List NTab) : Glob := ⟨K, fun c => l.lookup c, fun c => (fl.lookup c).getD [], glFn (fun c => l.lookup c) (fun c => (fl.lookup c).getD []) nds, glFn_mono, glFn_ref, fun _ _ => False, fun h => h.elim, T⟩
structure NdF (G : Glob) (n : Nat) (d : NDef) : Prop where
  iff : ∀ {Hs : Hp} {vs : List V} {v : V}, G.fnr Hs n vs v ↔ fnFn d Hs vs v
section
variable {K : PySem.W.Frag} {l : List (Nat × Addr)} {fl : List (Nat × List Str)} {nds : List (Nat × NDef)} {T : List NTab}
theorem exG_glF (h : l.all (fun p => p.1 < 100) = true) : ExG (glF K l fl nds T) := ⟨fun {Hs c vs v D} e => by
  have hc : c < 100 := by
    have m := mem_look (show l.lookup c = some D from e)
    have z := List.all_eq_true.mp h _ m
    simpa using z
  show glFn _ _ nds Hs c vs v ↔ _
  unfold glFn
  rw [if_pos hc]
  exact Iff.rfl⟩
theorem ndF_glF {n : Nat} {d : NDef} (e : nds.lookup n = some d) (h : 100 ≤ n) : NdF (glF K l fl nds T) n d := ⟨fun {Hs vs v} => by
  show glFn _ _ nds Hs n vs v ↔ _
  unfold glFn
  rw [if_neg (by omega)]
  exact ⟨fun ⟨d', e', z⟩ => by
    rw [e] at e'
    cases e'
    exact z, fun z => ⟨d, e, z⟩⟩⟩
end
theorem tab_u : ∀ {T : List NTab} {P : Addr} {q : Nat → Nat → Str}, (T.map (·.1)).Nodup → (P, q) ∈ T → ∀ p ∈ T, p.1 = P → p.2 = q
  | t :: T, P, q, nd, h, p, hp, e => by
    rw [List.map_cons, List.nodup_cons] at nd
    rcases List.mem_cons.mp h with h | h
    · rcases List.mem_cons.mp hp with hp | hp
      · rw [hp, ← h]
      · exact absurd (List.mem_map.mpr ⟨p, hp, by rw [e, ← h]⟩) nd.1
    · rcases List.mem_cons.mp hp with hp | hp
      · exact absurd (List.mem_map.mpr ⟨_, h, by rw [← e, hp]⟩) nd.1
      · exact tab_u nd.2 h p hp e
theorem mkd_mk {G : Glob} {h : Heap} {mg : Str → Option Value} {base : Heap} {x : Str} {st : Stmt} {ps : List Str} {q : Str} {fA mc mP : Addr} {oc : Value} {od an : Option Addr} {osl : Array (Option Value)} {kV doc pm ct : Value} (X : G.K.In h) (N : h.Ns mainGlobals mg) (a : PySem.W.nsIn G.K mainGlobals x = some (some (.ref fA)))
    (l : G.K.lookup fA = some ⟨oc, od, .func (PySem.W.fnOf x x (defArgs st) (defBody st) (defScope st) .none kV doc pm an (.ref mc) ct), osl⟩) (c : PySem.W.codeIn G.K (.ref mc) x = true) (k : PySem.W.keepIn G.K (.ref fA) = true)
    (hb : ∀ (kV doc pm : Value) (an : Option Addr) (cdv ct : Value) (us : List Value), us.length = ps.length → bindArgs (PySem.W.fnOf x x (defArgs st) (defBody st) (defScope st) .none kV doc pm an cdv ct) ⟨us, []⟩ = pure (ps.zip us))
    (TB : LamX.TabB base mg mc mP) (hm : (mP, fun _ _ => q) ∈ G.tabs) (hu : (G.tabs.map (·.1)).Nodup) : MkD G mg base x st ps q :=
  ⟨fA, _, mc, mP, oc, od, .none, kV, doc, pm, an, ct, osl, rfl, l, c, PySem.W.mg_of X N a, k, (fun_mk l c k).binds hb, TB, hm, tab_u hu hm⟩
/-! the end, with tables -/
theorem walk_ofMk {l : PySem.W.OpenLaw} {n k : Nat} {q : Program} {loose : List Str} {XP : (Str → Option Value) → Heap → Prop} {YP : World → Heap → Prop} {d : DefRec} {K : Params → PySem.W.Frag} {CX : World → CXT} {x : Str}
    (hn : l.most = some n) (hn2 : n ≤ sizeLine) (hdf : d.params.defaults = []) (hr : Room k callerA) (hY : ∀ (w : World) (h : Heap), YP w h → (K w.params).In h)
    (F : ∀ (w : World) (mg : Str → Option Value) (fa : Addr) (h : Heap), YP w h → (K w.params).In h → h.Ns mainGlobals mg → mg d.name = some (.ref fa) → LamX.LawAtS l w (K w.params) (CX w) k n x mg fa h)
    (hCX : ∀ (w : World) (H : Hp) (s : Shared) (e : Value) (s' : Shared), CX w [] H s (fun _ _ _ => False) e s' → False) :
    PySem.W.WalkO q loose XP YP l.row.toRowW d [] (fun f vs => PySem.call f vs) :=
  LamX.walk_ofTs hn hn2 hdf hr hY F hCX
theorem tabsN_of {T : List NTab} {H : Hp} (h : ∀ p ∈ T, H p.1 = some (.tbl #[])) : TabsN T H := fun p hp => TabN.nil (h p hp)
/-! simp -/
section
variable {n na i : Nat} {js : List Nat} {ds caps : List D} {ρ : En} {fa : En → Rs (List D)} {tab : Nat → Option (List O → Rf)} {o : O} {e : Ex}
def kMkr (n na : Nat) (js : List Nat) (ds : List D) : Rf := if ds.length = na then .ok (.stb (.fn n (js.map fun j => ds.getD j .non))) [] else .bad
@[simp] theorem fMkr_eq : fMkr n na js (ds.map .stb) = kMkr n na js ds := by
  unfold fMkr kMkr
  rw [dsO_map]
@[simp] theorem fMkr_nil : fMkr n 0 js [] = .ok (.stb (.fn n (js.map fun j => ([] : List D).getD j .non))) [] := nr rfl
@[simp] theorem fMkr_one {d : D} : fMkr n 1 js [.stb d] = .ok (.stb (.fn n (js.map fun j => [d].getD j .non))) [] := nr rfl
@[simp] theorem fMkr_two {d d2 : D} : fMkr n 2 js [.stb d, .stb d2] = .ok (.stb (.fn n (js.map fun j => [d, d2].getD j .non))) [] := nr rfl
def kCN (tab : Nat → Option (List O → Rf)) (na : Nat) (fa : En → Rs (List D)) (ρ : En) : Option (Option O) → Rs O
  | some (some (.stb (.fn n caps))) => (match tab n with
    | some F => (fa ρ).bind fun ds ρ1 => if ds.length = na ∧ noFnL (ds ++ caps) = true then ofRfN (F ((ds ++ caps).map .stb)) ρ1 else .bad
    | none => .bad)
  | _ => .bad
def kCN2 (na : Nat) (caps : List D) (fa : Rs (List D)) : Option (List O → Rf) → Rs O
  | some F => fa.bind fun ds ρ1 => if ds.length = na ∧ noFnL (ds ++ caps) = true then ofRfN (F ((ds ++ caps).map .stb)) ρ1 else .bad
  | none => .bad
def kCN3 (na : Nat) (caps : List D) (F : List O → Rf) (x : Rs (List D)) : Rs O := x.bind fun ds ρ1 => if ds.length = na ∧ noFnL (ds ++ caps) = true then ofRfN (F ((ds ++ caps).map .stb)) ρ1 else .bad
@[simp] theorem fCalN_eq : fCalN tab na i fa ρ = kCN tab na fa ρ ρ[i]? := nr rfl
@[simp] theorem kCN_fn : kCN tab na fa ρ (some (some (.stb (.fn n caps)))) = kCN2 na caps (fa ρ) (tab n) := nr rfl
@[simp] theorem kCN2_some {F : List O → Rf} {x : Rs (List D)} : kCN2 na caps x (some F) = kCN3 na caps F x := nr rfl
@[simp] theorem kCN3_ok {F : List O → Rf} : kCN3 na caps F (.ok ds ρ) = if ds.length = na ∧ noFnL (ds ++ caps) = true then ofRfN (F ((ds ++ caps).map .stb)) ρ else .bad := nr rfl
@[simp] theorem ofRfN_ok {os : List O} : ofRfN (.ok o os) ρ = .ok o ρ := nr rfl
end
/-- what is handed in holds no function -/
theorem noFnL_map_int {xs : List Int} : noFnL (xs.map .int) = true := by
  induction xs with
  | nil => simp [noFnL]
  | cons x r ih => simp [noFnL, noFn, ih]
theorem noFnL_iff : ∀ {xs : List D}, noFnL xs = true ↔ ∀ x ∈ xs, noFn x = true
  | [] => by simp [noFnL]
  | x :: r => by
    rw [noFnL, Bool.and_eq_true, noFnL_iff]
    simp
/-! list.count -/
def mLCnt (xs : List D) : D → Option D
  | .int k => (intsD xs).map fun ns => .int (ns.count k : Nat)
  | _ => none
def fLC (f1 f2 : En → Rs D) : En → Rs D := fun ρ => (f1 ρ).bind fun d1 ρ1 => match d1 with
  | .lst xs => (f2 ρ1).bind fun d2 ρ2 => lift (mLCnt xs d2) ρ2
  | _ => .bad
section
variable {X : Cx} {G : Glob} {a : Act} {W : WX} {e1 e2 : Expr} {f1 f2 : En → Rs D} {apos pos : Pos}
theorem je_lcount (g : X.K = G.K) (h1 : JE X G a W e1 f1) (h2 : JE X G a W e2 f2)
    (hs : starEach [e2] X.env = (false, eval e2 X.env) :: starEach [] X.env := by rfl) (hbase : attributeBase e1 "count" X.env (eval e1 X.env) = eval e1 X.env := by rfl) (hline : (apos.endLine == pos.line) = true := by rfl)
    (hfew : ((backTo pos (starEach [e2] X.env)).all (fun x => !x.1) && (backToKw pos (keywordEach [] X.env)).all (fun x => x.1.isSome)
      && decide ([e2].length + ([] : List Keyword).length + (if ([] : List Keyword).isEmpty then 0 else 1) < 30)) = true := by rfl) (hpl : (backTo pos (starEach [] X.env)).any (·.1) = false := by rfl) :
    JE X G a W (.Call (.Attribute e1 "count" apos) [e2] [] pos) (fLC f1 f2) := by
  refine (pe_bm PySem.F.plainAttrs_list PySem.F.slot_list_count PySem.F.type_list_count mt_lcount h1 (pa_cons h2 pa_nil hs) hbase hfew hline hs hpl).imp fun σ H Q ⟨ρ, ts, Hs, S, k⟩ => ⟨ρ, ts, Hs, S, (Po.bind (R := Rp G) k).mono ?_⟩
  rintro x H1 ⟨d1, ρ1, Hs1, S1, s1, s2, r1, k1⟩
  cases d1 with
  | lst xs =>
    rw [Rp] at r1
    obtain ⟨p, vs, rfl, hp, rl⟩ := r1
    refine ⟨.inl ⟨rfl, vs, .inl (.inl (S1.sub _ _ hp))⟩, ρ1, ts, Hs1, S1, (Po.bind (R := Rp G) k1).mono ?_⟩
    rintro y H2 ⟨d2, ρ2, Hs2, S2, s3, s4, r2, k2⟩
    cases d2 with
    | int i =>
      rw [Rp] at r2
      subst r2
      cases hi : intsD xs with
      | none => simp only [mLCnt, hi] at k2; exact False.elim k2
      | some ns =>
        simp only [mLCnt, hi] at k2
        have e := intsD_eq hi
        subst e
        have ev : vs = ns.map V.int := rpl_ints rl
        subst ev
        exact ⟨p, ns, i, rfl, rfl, .inl (.inl (S2.sub _ _ (s3 _ _ hp))), k2 _ Hs2 H2 S2 (Same.refl _) (Kp.refl _) (by rw [Rp])⟩
    | _ => exact False.elim k2
  | _ => exact False.elim k1
end
section
variable {f1 f2 : En → Rs D} {ρ : En} {xs : List D} {d : D}
def kLC1 (f2 : En → Rs D) (x : Rs D) : Rs D := x.bind fun d1 ρ1 => match d1 with
  | .lst xs => (f2 ρ1).bind fun d2 ρ2 => lift (mLCnt xs d2) ρ2
  | _ => .bad
def kLC2 (xs : List D) (x : Rs D) : Rs D := x.bind fun d2 ρ2 => lift (mLCnt xs d2) ρ2
@[simp] theorem fLC_eq : fLC f1 f2 ρ = kLC1 f2 (f1 ρ) := nr rfl
@[simp] theorem kLC1_ok : kLC1 f2 (.ok (.lst xs) ρ) = kLC2 xs (f2 ρ) := nr rfl
@[simp] theorem kLC2_ok : kLC2 xs (.ok d ρ) = lift (mLCnt xs d) ρ := nr rfl
@[simp] theorem mLCnt_eq {ns : List Int} {k : Int} : mLCnt (ns.map .int) (.int k) = some (.int (ns.count k : Nat)) := by
  unfold mLCnt
  rw [intsD_map]; rfl
end
/-! list(range(n)) -/
def dLrg : D → Option (List D)
  | .int n => if n ≤ 16777216 ∧ -16777216 ≤ n then some (rngD 0 n.toNat) else none
  | _ => none
def fLrg (f : En → Rs D) : En → Rs O := fun ρ => (f ρ).bind fun d ρ1 => lift ((dLrg d).map .lst) ρ1
theorem rpl_rgV {G : Glob} {Hs : Hp} {n : Int} : RpL G Hs (rngD 0 n.toNat) (rgV 0 n) := by
  have e : rngD 0 n.toNat = ((List.range n.toNat).map fun i : Nat => (0 : Int) + (i : Nat)).map D.int := by
    unfold rngD
    rw [List.map_map]
    rfl
  have e2 : rgV 0 n = ((List.range n.toNat).map fun i : Nat => (0 : Int) + (i : Nat)).map V.int := by
    unfold rgV
    rw [List.map_map, Int.sub_zero]
    rfl
  rw [e, e2]
  exact rpl_of_ints _
section
variable {X : Cx} {G : Glob} {a : Act} {W : WX} {e : Expr} {f : En → Rs D} {p p2 pos pos2 : Pos}
theorem jo_lrg (hg : Gl X "list") (hm : X.mg "list" = none) (hg2 : Gl X "range") (hm2 : X.mg "range" = none) (h : JE X G a W e f) (hs : starEach [e] X.env = (false, eval e X.env) :: starEach [] X.env := by rfl)
    (hs2 : starEach [.Call (.Name "range" p2) [e] [] pos2] X.env = (false, eval (.Call (.Name "range" p2) [e] [] pos2) X.env) :: starEach [] X.env := by rfl) (hc : X.calm = true := by rfl) :
    JO X G a W (.Call (.Name "list" p) [.Call (.Name "range" p2) [e] [] pos2] [] pos) (fLrg f) := by
  have z := pe_listRg (p := p) (pos := pos) hc hg hm (prg_1 (p := p2) (pos := pos2) hg2 hm2 h hs) hs2
  refine z.imp fun σ H Q ⟨ρ, ts, Hs, S, k⟩ => ⟨ρ, ts, Hs, S, (Po.bindO (R := Rp G) k).mono ?_⟩
  rintro x H1 ⟨d, ρ1, Hs1, S1, s1, s2, r1, k1⟩
  cases d with
  | int n =>
    rw [Rp] at r1
    subst r1
    refine ⟨n, rfl, ?_⟩
    by_cases hn : n ≤ 16777216 ∧ -16777216 ≤ n
    · have e : dLrg (.int n) = some (rngD 0 n.toNat) := if_pos hn
      rw [e] at k1
      refine ⟨⟨by omega, by omega, by omega, by omega, by omega⟩, fun q hq => ?_⟩
      exact poO_new S1 k1 rfl hq rpl_rgV
    · have e : dLrg (.int n) = none := if_neg hn
      rw [e] at k1
      exact False.elim k1
  | _ => exact False.elim k1
end
def kLrg (x : Rs D) : Rs O := x.bind fun d ρ1 => lift ((dLrg d).map .lst) ρ1
@[simp] theorem fLrg_eq {f : En → Rs D} {ρ : En} : fLrg f ρ = kLrg (f ρ) := nr rfl
@[simp] theorem kLrg_ok {d : D} {ρ : En} : kLrg (.ok d ρ) = lift ((dLrg d).map .lst) ρ := nr rfl
theorem dLrg_int {n : Int} (h : n ≤ 16777216) (h2 : -16777216 ≤ n) : dLrg (.int n) = some (rngD 0 n.toNat) := if_pos ⟨h, h2⟩
/-! what is owned in a slot is let stand for good -/
def fFz (i : Nat) (f : En → Ro) : En → Ro := fun ρ => match ρ[i]? with
  | some (some o) => f (ρ.set i (some (.stb (fr o))))
  | _ => .bad
theorem set_eq {α : Type} {xs : List α} {i : Nat} {x : α} (h : xs[i]? = some x) : xs.set i x = xs := by
  refine List.ext_getElem? fun j => ?_
  rw [List.getElem?_set]
  by_cases hj : i = j
  · subst hj
    rw [if_pos rfl, h, if_pos (List.getElem?_eq_some_iff.mp h).1]
  · rw [if_neg hj]
theorem jb_frz {X : Cx} {G : Glob} {a : Act} {W : WX} {sts : List Stmt} {f : En → Ro} (i : Nat) (hp : a.pv.length ≤ i) (h : JB X G a W sts f) : JB X G a W sts (fFz i f) := by
  refine h.imp fun D σ H ⟨ρ, ts, Hs, S, k⟩ => ?_
  unfold fFz at k
  cases e : ρ[i]? with
  | none => rw [e] at k; exact False.elim k
  | some x =>
    cases x with
    | none => rw [e] at k; exact False.elim k
    | some o =>
      rw [e] at k
      obtain ⟨v, hv, S1⟩ := S.take e
      obtain ⟨Hs', s1, S2, r⟩ := S1.fr
      have S3 := S2.set r hp
      rw [set_eq hv, List.set_set] at S3
      exact ⟨_, ts, Hs', S3, PoS.later k s1⟩
section
variable {ρ : En} {i : Nat} {f : En → Ro} {o : O}
def kFz (i : Nat) (f : En → Ro) (ρ : En) : Option (Option O) → Ro
  | some (some o) => f (ρ.set i (some (.stb (fr o))))
  | _ => .bad
@[simp] theorem fFz_eq : fFz i f ρ = kFz i f ρ ρ[i]? := nr rfl
@[simp] theorem kFz_some : kFz i f ρ (some (some o)) = f (ρ.set i (some (.stb (fr o)))) := nr rfl
end
end Lf

namespace Lf.S
open PySem L2 PyProof.Rows PySem.NumText
noncomputable def b__law_whole : En → Ro :=
  (fRet (fAndV (fCall bIsi (fCons (fVar 0) (fCons (fC (.ty "int")) fNil))) (fNotV (fCall bIsi (fCons (fVar 0) (fCons (fC (.ty "bool")) fNil))))))
noncomputable def F__law_whole : List O → Rf := mkF 0 1 b__law_whole
noncomputable def b_bit : En → Ro :=
  (fRet (fBin dShl (fC (.int 1)) (fVar 0)))
noncomputable def F_bit : List O → Rf := mkF 0 1 b_bit
noncomputable def b_has : En → Ro :=
  (fRet (fBin dEq (fBin dAnd (fBin dShr (fVar 0) (fVar 1)) (fC (.int 1))) (fC (.int 1))))
noncomputable def F_has : List O → Rf := mkF 0 2 b_has
noncomputable def b_number_of : En → Ro :=
  (fSeq (fIf (fOr (fTest (fBin dLt (fCall bLen (fCons (fVar 0) fNil)) (fC (.int 1)))) (fTest (fBin dGt (fCall bLen (fCons (fVar 0) fNil)) (fC (.int 9))))) (fRet (fC .non)) fNxt)
  (fSeq (fFor (gN 1) (fItems (fVar 0)) (fIf (fTest (fBin dNotIn (fVar 1) (fC (.str "0123456789")))) (fRet (fC .non)) fNxt))
  (fSeq (fIf (fAnd (fTest (fBin dEq (fBin dIx (fVar 0) (fC (.int 0))) (fC (.str "0")))) (fTest (fBin dGt (fCall bLen (fCons (fVar 0) fNil)) (fC (.int 1))))) (fRet (fC .non)) fNxt)
  (fRet (fCall bInt (fCons (fVar 0) fNil))))))
noncomputable def F_number_of : List O → Rf := mkF 0 2 b_number_of
noncomputable def b_cabin_of : En → Ro :=
  (fRet (fCall gTupD (fCons (fBin dMul (fC (.int 2)) (fBin dIx (fVar 0) (fC (.int 0)))) (fCons (fC (.int 0)) (fCons (fC (.int 0)) (fCons (fC (.int 0)) (fCons (fCall gTupD fNil) fNil)))))))
noncomputable def F_cabin_of : List O → Rf := mkF 0 1 b_cabin_of
noncomputable def b_need : En → Ro :=
  (fIf (fNot (fTest (fVar 0))) (fRaise 2) fNxt)
noncomputable def F_need : List O → Rf := mkF 0 1 b_need
noncomputable def b_made_lift : En → Ro :=
  (fSeq (fAsg (gTn (gCn (gN 2) (gCn (gN 3) (gCn (gN 4) (gCn (gN 5) gNl)))) 4) (fVar 0))
  (fSeq (fDrop (fFr (fCalO S.F_need 1 (fCons (fChain dLe dLt (fC (.int 0)) (fVar 2) (fVar 1)) fNil))))
  (fSeq (fDrop (fFr (fCalO S.F_need 1 (fCons (fChain dLe dLe (fC (.int 1)) (fVar 3) (fC (.int 6))) fNil))))
  (fSeq (fDrop (fFr (fCalO S.F_need 1 (fCons (fChain dLe dLe (fC (.int 1)) (fVar 4) (fC (.int 4))) fNil))))
  (fSeq (fDrop (fFr (fCalO S.F_need 1 (fCons (fBin dIn (fVar 5) (fC (.tup [(.str "plain"), (.str "hasty"), (.str "slow")]))) fNil))))
  (fRet (fCall gTupD (fCons (fVar 2) (fCons (fVar 3) (fCons (fVar 4) (fCons (fVar 5) fNil)))))))))))
noncomputable def F_made_lift : List O → Rf := mkF 0 6 b_made_lift
noncomputable def E1_made_house : En → Rs D :=
  (fFr (fCalO S.F_made_lift 2 (fCons (fVar 4) (fCons (fVar 0) fNil))))
noncomputable def b_made_house : En → Ro :=
  (fSeq (fDrop (fFr (fCalO S.F_need 1 (fCons (fChain dLe dLe (fC (.int 2)) (fVar 0) (fC (.int 8))) fNil))))
  (fSeq (fDrop (fFr (fCalO S.F_need 1 (fCons (fChain dLe dLe (fC (.int 1)) (fCall bLen (fCons (fVar 1) fNil)) (fC (.int 3))) fNil))))
  (fSeq (fDrop (fFr (fCalO S.F_need 1 (fCons (fChain dLe dLt (fC (.int 0)) (fVar 2) (fFr (fCalO S.F_bit 1 (fCons (fVar 0) fNil)))) fNil))))
  (fSeq (fDrop (fFr (fCalO S.F_need 1 (fCons (fNotV (fFr (fCalO S.F_has 2 (fCons (fVar 2) (fCons (fC (.int 0)) fNil))))) fNil))))
  (fSeq (fDrop (fFr (fCalO S.F_need 1 (fCons (fBin dIn (fVar 3) (fC (.tup [(.str "free"), (.str "way")]))) fNil))))
  (fRet (fCall gTupD (fCons (fVar 0) (fCons (fCall bTuple (fCons (fFr (fLcE (fItems (fVar 1)) (gN 4) fYes E1_made_house [4])) fNil)) (fCons (fVar 2) (fCons (fVar 3) fNil)))))))))))
noncomputable def F_made_house : List O → Rf := mkF 0 5 b_made_house
noncomputable def b__law_cell : En → Ro :=
  (fSeq (fIf (fTest (fBin dLt (fVar 1) (fCall bLen (fCons (fVar 0) fNil)))) (fRet (fBin dIx (fVar 0) (fVar 1))) fNxt)
  (fRet (fC (.int 0))))
noncomputable def F__law_cell : List O → Rf := mkF 0 2 b__law_cell
noncomputable def b__law_draw_v2 : En → Ro :=
  (fRet (fBin dMod (fBin dMod (fBin dAdd (fBin dAdd (fBin dMul (fFr (fCalO S.F__law_cell 2 (fCons (fVar 0) (fCons (fVar 1) fNil)))) (fC (.int 48271))) (fBin dMul (fBin dMul (fC (.int 7919)) (fVar 1)) (fVar 1))) (fC (.int 11))) (fVar 2)) (fVar 3)))
noncomputable def F__law_draw_v2 : List O → Rf := mkF 0 4 b__law_draw_v2
noncomputable def b__law_lift_v2 : En → Ro :=
  (fSeq (fSet 3 (fBin dIx (fCall gLstD (fCons (fC (.str "plain")) (fCons (fC (.str "hasty")) (fCons (fC (.str "slow")) fNil)))) (fFr (fCalO S.F__law_draw_v2 4 (fCons (fVar 0) (fCons (fVar 1) (fCons (fC (.int 10007)) (fCons (fC (.int 3)) fNil))))))))
  (fSeq (fSet 4 (fFr (fCalO S.F__law_draw_v2 4 (fCons (fVar 0) (fCons (fVar 1) (fCons (fC (.int 15013)) (fCons (fVar 2) fNil)))))))
  (fRet (fCall gTupD (fCons (fVar 4) (fCons (fBin dAdd (fC (.int 1)) (fFr (fCalO S.F__law_draw_v2 4 (fCons (fVar 0) (fCons (fVar 1) (fCons (fC (.int 20011)) (fCons (fC (.int 6)) fNil))))))) (fCons (fBin dAdd (fC (.int 1)) (fFr (fCalO S.F__law_draw_v2 4 (fCons (fVar 0) (fCons (fVar 1) (fCons (fC (.int 25013)) (fCons (fC (.int 4)) fNil))))))) (fCons (fVar 3) fNil))))))))
noncomputable def F__law_lift_v2 : List O → Rf := mkF 0 5 b__law_lift_v2
noncomputable def E1__law_house_v2 : En → Rs D :=
  (fFr (fCalO S.F__law_lift_v2 3 (fCons (fVar 0) (fCons (fBin dAdd (fC (.int 2)) (fVar 6)) (fCons (fVar 2) fNil)))))
noncomputable def b__law_house_v2 : En → Ro :=
  (fSeq (fSet 2 (fBin dAdd (fC (.int 2)) (fFr (fCalO S.F__law_draw_v2 4 (fCons (fVar 0) (fCons (fC (.int 0)) (fCons (fC (.int 30011)) (fCons (fC (.int 7)) fNil))))))))
  (fSeq (fSet 3 (fBin dAdd (fC (.int 1)) (fFr (fCalO S.F__law_draw_v2 4 (fCons (fVar 0) (fCons (fC (.int 0)) (fCons (fC (.int 35023)) (fCons (fVar 1) fNil))))))))
  (fSeq (fSet 4 (fBin dMul (fBin dFdv (fFr (fCalO S.F__law_draw_v2 4 (fCons (fVar 0) (fCons (fC (.int 1)) (fCons (fC (.int 40009)) (fCons (fBin dShl (fC (.int 1)) (fVar 2)) fNil)))))) (fC (.int 2))) (fC (.int 2))))
  (fSeq (fIf (fTest (fBin dGt (fFr (fCalO S.F__law_draw_v2 4 (fCons (fVar 0) (fCons (fC (.int 1)) (fCons (fC (.int 45007)) (fCons (fC (.int 3)) fNil)))))) (fC (.int 0)))) (fSet 4 (fC (.int 0))) fNxt)
  (fSeq (fSet 5 (fBin dIx (fCall gLstD (fCons (fC (.str "free")) (fCons (fC (.str "way")) fNil))) (fFr (fCalO S.F__law_draw_v2 4 (fCons (fVar 0) (fCons (fC (.int 1)) (fCons (fC (.int 50021)) (fCons (fC (.int 2)) fNil))))))))
  (fRet (fCall gTupD (fCons (fVar 2) (fCons (fCall bTuple (fCons (fFr (fLc (fWalk gRng1 (fCons (fVar 3) fNil)) (gN 6) fYes E1__law_house_v2 [6])) fNil)) (fCons (fVar 4) (fCons (fVar 5) fNil)))))))))))
noncomputable def F__law_house_v2 : List O → Rf := mkF 0 7 b__law_house_v2
noncomputable def b__law_great : En → Ro :=
  (fSeq (fSet 3 (fBin dAdd (fBin dAdd (fBin dMul (fFr (fCalO S.F__law_cell 2 (fCons (fVar 0) (fCons (fVar 1) fNil)))) (fC (.int 48271))) (fBin dMul (fBin dMul (fC (.int 7919)) (fVar 1)) (fVar 1))) (fC (.int 11))))
  (fRet (fBin dMod (fBin dMulX (fVar 3) (fBin dPow (fC (.int 2305843009213693951)) (fC (.int 4)))) (fBin dAdd (fVar 2) (fC (.int 1))))))
noncomputable def F__law_great : List O → Rf := mkF 0 4 b__law_great
noncomputable def b__law_tag : En → Ro :=
  (fSeq (fSet 2 (fFr (fCalO S.F__law_great 3 (fCons (fVar 0) (fCons (fC (.int 5)) (fCons (fBin dPow (fC (.int 10)) (fC (.int 57))) fNil))))))
  (fSeq (fIf (fTest (fBin dEq (fFr (fCalO S.F__law_draw_v2 4 (fCons (fVar 0) (fCons (fC (.int 5)) (fCons (fC (.int 50021)) (fCons (fC (.int 3)) fNil)))))) (fC (.int 0)))) (fRet (fVar 1)) fNxt)
  (fSeq (fIf (fTest (fBin dEq (fFr (fCalO S.F__law_draw_v2 4 (fCons (fVar 0) (fCons (fC (.int 5)) (fCons (fC (.int 50021)) (fCons (fC (.int 3)) fNil)))))) (fC (.int 1)))) (fRet (fBin dAdd (fBin dMul (fVar 2) (fC (.int 100))) (fVar 1))) fNxt)
  (fRet (fBin dAdd (fBin dMul (fVar 1) (fBin dPow (fC (.int 10)) (fC (.int 58)))) (fVar 2))))))
noncomputable def F__law_tag : List O → Rf := mkF 0 3 b__law_tag
noncomputable def b__law_goals : En → Ro :=
  (fSeq (fSet 4 (fFr (fLrg (fBin dIx (fVar 0) (fC (.int 0))))))
  (fSeq (fIf (fOr (fTest (fBin dEq (fBin dIx (fVar 0) (fC (.int 3))) (fC (.str "free")))) (fTest (fVar 3))) (fRet (fVar 4)) fNxt)
  (fRetO (fLc (fItems (fVar 4)) (gN 5) (fOr (fTest (fBin dEq (fBin dMul (fC (.int 2)) (fVar 5)) (fVar 1))) (fTest (fBin dGt (fBin dMul (fBin dSub (fBin dMul (fC (.int 2)) (fVar 5)) (fVar 1)) (fVar 2)) (fC (.int 0))))) (fVar 5) [5]))))
noncomputable def F__law_goals : List O → Rf := mkF 0 6 b__law_goals
noncomputable def L1__law_cabin : En → Ro :=
  (fSeq (fSet 14 (fBin dIx (fVar 11) (fFr (fCalO S.F__law_draw_v2 4 (fCons (fVar 0) (fCons (fBin dAdd (fBin dAdd (fVar 1) (fC (.int 1))) (fVar 13)) (fCons (fC (.int 40013)) (fCons (fCall bLen (fCons (fVar 11) fNil)) fNil))))))))
  (fDropO (fLm (.slot 12) mApp (fCons (fCall gTupD (fCons (fFr (fCalO S.F__law_tag 2 (fCons (fVar 0) (fCons (fBin dAdd (fBin dMul (fC (.int 6)) (fVar 3)) (fVar 13)) fNil)))) (fCons (fVar 14) fNil))) fNil))))
noncomputable def K2__law_cabin : En → Ro :=
  (fSeq (fIf (fTest (fBin dEq (fBin dMod (fVar 6) (fC (.int 2))) (fC (.int 0)))) (fSet 9 (fFr (fCalO S.F__law_draw_v2 4 (fCons (fVar 0) (fCons (fVar 1) (fCons (fC (.int 30013)) (fCons (fBin dAdd (fBin dIx (fVar 5) (fC (.int 2))) (fC (.int 1))) fNil))))))) fNxt)
  (fSeq (fSet 10 (fBin dIx (fCall gLstD (fCons (fC (.int 0)) (fCons (fC (.int 0)) (fCons (fC (.int 0)) (fCons (fC (.int 1)) (fCons (fC (.int 2)) (fCons (fC (.int 3)) fNil))))))) (fFr (fCalO S.F__law_draw_v2 4 (fCons (fVar 0) (fCons (fVar 1) (fCons (fC (.int 35027)) (fCons (fC (.int 6)) fNil))))))))
  (fSeq (fSet 11 (fFr (fCalO S.F__law_goals 4 (fCons (fVar 2) (fCons (fVar 6) (fCons (fVar 7) (fCons (fVar 4) fNil)))))))
  (fSeq (fSetO 12 (fLstO fNil))
  (fSeq (fFor (gN 13) (fWalk gRng1 (fCons (fVar 8) fNil)) L1__law_cabin)
  (fRet (fBor (fCall gTupD (fCons (fVar 6) (fCons (fVar 7) (fCons (fVar 9) (fCons (fVar 10) (fCons (fCall bTuple (fCons (fVar 12) fNil)) fNil)))))))))))))
noncomputable def b__law_cabin : En → Ro :=
  (fSeq (fSet 5 (fBin dIx (fBin dIx (fVar 2) (fC (.int 1))) (fVar 3)))
  (fSeq (fSet 6 (fFr (fCalO S.F__law_draw_v2 4 (fCons (fVar 0) (fCons (fVar 1) (fCons (fC (.int 10009)) (fCons (fBin dSub (fBin dMul (fC (.int 2)) (fBin dIx (fVar 2) (fC (.int 0)))) (fC (.int 1))) fNil)))))))
  (fSeq (fSet 7 (fBin dSub (fFr (fCalO S.F__law_draw_v2 4 (fCons (fVar 0) (fCons (fVar 1) (fCons (fC (.int 15017)) (fCons (fC (.int 3)) fNil)))))) (fC (.int 1))))
  (fSeq (fSet 8 (fFr (fCalO S.F__law_draw_v2 4 (fCons (fVar 0) (fCons (fVar 1) (fCons (fC (.int 20021)) (fCons (fBin dAdd (fBin dIx (fVar 5) (fC (.int 1))) (fC (.int 1))) fNil)))))))
  (fSeq (fIf (fAnd (fTest (fBin dEq (fVar 7) (fC (.int 0)))) (fOr (fTest (fBin dEq (fBin dMod (fVar 6) (fC (.int 2))) (fC (.int 1)))) (fAnd (fTest (fBin dEq (fBin dIx (fVar 2) (fC (.int 3))) (fC (.str "way")))) (fAnd (fTest (fBin dGt (fVar 8) (fC (.int 0)))) (fNot (fTest (fVar 4))))))) (fSet 7 (fBin dSub (fC (.int 1)) (fBin dMul (fC (.int 2)) (fFr (fCalO S.F__law_draw_v2 4 (fCons (fVar 0) (fCons (fVar 1) (fCons (fC (.int 25031)) (fCons (fC (.int 2)) fNil))))))))) fNxt)
  (fSeq (fSet 9 (fC (.int 0)))
  K2__law_cabin))))))
noncomputable def F__law_cabin : List O → Rf := mkF 0 15 b__law_cabin
noncomputable def b_serving : En → Ro :=
  (fRetO (fLc (fWalk gRng1 (fCons (fCall bLen (fCons (fVar 0) fNil)) fNil)) (gN 1) (fTest (fBin dEq (fBin dIx (fBin dIx (fVar 0) (fVar 1)) (fC (.int 3))) (fC (.int 0)))) (fVar 1) [1]))
noncomputable def F_serving : List O → Rf := mkF 0 2 b_serving
noncomputable def L1_first_least : En → Ro :=
  (fIf (fOr (fTest (fBin dEq (fVar 2) (fUn dNeg (fC (.int 1))))) (fTest (fBin dLt (fBin dIx (fVar 1) (fVar 3)) (fBin dIx (fVar 1) (fVar 2))))) (fSet 2 (fVar 3)) fNxt)
noncomputable def b_first_least : En → Ro :=
  (fSeq (fSet 2 (fUn dNeg (fC (.int 1))))
  (fSeq (fFor (gN 3) (fWalk gRng1 (fCons (fCall bLen (fCons (fVar 0) fNil)) fNil)) L1_first_least)
  (fSeq (fIf (fTest (fBin dEq (fVar 2) (fUn dNeg (fC (.int 1))))) (fRet (fUn dNeg (fC (.int 1)))) fNxt)
  (fRet (fBin dIx (fVar 0) (fVar 2))))))
noncomputable def F_first_least : List O → Rf := mkF 0 4 b_first_least
noncomputable def E1_near_dealer_deal : En → Rs D :=
  (fCall bAbs (fCons (fBin dSub (fBin dIx (fBin dIx (fVar 0) (fVar 6)) (fC (.int 0))) (fBin dMul (fC (.int 2)) (fBin dIx (fVar 2) (fC (.int 1))))) fNil))
noncomputable def b_near_dealer_deal : En → Ro :=
  (fSeq (fSet 4 (fFr (fCalO S.F_serving 1 (fCons (fVar 0) fNil))))
  (fSeq (fSet 5 (fFr (fLc (fItems (fVar 4)) (gN 6) fYes E1_near_dealer_deal [6])))
  (fRet (fCall gTupD (fCons (fFr (fCalO S.F_first_least 2 (fCons (fVar 4) (fCons (fVar 5) fNil)))) (fCons (fVar 3) fNil))))))
noncomputable def F_near_dealer_deal : List O → Rf := mkF 0 7 b_near_dealer_deal
noncomputable def F_near_dealer : List O → Rf := fMkr 100 0 []
noncomputable def E1_least_dealer_deal : En → Rs D :=
  (fBin dAdd (fCall bLen (fCons (fBin dIx (fBin dIx (fVar 0) (fVar 8)) (fC (.int 4))) fNil)) (fLC (fVar 5) (fVar 8)))
noncomputable def b_least_dealer_deal : En → Ro :=
  (fSeq (fSet 4 (fFr (fCalO S.F_serving 1 (fCons (fVar 0) fNil))))
  (fSeq (fSet 5 (fFr (fLc (fItems (fVar 1)) (gN 6) fYes (fBin dIx (fVar 6) (fC (.int 3))) [6])))
  (fSeq (fSet 7 (fFr (fLc (fItems (fVar 4)) (gN 8) fYes E1_least_dealer_deal [8])))
  (fRet (fCall gTupD (fCons (fFr (fCalO S.F_first_least 2 (fCons (fVar 4) (fCons (fVar 7) fNil)))) (fCons (fVar 3) fNil)))))))
noncomputable def F_least_dealer_deal : List O → Rf := mkF 0 9 b_least_dealer_deal
noncomputable def F_least_dealer : List O → Rf := fMkr 101 0 []
noncomputable def L1_behind : En → Ro :=
  (fIf (fTest (fBin dEq (fBin dIx (fBin dIx (fVar 0) (fBin dMod (fBin dAdd (fVar 1) (fVar 3)) (fVar 2))) (fC (.int 3))) (fC (.int 0)))) (fRet (fBin dMod (fBin dAdd (fVar 1) (fVar 3)) (fVar 2))) fNxt)
noncomputable def b_behind : En → Ro :=
  (fSeq (fSet 2 (fCall bLen (fCons (fVar 0) fNil)))
  (fSeq (fFor (gN 3) (fWalk gRng2 (fCons (fC (.int 1)) (fCons (fBin dAdd (fVar 2) (fC (.int 1))) fNil))) L1_behind)
  (fRet (fUn dNeg (fC (.int 1))))))
noncomputable def F_behind : List O → Rf := mkF 0 4 b_behind
noncomputable def b_turns_dealer_deal : En → Ro :=
  (fSeq (fSet 4 (fFr (fCalO S.F_behind 2 (fCons (fVar 0) (fCons (fVar 3) fNil)))))
  (fSeq (fIf (fTest (fBin dEq (fVar 4) (fUn dNeg (fC (.int 1))))) (fRet (fCall gTupD (fCons (fUn dNeg (fC (.int 1))) (fCons (fVar 3) fNil)))) fNxt)
  (fRet (fCall gTupD (fCons (fVar 4) (fCons (fVar 4) fNil))))))
noncomputable def F_turns_dealer_deal : List O → Rf := mkF 0 5 b_turns_dealer_deal
noncomputable def F_turns_dealer : List O → Rf := fMkr 102 0 []
noncomputable def b_at_or_behind : En → Ro :=
  (fSeq (fIf (fTest (fBin dEq (fBin dIx (fBin dIx (fVar 0) (fVar 1)) (fC (.int 3))) (fC (.int 0)))) (fRet (fVar 1)) fNxt)
  (fRetO (fCalO S.F_behind 2 (fCons (fVar 0) (fCons (fVar 1) fNil)))))
noncomputable def F_at_or_behind : List O → Rf := mkF 0 2 b_at_or_behind
noncomputable def b_zone_dealer_deal : En → Ro :=
  (fRet (fCall gTupD (fCons (fFr (fCalO S.F_at_or_behind 2 (fCons (fVar 0) (fCons (fBin dIx (fVar 4) (fBin dIx (fVar 2) (fC (.int 1)))) fNil)))) (fCons (fVar 3) fNil))))
noncomputable def F_zone_dealer_deal : List O → Rf := mkF 0 5 b_zone_dealer_deal
noncomputable def F_zone_dealer : List O → Rf := fMkr 103 1 [0]
noncomputable def L1_lifts_of : En → Ro :=
  (fIf (fOr (fTest (fBin dIs (fVar 4) (fC .non))) (fTest (fBin dGe (fVar 4) (fCall bLen (fCons (fBin dIx (fVar 1) (fC (.int 1))) fNil))))) fBad fNxt)
noncomputable def b_lifts_of : En → Ro :=
  (fSeq (fSet 2 (fFr (fLc (fItems (fVar 0)) (gN 3) fYes (fFr (fCalO S.F_number_of 1 (fCons (fVar 3) fNil))) [3])))
  (fSeq (fFor (gN 4) (fItems (fVar 2)) L1_lifts_of)
  (fRet (fVar 2))))
noncomputable def F_lifts_of : List O → Rf := mkF 0 5 b_lifts_of
noncomputable def b_fixed_dealer_deal : En → Ro :=
  (fRet (fCall gTupD (fCons (fFr (fCalO S.F_at_or_behind 2 (fCons (fVar 0) (fCons (fBin dIx (fVar 4) (fBin dMod (fBin dIx (fVar 2) (fC (.int 0))) (fCall bLen (fCons (fVar 4) fNil)))) fNil)))) (fCons (fVar 3) fNil))))
noncomputable def F_fixed_dealer_deal : List O → Rf := mkF 0 5 b_fixed_dealer_deal
noncomputable def F_fixed_dealer : List O → Rf := fMkr 104 1 [0]
noncomputable def b_dealer_of : En → Ro :=
  (fSeq (fSet 2 (fM1 mSplit (fVar 0) (fC (.str " "))))
  (fSeq (fIf (fTest (fBin dEq (fVar 0) (fC (.str "near")))) (fRetO (fCalO S.F_near_dealer 0 fNil)) fNxt)
  (fSeq (fIf (fTest (fBin dEq (fVar 0) (fC (.str "least")))) (fRetO (fCalO S.F_least_dealer 0 fNil)) fNxt)
  (fSeq (fIf (fTest (fBin dEq (fVar 0) (fC (.str "turns")))) (fRetO (fCalO S.F_turns_dealer 0 fNil)) fNxt)
  (fSeq (fIf (fAnd (fTest (fBin dEq (fBin dIx (fVar 2) (fC (.int 0))) (fC (.str "zone")))) (fTest (fBin dEq (fCall bLen (fCons (fVar 2) fNil)) (fBin dAdd (fBin dIx (fVar 1) (fC (.int 0))) (fC (.int 1)))))) (fRetO (fCalO S.F_zone_dealer 1 (fCons (fFr (fCalO S.F_lifts_of 2 (fCons (fSl (fVar 2) (fPart (fC (.int 1))) fNoP) (fCons (fVar 1) fNil)))) fNil))) fNxt)
  (fSeq (fIf (fAnd (fTest (fBin dEq (fBin dIx (fVar 2) (fC (.int 0))) (fC (.str "fixed")))) (fTest (fChain dLt dLe (fC (.int 1)) (fCall bLen (fCons (fVar 2) fNil)) (fBin dAdd (fC (.int 9)) (fC (.int 1)))))) (fRetO (fCalO S.F_fixed_dealer 1 (fCons (fFr (fCalO S.F_lifts_of 2 (fCons (fSl (fVar 2) (fPart (fC (.int 1))) fNoP) (fCons (fVar 1) fNil)))) fNil))) fNxt)
  fBad))))))
noncomputable def F_dealer_of : List O → Rf := mkF 0 3 b_dealer_of
noncomputable def L1__law_best : En → Ro :=
  (fIf (fAnd (fTest (fBin dEq (fBin dIx (fBin dIx (fVar 0) (fVar 3)) (fC (.int 3))) (fC (.int 0)))) (fOr (fTest (fBin dEq (fVar 2) (fUn dNeg (fC (.int 1))))) (fTest (fBin dLt (fBin dIx (fVar 1) (fVar 3)) (fBin dIx (fVar 1) (fVar 2)))))) (fSet 2 (fVar 3)) fNxt)
noncomputable def b__law_best : En → Ro :=
  (fSeq (fSet 2 (fUn dNeg (fC (.int 1))))
  (fSeq (fFor (gN 3) (fWalk gRng1 (fCons (fCall bLen (fCons (fVar 0) fNil)) fNil)) L1__law_best)
  (fRet (fVar 2))))
noncomputable def F__law_best : List O → Rf := mkF 0 4 b__law_best
noncomputable def E1__law_near_v2 : En → Rs D :=
  (fCall bAbs (fCons (fBin dSub (fBin dIx (fVar 2) (fC (.int 0))) (fBin dMul (fC (.int 2)) (fVar 1))) fNil))
noncomputable def b__law_near_v2 : En → Ro :=
  (fRetO (fCalO S.F__law_best 2 (fCons (fVar 0) (fCons (fFr (fLc (fItems (fVar 0)) (gN 2) fYes E1__law_near_v2 [2])) fNil))))
noncomputable def F__law_near_v2 : List O → Rf := mkF 0 3 b__law_near_v2
noncomputable def E1__law_least : En → Rs D :=
  (fBin dAdd (fCall bLen (fCons (fBin dIx (fBin dIx (fVar 0) (fVar 4)) (fC (.int 4))) fNil)) (fLC (fVar 2) (fVar 4)))
noncomputable def b__law_least : En → Ro :=
  (fSeq (fSet 2 (fFr (fLc (fItems (fVar 1)) (gN 3) fYes (fBin dIx (fVar 3) (fC (.int 3))) [3])))
  (fRetO (fCalO S.F__law_best 2 (fCons (fVar 0) (fCons (fFr (fLc (fWalk gRng1 (fCons (fCall bLen (fCons (fVar 0) fNil)) fNil)) (gN 4) fYes E1__law_least [4])) fNil)))))
noncomputable def F__law_least : List O → Rf := mkF 0 5 b__law_least
noncomputable def b__law_pair_is : En → Ro :=
  (fSeq (fIf (fOr (fNot (fTest (fCall bIsi (fCons (fVar 0) (fCons (fC (.ty "tuple")) fNil))))) (fTest (fBin dNe (fCall bLen (fCons (fVar 0) fNil)) (fC (.int 2))))) (fRet (fC (.bl false))) fNxt)
  (fRet (fAndV (fFr (fCalO S.F__law_whole 1 (fCons (fBin dIx (fVar 0) (fC (.int 0))) fNil))) (fAndV (fFr (fCalO S.F__law_whole 1 (fCons (fBin dIx (fVar 0) (fC (.int 1))) fNil))) (fBin dEq (fVar 0) (fVar 1))))))
noncomputable def F__law_pair_is : List O → Rf := mkF 0 2 b__law_pair_is
noncomputable def L1__law_told_near_and_least : En → Ro :=
  (fSeq (fIf (fNot (fTest (fFr (fCalO S.F__law_pair_is 2 (fCons (fFr (fCalN (tabL [(100, S.F_near_dealer_deal), (101, S.F_least_dealer_deal), (102, S.F_turns_dealer_deal), (103, S.F_zone_dealer_deal), (104, S.F_fixed_dealer_deal)]) 4 5 (fCons (fVar 1) (fCons (fVar 2) (fCons (fBin dIx (fVar 2) (fVar 3)) (fCons (fVar 4) fNil)))))) (fCons (fVar 7) fNil)))))) (fRet (fC (.bl false))) fNxt)
  (fIf (fNot (fTest (fFr (fCalO S.F__law_pair_is 2 (fCons (fFr (fCalN (tabL [(100, S.F_near_dealer_deal), (101, S.F_least_dealer_deal), (102, S.F_turns_dealer_deal), (103, S.F_zone_dealer_deal), (104, S.F_fixed_dealer_deal)]) 4 6 (fCons (fVar 1) (fCons (fVar 2) (fCons (fBin dIx (fVar 2) (fVar 3)) (fCons (fVar 4) fNil)))))) (fCons (fVar 8) fNil)))))) (fRet (fC (.bl false))) fNxt))
noncomputable def b__law_told_near_and_least : En → Ro :=
  (fSeq (fSet 5 (fFr (fCalO S.F_dealer_of 2 (fCons (fC (.str "near")) (fCons (fVar 0) fNil)))))
  (fSeq (fSet 6 (fFr (fCalO S.F_dealer_of 2 (fCons (fC (.str "least")) (fCons (fVar 0) fNil)))))
  (fSeq (fSet 7 (fCall gTupD (fCons (fFr (fCalO S.F__law_near_v2 2 (fCons (fVar 1) (fCons (fBin dIx (fBin dIx (fVar 2) (fVar 3)) (fC (.int 1))) fNil)))) (fCons (fVar 4) fNil))))
  (fSeq (fSet 8 (fCall gTupD (fCons (fFr (fCalO S.F__law_least 2 (fCons (fVar 1) (fCons (fVar 2) fNil)))) (fCons (fVar 4) fNil))))
  (fSeq (fFor (gN 9) (fWalk gRng1 (fCons (fC (.int 2)) fNil)) L1__law_told_near_and_least)
  (fRet (fC (.bl true))))))))
noncomputable def F__law_told_near_and_least : List O → Rf := mkF 0 10 b__law_told_near_and_least
noncomputable def b__law_text_v4 : En → Ro :=
  (fRet (fM1 mJoin (fC (.str " ")) (fBin dAdd (fCall gLstD (fCons (fVar 0) fNil)) (fFr (fLc (fItems (fVar 1)) (gN 2) fYes (fCall bStr (fCons (fVar 2) fNil)) [2])))))
noncomputable def F__law_text_v4 : List O → Rf := mkF 0 3 b__law_text_v4
noncomputable def L1__law_behind : En → Ro :=
  (fIf (fTest (fBin dEq (fBin dIx (fBin dIx (fVar 0) (fBin dMod (fBin dAdd (fVar 1) (fVar 3)) (fVar 2))) (fC (.int 3))) (fC (.int 0)))) (fRet (fBin dMod (fBin dAdd (fVar 1) (fVar 3)) (fVar 2))) fNxt)
noncomputable def b__law_behind : En → Ro :=
  (fSeq (fSet 2 (fCall bLen (fCons (fVar 0) fNil)))
  (fSeq (fFor (gN 3) (fWalk gRng2 (fCons (fC (.int 1)) (fCons (fBin dAdd (fVar 2) (fC (.int 1))) fNil))) L1__law_behind)
  (fRet (fUn dNeg (fC (.int 1))))))
noncomputable def F__law_behind : List O → Rf := mkF 0 4 b__law_behind
noncomputable def b__law_at : En → Ro :=
  (fSeq (fIf (fTest (fBin dEq (fBin dIx (fBin dIx (fVar 0) (fVar 1)) (fC (.int 3))) (fC (.int 0)))) (fRet (fVar 1)) fNxt)
  (fRetO (fCalO S.F__law_behind 2 (fCons (fVar 0) (fCons (fVar 1) fNil)))))
noncomputable def F__law_at : List O → Rf := mkF 0 2 b__law_at
noncomputable def b__law_bent_v2 : En → Ro :=
  (fSeq (fSet 2 (fFr (fCalO S.F__law_draw_v2 4 (fCons (fVar 0) (fCons (fC (.int 20)) (fCons (fC (.int 60091)) (fCons (fC (.int 8)) fNil)))))))
  (fSeq (fSet 3 (fFr (fCalO S.F__law_draw_v2 4 (fCons (fVar 0) (fCons (fC (.int 20)) (fCons (fC (.int 60101)) (fCons (fCall bLen (fCons (fVar 1) fNil)) fNil)))))))
  (fSeq (fSet 4 (fBin dIx (fC (.str "0123456789 aedfilnorstuxz+-_.\n")) (fFr (fCalO S.F__law_draw_v2 4 (fCons (fVar 0) (fCons (fC (.int 21)) (fCons (fC (.int 60103)) (fCons (fC (.int 30)) fNil))))))))
  (fSeq (fIf (fTest (fBin dEq (fVar 2) (fC (.int 0)))) (fRet (fBin dAdd (fBin dAdd (fSl (fVar 1) fNoP (fPart (fVar 3))) (fVar 4)) (fSl (fVar 1) (fPart (fVar 3)) fNoP))) fNxt)
  (fSeq (fIf (fTest (fBin dEq (fVar 2) (fC (.int 1)))) (fRet (fBin dAdd (fSl (fVar 1) fNoP (fPart (fVar 3))) (fSl (fVar 1) (fPart (fBin dAdd (fVar 3) (fC (.int 1)))) fNoP))) fNxt)
  (fSeq (fIf (fTest (fBin dEq (fVar 2) (fC (.int 2)))) (fRet (fBin dAdd (fSl (fVar 1) fNoP (fPart (fBin dAdd (fVar 3) (fC (.int 1))))) (fSl (fVar 1) (fPart (fVar 3)) fNoP))) fNxt)
  (fSeq (fIf (fTest (fBin dEq (fVar 2) (fC (.int 3)))) (fRet (fBin dAdd (fBin dAdd (fSl (fVar 1) fNoP (fPart (fVar 3))) (fVar 4)) (fSl (fVar 1) (fPart (fBin dAdd (fVar 3) (fC (.int 1)))) fNoP))) fNxt)
  (fRet (fVar 1)))))))))
noncomputable def F__law_bent_v2 : List O → Rf := mkF 0 5 b__law_bent_v2
noncomputable def E1__law_drawn_text : En → Rs D :=
  (fFr (fCalO S.F__law_draw_v2 4 (fCons (fVar 0) (fCons (fBin dAdd (fC (.int 8)) (fVar 6)) (fCons (fC (.int 60077)) (fCons (fCall bLen (fCons (fBin dIx (fVar 1) (fC (.int 1))) fNil)) fNil))))))
noncomputable def b__law_drawn_text : En → Ro :=
  (fSeq (fSet 2 (fFr (fCalO S.F__law_draw_v2 4 (fCons (fVar 0) (fCons (fC (.int 6)) (fCons (fC (.int 60013)) (fCons (fC (.int 5)) fNil)))))))
  (fSeq (fIf (fTest (fBin dLt (fVar 2) (fC (.int 3)))) (fRet (fBin dIx (fCall gLstD (fCons (fC (.str "near")) (fCons (fC (.str "least")) (fCons (fC (.str "turns")) fNil)))) (fVar 2))) fNxt)
  (fSeq (fSet 3 (fBin dIx (fVar 1) (fC (.int 0))))
  (fSeq (fSet 4 (fC (.str "zone")))
  (fSeq (fIf (fTest (fBin dEq (fVar 2) (fC (.int 4)))) (fSeq (fSet 3 (fBin dAdd (fC (.int 1)) (fFr (fCalO S.F__law_draw_v2 4 (fCons (fVar 0) (fCons (fC (.int 6)) (fCons (fC (.int 60029)) (fCons (fC (.int 9)) fNil))))))))
  (fSet 4 (fC (.str "fixed")))) fNxt)
  (fSeq (fIf (fTest (fBin dEq (fFr (fCalO S.F__law_draw_v2 4 (fCons (fVar 0) (fCons (fC (.int 7)) (fCons (fC (.int 60037)) (fCons (fC (.int 3)) fNil)))))) (fC (.int 0)))) (fSet 3 (fBin dAdd (fBin dSub (fVar 3) (fC (.int 1))) (fBin dMul (fC (.int 2)) (fFr (fCalO S.F__law_draw_v2 4 (fCons (fVar 0) (fCons (fC (.int 7)) (fCons (fC (.int 60041)) (fCons (fC (.int 2)) fNil))))))))) fNxt)
  (fSeq (fSetO 5 (fLc (fWalk gRng1 (fCons (fVar 3) fNil)) (gN 6) fYes E1__law_drawn_text [6]))
  (fSeq (fIf (fAnd (fTest (fBin dGt (fVar 3) (fC (.int 0)))) (fTest (fBin dEq (fFr (fCalO S.F__law_draw_v2 4 (fCons (fVar 0) (fCons (fC (.int 7)) (fCons (fC (.int 60083)) (fCons (fC (.int 4)) fNil)))))) (fC (.int 0))))) (fSeq (fSet 7 (fBin dMul (fFr (fCalO S.F__law_great 3 (fCons (fVar 0) (fCons (fC (.int 18)) (fCons (fBin dPow (fC (.int 10)) (fC (.int 9))) fNil))))) (fFr (fCalO S.F__law_draw_v2 4 (fCons (fVar 0) (fCons (fC (.int 18)) (fCons (fC (.int 60091)) (fCons (fC (.int 2)) fNil))))))))
  (fSetIx (.slot 5) (fFr (fCalO S.F__law_draw_v2 4 (fCons (fVar 0) (fCons (fC (.int 7)) (fCons (fC (.int 60089)) (fCons (fVar 3) fNil)))))) (fBin dAdd (fCall bLen (fCons (fBin dIx (fVar 1) (fC (.int 1))) fNil)) (fVar 7)))) fNxt)
  (fRet (fBor (fM1 mJoin (fC (.str " ")) (fBin dAdd (fCall gLstD (fCons (fVar 4) fNil)) (fFr (fLc (fItems (fVar 5)) (gN 8) fYes (fCall bStr (fCons (fVar 8) fNil)) [8]))))))))))))))
noncomputable def F__law_drawn_text : List O → Rf := mkF 0 9 b__law_drawn_text
noncomputable def L1__law_read_v2 : En → Ro :=
  (fSeq (fIf (fTest (fBin dNotIn (fVar 4) (fSl (fCall gLstD (fCons (fC (.str "0")) (fCons (fC (.str "1")) (fCons (fC (.str "2")) fNil)))) fNoP (fPart (fCall bLen (fCons (fBin dIx (fVar 1) (fC (.int 1))) fNil)))))) (fRet (fC .non)) fNxt)
  (fDropO (fLm (.slot 3) mApp (fCons (fCall bInt (fCons (fVar 4) fNil)) fNil))))
noncomputable def b__law_read_v2 : En → Ro :=
  (fSeq (fIf (fTest (fBin dIn (fVar 0) (fCall gLstD (fCons (fC (.str "near")) (fCons (fC (.str "least")) (fCons (fC (.str "turns")) fNil)))))) (fRetO (fTupO (fConsO (fSt (fVar 0)) (fConsO (fLstO fNil) fNilO)))) fNxt)
  (fSeq (fSet 2 (fM1 mSplit (fVar 0) (fC (.str " "))))
  (fSeq (fSetO 3 (fLstO fNil))
  (fSeq (fFor (gN 4) (fItems (fSl (fVar 2) (fPart (fC (.int 1))) fNoP)) L1__law_read_v2)
  (fSeq (fIf (fBorT (fAnd (fTest (fBin dEq (fBin dIx (fVar 2) (fC (.int 0))) (fC (.str "zone")))) (fTest (fBin dEq (fCall bLen (fCons (fVar 3) fNil)) (fBin dIx (fVar 1) (fC (.int 0))))))) (fRetO (fTupO (fConsO (fSt (fC (.str "zone"))) (fConsO (fMov 3) fNilO)))) fNxt)
  (fSeq (fIf (fBorT (fAnd (fTest (fBin dEq (fBin dIx (fVar 2) (fC (.int 0))) (fC (.str "fixed")))) (fTest (fChain dLe dLe (fC (.int 1)) (fCall bLen (fCons (fVar 3) fNil)) (fC (.int 9)))))) (fRetO (fTupO (fConsO (fSt (fC (.str "fixed"))) (fConsO (fMov 3) fNilO)))) fNxt)
  (fRet (fC .non))))))))
noncomputable def F__law_read_v2 : List O → Rf := mkF 0 5 b__law_read_v2
noncomputable def L1_lifts_of_v2 : En → Ro :=
  (fIf (fOr (fTest (fBin dIs (fVar 4) (fC .non))) (fTest (fBin dGe (fVar 4) (fCall bLen (fCons (fBin dIx (fVar 1) (fC (.int 1))) fNil))))) (fRaise 4) fNxt)
noncomputable def b_lifts_of_v2 : En → Ro :=
  (fSeq (fSet 2 (fFr (fLc (fItems (fVar 0)) (gN 3) fYes (fFr (fCalO S.F_number_of 1 (fCons (fVar 3) fNil))) [3])))
  (fSeq (fFor (gN 4) (fItems (fVar 2)) L1_lifts_of_v2)
  (fRet (fVar 2))))
noncomputable def F_lifts_of_v2 : List O → Rf := mkF 0 5 b_lifts_of_v2
noncomputable def b_dealer_of_v2 : En → Ro :=
  (fSeq (fSet 2 (fM1 mSplit (fVar 0) (fC (.str " "))))
  (fSeq (fIf (fTest (fBin dEq (fVar 0) (fC (.str "near")))) (fRetO (fCalO S.F_near_dealer 0 fNil)) fNxt)
  (fSeq (fIf (fTest (fBin dEq (fVar 0) (fC (.str "least")))) (fRetO (fCalO S.F_least_dealer 0 fNil)) fNxt)
  (fSeq (fIf (fTest (fBin dEq (fVar 0) (fC (.str "turns")))) (fRetO (fCalO S.F_turns_dealer 0 fNil)) fNxt)
  (fSeq (fIf (fAnd (fTest (fBin dEq (fBin dIx (fVar 2) (fC (.int 0))) (fC (.str "zone")))) (fTest (fBin dEq (fCall bLen (fCons (fVar 2) fNil)) (fBin dAdd (fBin dIx (fVar 1) (fC (.int 0))) (fC (.int 1)))))) (fRetO (fCalO S.F_zone_dealer 1 (fCons (fFr (fCalO S.F_lifts_of_v2 2 (fCons (fSl (fVar 2) (fPart (fC (.int 1))) fNoP) (fCons (fVar 1) fNil)))) fNil))) fNxt)
  (fSeq (fIf (fAnd (fTest (fBin dEq (fBin dIx (fVar 2) (fC (.int 0))) (fC (.str "fixed")))) (fTest (fChain dLt dLe (fC (.int 1)) (fCall bLen (fCons (fVar 2) fNil)) (fBin dAdd (fC (.int 9)) (fC (.int 1)))))) (fRetO (fCalO S.F_fixed_dealer 1 (fCons (fFr (fCalO S.F_lifts_of_v2 2 (fCons (fSl (fVar 2) (fPart (fC (.int 1))) fNoP) (fCons (fVar 1) fNil)))) fNil))) fNxt)
  (fRaise 4)))))))
noncomputable def F_dealer_of_v2 : List O → Rf := mkF 0 3 b_dealer_of_v2
noncomputable def b__law_due_v10 : En → Ro :=
  (fSeq (fSet 4 (fBin dIx (fVar 2) (fC (.int 0))))
  (fSeq (fIf (fTest (fBin dEq (fBin dIx (fVar 0) (fC (.int 0))) (fC (.str "near")))) (fRet (fCall gTupD (fCons (fFr (fCalO S.F__law_near_v2 2 (fCons (fVar 1) (fCons (fBin dIx (fVar 4) (fC (.int 1))) fNil)))) (fCons (fVar 3) fNil)))) fNxt)
  (fSeq (fIf (fTest (fBin dEq (fBin dIx (fVar 0) (fC (.int 0))) (fC (.str "least")))) (fRet (fCall gTupD (fCons (fFr (fCalO S.F__law_least 2 (fCons (fVar 1) (fCons (fVar 2) fNil)))) (fCons (fVar 3) fNil)))) fNxt)
  (fSeq (fSet 5 (fFr (fCalO S.F__law_behind 2 (fCons (fVar 1) (fCons (fVar 3) fNil)))))
  (fSeq (fIf (fAnd (fTest (fBin dEq (fBin dIx (fVar 0) (fC (.int 0))) (fC (.str "turns")))) (fTest (fBin dEq (fVar 5) (fUn dNeg (fC (.int 1)))))) (fRet (fCall gTupD (fCons (fUn dNeg (fC (.int 1))) (fCons (fVar 3) fNil)))) fNxt)
  (fSeq (fIf (fTest (fBin dEq (fBin dIx (fVar 0) (fC (.int 0))) (fC (.str "turns")))) (fRet (fCall gTupD (fCons (fVar 5) (fCons (fVar 5) fNil)))) fNxt)
  (fSeq (fIf (fTest (fBin dEq (fBin dIx (fVar 0) (fC (.int 0))) (fC (.str "zone")))) (fRet (fCall gTupD (fCons (fFr (fCalO S.F__law_at 2 (fCons (fVar 1) (fCons (fBin dIx (fBin dIx (fVar 0) (fC (.int 1))) (fBin dIx (fVar 4) (fC (.int 1)))) fNil)))) (fCons (fVar 3) fNil)))) fNxt)
  (fRet (fCall gTupD (fCons (fFr (fCalO S.F__law_at 2 (fCons (fVar 1) (fCons (fBin dIx (fBin dIx (fVar 0) (fC (.int 1))) (fBin dMod (fBin dIx (fVar 4) (fC (.int 0))) (fCall bLen (fCons (fBin dIx (fVar 0) (fC (.int 1))) fNil)))) fNil)))) (fCons (fVar 3) fNil)))))))))))
noncomputable def F__law_due_v10 : List O → Rf := mkF 0 6 b__law_due_v10
noncomputable def L1__law_deals : En → Ro :=
  (fIf (fNot (fTest (fFr (fCalO S.F__law_pair_is 2 (fCons (fFr (fCalN (tabL [(100, S.F_near_dealer_deal), (101, S.F_least_dealer_deal), (102, S.F_turns_dealer_deal), (103, S.F_zone_dealer_deal), (104, S.F_fixed_dealer_deal)]) 4 4 (fCons (fVar 10) (fCons (fVar 9) (fCons (fBin dIx (fVar 9) (fC (.int 0))) (fCons (fVar 3) fNil)))))) (fCons (fFr (fCalO S.F__law_due_v10 4 (fCons (fVar 1) (fCons (fVar 10) (fCons (fVar 9) (fCons (fVar 3) fNil)))))) fNil)))))) (fRet (fC (.bl false))) fNxt)
noncomputable def L2__law_deals : En → Ro :=
  (fSeq (fSet 9 (fCall gLstD (fCons (fCall gTupD (fCons (fBin dAdd (fVar 8) (fBin dMul (fC (.int 3)) (fVar 3))) (fCons (fVar 8) (fCons (fBin dMod (fBin dAdd (fVar 8) (fC (.int 1))) (fBin dIx (fVar 2) (fC (.int 0)))) (fCons (fUn dNeg (fC (.int 1))) fNil))))) fNil)))
  (fFor (gN 10) (fItems (fCall gLstD (fCons (fVar 5) (fCons (fVar 7) fNil)))) L1__law_deals))
noncomputable def b__law_deals : En → Ro :=
  (fSeq (fSet 4 (fFr (fCalO S.F_dealer_of_v2 2 (fCons (fVar 0) (fCons (fVar 2) fNil)))))
  (fSeq (fSet 5 (fFr (fLc (fItems (fBin dIx (fVar 2) (fC (.int 1)))) (gN 6) fYes (fFr (fCalO S.F_cabin_of 1 (fCons (fVar 6) fNil))) [6])))
  (fSeq (fSet 7 (fBin dAdd (fCall gLstD (fCons (fBin dAdd (fBin dAdd (fSl (fBin dIx (fVar 5) (fC (.int 0))) fNoP (fPart (fC (.int 3)))) (fCall gTupD (fCons (fC (.int 2)) fNil))) (fSl (fBin dIx (fVar 5) (fC (.int 0))) (fPart (fC (.int 4))) fNoP)) fNil)) (fSl (fVar 5) (fPart (fC (.int 1))) fNoP)))
  (fSeq (fFor (gN 8) (fWalk gRng1 (fCons (fBin dIx (fVar 2) (fC (.int 0))) fNil)) L2__law_deals)
  (fRet (fC (.bl true)))))))
noncomputable def F__law_deals : List O → Rf := mkF 0 11 b__law_deals
noncomputable def K1__law_name_v3 : En → Ro :=
  (fSeq (fIf (fTest (fIsV [4] [4] (fVar 0))) (fDropO (fLm (.slot 1) mApp (fCons (fCall gTupD (fCons (fC (.str "deal")) (fCons (fC (.int 0)) fNil))) fNil))) fNxt)
  (fSeq (fIf (fOr (fTest (fIsV [4] [] (fVar 0))) (fOr (fTest (fIsV [4] [] (fVar 0))) (fTest (fIsV [4] [] (fVar 0))))) (fDropO (fLm (.slot 1) mApp (fCons (fCall gTupD (fCons (fC (.str "other")) (fCons (fC (.int 0)) fNil))) fNil))) fNxt)
  (fSeq (fIf (fOr (fTest (fIsV [4] [] (fVar 0))) (fOr (fTest (fIsV [4] [] (fVar 0))) (fTest (fIsV [4] [] (fVar 0))))) (fDropO (fLm (.slot 1) mApp (fCons (fCall gTupD (fCons (fC (.str "other")) (fCons (fC (.int 0)) fNil))) fNil))) fNxt)
  (fSeq (fIf (fBorT (fOr (fTest (fBin dNe (fCall bLen (fCons (fVar 1) fNil)) (fC (.int 1)))) (fOr (fNot (fTest (fIsVT [4] (fVar 0)))) (fNot (fTest (fFr (fCalO S.F__law_whole 1 (fCons (fBin dIx (fBin dIx (fVar 1) (fC (.int 0))) (fC (.int 1))) fNil)))))))) (fRet (fCall gTupD (fCons (fC (.str "unlike")) (fCons (fC (.int 0)) fNil)))) fNxt)
  (fRet (fBor (fBin dIx (fVar 1) (fC (.int 0)))))))))
noncomputable def b__law_name_v3 : En → Ro :=
  (fSeq (fSetO 1 (fLstO fNil))
  (fSeq (fIf (fTest (fIsV [4] [] (fVar 0))) (fDropO (fLm (.slot 1) mApp (fCons (fCall gTupD (fCons (fC (.str "floor")) (fCons (fXf 10 (fVar 0)) fNil))) fNil))) fNxt)
  (fSeq (fIf (fTest (fIsV [4] [] (fVar 0))) (fDropO (fLm (.slot 1) mApp (fCons (fCall gTupD (fCons (fC (.str "lift")) (fCons (fXf 11 (fVar 0)) fNil))) fNil))) fNxt)
  (fSeq (fIf (fTest (fIsV [4] [] (fVar 0))) (fDropO (fLm (.slot 1) mApp (fCons (fCall gTupD (fCons (fC (.str "twice")) (fCons (fXf 12 (fVar 0)) fNil))) fNil))) fNxt)
  (fSeq (fIf (fTest (fIsV [4] [] (fVar 0))) (fDropO (fLm (.slot 1) mApp (fCons (fCall gTupD (fCons (fC (.str "ride")) (fCons (fC (.int 0)) fNil))) fNil))) fNxt)
  (fSeq (fIf (fTest (fIsV [4] [] (fVar 0))) (fDropO (fLm (.slot 1) mApp (fCons (fCall gTupD (fCons (fC (.str "deed")) (fCons (fC (.int 0)) fNil))) fNil))) fNxt)
  K1__law_name_v3))))))
noncomputable def F__law_name_v3 : List O → Rf := mkF 0 2 b__law_name_v3
noncomputable def b__law_refused_v2 : En → Ro :=
  (fSeq (fSet 2 (fC .non))
  (fSeq (fTryV [4] [] 3 2 (fDrop (fFr (fCalO S.F_dealer_of_v2 2 (fCons (fVar 0) (fCons (fVar 1) fNil))))))
  (fRet (fAndV (fBin dIsN (fVar 2) (fC .non)) (fBin dEq (fFr (fCalO S.F__law_name_v3 1 (fCons (fVar 2) fNil))) (fCall gTupD (fCons (fC (.str "deal")) (fCons (fC (.int 0)) fNil))))))))
noncomputable def F__law_refused_v2 : List O → Rf := mkF 0 4 b__law_refused_v2
noncomputable def b_law_k32 : En → Ro :=
  (fSeq (fSet 1 (fFr (fCalO S.F__law_house_v2 2 (fCons (fVar 0) (fCons (fC (.int 3)) fNil)))))
  (fSeq (fSet 2 (fFr (fCalO S.F__law_bent_v2 2 (fCons (fVar 0) (fCons (fFr (fCalO S.F__law_drawn_text 2 (fCons (fVar 0) (fCons (fVar 1) fNil)))) fNil)))))
  (fSeq (fSet 3 (fFr (fCalO S.F__law_read_v2 2 (fCons (fVar 2) (fCons (fVar 1) fNil)))))
  (fSeq (fSet 4 (fFr (fCalO S.F__law_draw_v2 4 (fCons (fVar 0) (fCons (fC (.int 19)) (fCons (fC (.int 60107)) (fCons (fCall bLen (fCons (fBin dIx (fVar 1) (fC (.int 1))) fNil)) fNil)))))))
  (fSeq (fIf (fTest (fBin dIsN (fVar 3) (fC .non))) (fRet (fAndV (fFr (fCalO S.F__law_deals 4 (fCons (fVar 2) (fCons (fVar 3) (fCons (fVar 1) (fCons (fVar 4) fNil)))))) (fFr (fCalO S.F__law_deals 4 (fCons (fVar 2) (fCons (fVar 3) (fCons (fVar 1) (fCons (fC (.int 0)) fNil)))))))) fNxt)
  (fSeq (fIf (fOr (fNot (fTest (fFr (fCalO S.F__law_refused_v2 2 (fCons (fVar 2) (fCons (fVar 1) fNil)))))) (fNot (fTest (fFr (fCalO S.F__law_deals 4 (fCons (fC (.str "turns")) (fCons (fCall gTupD (fCons (fC (.str "turns")) (fCons (fCall gLstD fNil) fNil))) (fCons (fVar 1) (fCons (fVar 4) fNil))))))))) (fRet (fC (.bl false))) fNxt)
  (fRetO (fCalO S.F__law_refused_v2 2 (fCons (fVar 2) (fCons (fVar 1) fNil))))))))))
noncomputable def F_law_k32 : List O → Rf := mkF 0 5 b_law_k32

theorem ofS_inj {a b : String} : Str.ofString a = Str.ofString b ↔ a = b := by
  refine ⟨fun h => ?_, fun h => by rw [h]⟩
  rw [Str.ofString_eq_toList, Str.ofString_eq_toList] at h
  have h2 : a.toList.map Char.toNat = b.toList.map Char.toNat := by
    have := congrArg (fun s : Str => s.cps.toList) h
    simpa using this
  have inj : ∀ (l m : List Char), l.map Char.toNat = m.map Char.toNat → l = m := by
    intro l
    induction l with
    | nil => intro m h; cases m <;> simp_all
    | cons c l ih =>
      intro m h
      cases m with
      | nil => simp at h
      | cons d m =>
        rw [List.map_cons, List.map_cons] at h
        injection h with h1 h2
        rw [ih m h2, Char.toNat_inj.mp h1]
  exact String.toList_inj.mp (inj _ _ h2)
@[simp] theorem ofS_eq (a b : String) : (Str.ofString a = Str.ofString b) = (a = b) := propext ofS_inj
@[simp] theorem ofS_beq (a b : String) : (Str.ofString a == Str.ofString b) = decide (a = b) := by
  rw [Bool.eq_iff_iff]; simp
theorem dIn_str {a b : Str} {x : Bool} (h : (!(Builtin.Str.occurrences b a 0 b.length 1).isEmpty) = x) : dIn (.str a) (.str b) = some (.bl x) := by
  unfold dIn inB; simp only [h]; rfl
theorem dNotIn_str {a b : Str} {x : Bool} (h : (!(Builtin.Str.occurrences b a 0 b.length 1).isEmpty) = x) : dNotIn (.str a) (.str b) = some (.bl (!x)) := by
  unfold dNotIn inB; simp only [h]; rfl
@[simp] theorem dEq_nil : dEq (.tup []) (.tup []) = some (.bl true) := by simp [dEq, scalD, okD, okL, deq, deqL]
@[simp] theorem at0 {α : Type} {x : α} {xs : List α} : atI (x :: xs) 0 = some x := by
  have : (0 : Int) < (xs.length : Int) + 1 := by omega
  simp [atI, ixN, this]
@[simp] theorem at1 {α : Type} {x y : α} {xs : List α} : atI (x :: y :: xs) 1 = some y := by
  have : (1 : Int) < (xs.length : Int) + 1 + 1 := by omega
  simp [atI, ixN, this]
@[simp] theorem at2 {α : Type} {x y z : α} {xs : List α} : atI (x :: y :: z :: xs) 2 = some z := by
  have : (2 : Int) < (xs.length : Int) + 1 + 1 + 1 := by omega
  simp [atI, ixN, this]
@[simp] theorem at3 {α : Type} {x y z u : α} {xs : List α} : atI (x :: y :: z :: u :: xs) 3 = some u := by
  have : (3 : Int) < (xs.length : Int) + 1 + 1 + 1 + 1 := by omega
  simp [atI, ixN, this]
@[simp] theorem at4 {α : Type} {x y z u v : α} {xs : List α} : atI (x :: y :: z :: u :: v :: xs) 4 = some v := by
  have : (4 : Int) < (xs.length : Int) + 1 + 1 + 1 + 1 + 1 := by omega
  simp [atI, ixN, this]
theorem at_nat {α : Type} {xs : List α} {i : Int} {x : α} (h0 : 0 ≤ i) (h : xs[i.toNat]? = some x) : atI xs i = some x := by
  have hl : i.toNat < xs.length := (List.getElem?_eq_some_iff.mp h).1
  have : i < xs.length := by omega
  simp only [atI, ixN, h0, this, if_true]
  exact h
theorem whole_int (i : Int) : F__law_whole [.stb (.int i)] = .ok (.stb (.bl true)) [] := wholeB_int i
theorem whole_non : F__law_whole [.stb .non] = .ok (.stb (.bl false)) [] := wholeB_non
/-- a loop that goes out at the first hit -/
theorem forL_find {α σ : Type} {gt : D → En → Option En} {body : En → Ro} (f : α → D) (P : α → Bool) (E : σ → En) (o : O) : ∀ (l : List α) (s : σ),
    (∀ a ∈ l, ∀ s, P a = true → ∃ ρ1 ρ2, gt (f a) (E s) = some ρ1 ∧ body ρ1 = .ret o ρ2) → (∀ a ∈ l, ∀ s, P a = false → ∃ ρ1 s', gt (f a) (E s) = some ρ1 ∧ (body ρ1 = .nxt (E s') ∨ body ρ1 = .ctn (E s'))) →
    (l.any P = true → ∃ ρ', forL gt body (l.map f) (E s) = .ret o ρ') ∧ (l.any P = false → ∃ s', forL gt body (l.map f) (E s) = .nxt (E s'))
  | [], s, _, _ => ⟨fun h => by simp at h, fun _ => ⟨s, rfl⟩⟩
  | a :: l, s, h1, h2 => by
    rw [List.map_cons, List.any_cons]
    cases hp : P a with
    | true =>
      obtain ⟨ρ1, ρ2, e1, e2⟩ := h1 a (by simp) s hp
      exact ⟨fun _ => ⟨ρ2, forL_ret e1 e2⟩, fun h => by simp at h⟩
    | false =>
      obtain ⟨ρ1, s', e1, e2⟩ := h2 a (by simp) s hp
      have q : forL gt body (f a :: l.map f) (E s) = forL gt body (l.map f) (E s') := by
        rcases e2 with e2 | e2
        · exact forL_step e1 e2
        · exact forL_ctn e1 e2
      rw [q, Bool.false_or]
      exact forL_find f P E o l s' (fun b hb => h1 b (by simp [hb])) fun b hb => h2 b (by simp [hb])
/-- a loop that gathers, and goes out at the first hit -/
theorem forL_fx {α σ : Type} {gt : D → En → Option En} {body : En → Ro} (f : α → D) (P : α → Bool) (step : σ → α → σ) (E : σ → En) (o : O) : ∀ (l : List α) (s : σ),
    (∀ a ∈ l, ∀ s, P a = true → ∃ ρ1 ρ2, gt (f a) (E s) = some ρ1 ∧ body ρ1 = .ret o ρ2) → (∀ a ∈ l, ∀ s, P a = false → ∃ ρ1, gt (f a) (E s) = some ρ1 ∧ (body ρ1 = .nxt (E (step s a)) ∨ body ρ1 = .ctn (E (step s a)))) →
    (l.any P = true → ∃ ρ', forL gt body (l.map f) (E s) = .ret o ρ') ∧ (l.any P = false → forL gt body (l.map f) (E s) = .nxt (E (l.foldl step s)))
  | [], s, _, _ => ⟨fun h => by simp at h, fun _ => rfl⟩
  | a :: l, s, h1, h2 => by
    rw [List.map_cons, List.any_cons]
    cases hp : P a with
    | true =>
      obtain ⟨ρ1, ρ2, e1, e2⟩ := h1 a (by simp) s hp
      exact ⟨fun _ => ⟨ρ2, forL_ret e1 e2⟩, fun h => by simp at h⟩
    | false =>
      obtain ⟨ρ1, e1, e2⟩ := h2 a (by simp) s hp
      have q : forL gt body (f a :: l.map f) (E s) = forL gt body (l.map f) (E (step s a)) := by
        rcases e2 with e2 | e2
        · exact forL_step e1 e2
        · exact forL_ctn e1 e2
      rw [q, Bool.false_or, List.foldl_cons]
      exact forL_fx f P step E o l (step s a) (fun b hb => h1 b (by simp [hb])) fun b hb => h2 b (by simp [hb])
/-- a loop that gathers -/
theorem forL_fold {α σ : Type} {gt : D → En → Option En} {body : En → Ro} (f : α → D) (step : σ → α → σ) (E : σ → En) : ∀ (l : List α) (s : σ),
    (∀ a ∈ l, ∀ s, ∃ ρ1, gt (f a) (E s) = some ρ1 ∧ (body ρ1 = .nxt (E (step s a)) ∨ body ρ1 = .ctn (E (step s a)))) → forL gt body (l.map f) (E s) = .nxt (E (l.foldl step s))
  | [], s, _ => rfl
  | a :: l, s, h => by
    obtain ⟨ρ1, e1, e2⟩ := h a (by simp) s
    have q : forL gt body (f a :: l.map f) (E s) = forL gt body (l.map f) (E (step s a)) := by
      rcases e2 with e2 | e2
      · exact forL_step e1 e2
      · exact forL_ctn e1 e2
    rw [List.map_cons, q, List.foldl_cons]
    exact forL_fold f step E l (step s a) fun b hb => h b (by simp [hb])
/-- a new list by a row of places -/
theorem range_get {n i : Nat} {d : D} (h : (rngD 0 n)[i]? = some d) : d = .int i ∧ i < n := by
  have := rngD_get h
  simpa using this
theorem rng_map {β : Type} (f : D → β) (g : Nat → β) (h : ∀ i : Nat, f (.int i) = g i) (n : Nat) : (rngD 0 n).map f = (List.range n).map g := by
  unfold rngD
  rw [List.map_map]
  congr 1
  funext i
  simp [h]
theorem mem_rng {n : Nat} {d : D} (h : d ∈ rngD 0 n) : ∃ i : Nat, d = .int i ∧ i < n := by
  obtain ⟨i, hi⟩ := List.getElem?_of_mem h
  exact ⟨i, range_get hi⟩
theorem cut_from {xs : List D} {a : Int} (h : 0 ≤ a) : cutD xs (some a) none = xs.drop a.toNat := by
  have e1 : HT.sIx xs.length xs.length none = xs.length := rfl
  have e2 : HT.sIx xs.length 0 (some a) = min a.toNat xs.length := by
    unfold HT.sIx
    simp [h]
    omega
  unfold cutD
  rw [e1, e2]
  by_cases hl : a.toNat ≤ xs.length
  · rw [Nat.min_eq_left hl, List.take_of_length_le (by simp)]
  · rw [Nat.min_eq_right (by omega), List.drop_of_length_le (by omega), List.drop_of_length_le (by omega)]
    simp
theorem cut_to {xs : List D} {b : Int} (h : 0 ≤ b) : cutD xs none (some b) = xs.take b.toNat := by
  have e1 : HT.sIx xs.length 0 none = 0 := rfl
  have e2 : HT.sIx xs.length xs.length (some b) = min b.toNat xs.length := by
    unfold HT.sIx
    simp [h]
    omega
  unfold cutD
  rw [e1, e2, List.drop_zero, Nat.sub_zero]
  by_cases hl : b.toNat ≤ xs.length
  · rw [Nat.min_eq_left hl]
  · rw [Nat.min_eq_right (by omega), List.take_of_length_le (by omega), List.take_of_length_le (by omega)]
@[simp] theorem dSl_lst {xs : List D} {l h : Option Int} : dSl (.lst xs) l h = some (.lst (cutD xs l h)) := nr rfl
@[simp] theorem dSl_tup {xs : List D} {l h : Option Int} : dSl (.tup xs) l h = some (.tup (cutD xs l h)) := nr rfl
@[simp] theorem dAdd_tup {xs ys : List D} : dAdd (.tup xs) (.tup ys) = if xs.length + ys.length ≤ 16777216 then some (.tup (xs ++ ys)) else none := nr rfl
@[simp] theorem dAdd_lst {xs ys : List D} : dAdd (.lst xs) (.lst ys) = if xs.length + ys.length ≤ 16777216 then some (.lst (xs ++ ys)) else none := nr rfl

theorem figs_eq : Str.ofString "0123456789" = ⟨#[48, 49, 50, 51, 52, 53, 54, 55, 56, 57]⟩ := by decide +kernel
theorem zero_eq : Str.ofString "0" = ⟨#[48]⟩ := by decide +kernel
def isFig (c : Nat) : Bool := decide (48 ≤ c ∧ c ≤ 57)
theorem mem_figs (c : Nat) : (c ∈ (Str.ofString "0123456789").cps.toList) ↔ isFig c = true := by
  rw [figs_eq]
  simp [isFig]
  omega
theorem notIn_figs (c : Nat) : dNotIn (.str ⟨#[c]⟩) (.str "0123456789") = some (.bl (!isFig c)) := by
  refine dNotIn_str ?_
  rw [StrLaws.found_one, Bool.eq_iff_iff, decide_eq_true_iff]
  exact mem_figs c
theorem find_fig (c : Nat) : Txt.find (Str.ofString "0123456789") ⟨#[c]⟩ = if isFig c = true then ((c - 48 : Nat) : Int) else -1 := by
  by_cases h : isFig c = true
  · rw [if_pos h]
    have : 48 ≤ c ∧ c ≤ 57 := by simpa [isFig] using h
    have : c = 48 ∨ c = 49 ∨ c = 50 ∨ c = 51 ∨ c = 52 ∨ c = 53 ∨ c = 54 ∨ c = 55 ∨ c = 56 ∨ c = 57 := by omega
    rcases this with rfl | rfl | rfl | rfl | rfl | rfl | rfl | rfl | rfl | rfl <;> decide +kernel
  · rw [if_neg h]
    have h0 := StrLaws.found_one (Str.ofString "0123456789") c
    have h1 : ¬ c ∈ (Str.ofString "0123456789").cps.toList := fun z => h ((mem_figs c).mp z)
    rw [decide_eq_false h1] at h0
    unfold Txt.find
    cases e : Builtin.Str.occurrences (Str.ofString "0123456789") ⟨#[c]⟩ 0 (Str.ofString "0123456789").length 1 with
    | nil => rfl
    | cons a r => rw [e] at h0; simp at h0
theorem chr_zero (c : Nat) : ((⟨#[c]⟩ : Str) == Str.ofString "0") = decide (c = 48) := by
  rw [zero_eq, Bool.eq_iff_iff]
  simp
theorem len_cps (z : Str) : z.length = z.cps.toList.length := by simp [Str.length]
/-- the number that signs write -/
def numO (cs : List Nat) : Option Int := if cs.length < 1 ∨ 9 < cs.length then none else if cs.any (fun c => !isFig c) = true then none else if cs.head? = some 48 ∧ 1 < cs.length then none else some (digitsVal cs : Nat)
def optI : Option Int → D
  | none => .non
  | some i => .int i
theorem number_eq (z : Str) (hz : z.length ≤ 16777216) : F_number_of [.stb (.str z)] = .ok (.stb (optI (numO z.cps.toList))) [] := by
  have hlim : z.length ≤ LIM := hz
  have hlen : bLen [.str z] = some (.int z.length) := by show (if z.length ≤ LIM then some (D.int z.length) else none) = _; rw [if_pos hlim]
  have core := forL_find (gt := gN 1) (body := fIf (fTest (fBin dNotIn (fVar 1) (fC (.str "0123456789")))) (fRet (fC .non)) fNxt)
    (fun c : Nat => D.str ⟨#[c]⟩) (fun c => !isFig c) (fun s : Option O => [some (.stb (.str z)), s]) (.stb .non) z.cps.toList none
    (fun c _ s hp => ⟨[some (.stb (.str z)), some (.stb (.str ⟨#[c]⟩))], [some (.stb (.str z)), some (.stb (.str ⟨#[c]⟩))], rfl, by simp [notIn_figs, hp]⟩)
    (fun c _ s hp => ⟨[some (.stb (.str z)), some (.stb (.str ⟨#[c]⟩))], some (.stb (.str ⟨#[c]⟩)), rfl, .inl (by simp [notIn_figs, hp])⟩)
  have hs : dItems (.str z) = some (z.cps.toList.map fun c => D.str ⟨#[c]⟩) := rfl
  unfold numO
  rw [← len_cps]
  by_cases h1 : z.length < 1
  · have h1' : (z.length : Int) < 1 := by omega
    simp [F_number_of, b_number_of, hlen, h1, h1', optI]
  · have h1' : ¬ (z.length : Int) < 1 := by omega
    by_cases h2 : 9 < z.length
    · have h2' : (9 : Int) < (z.length : Int) := by omega
      simp [F_number_of, b_number_of, hlen, h1', h2, h2', optI]
    · have h2' : ¬ (9 : Int) < (z.length : Int) := by omega
      rw [if_neg (by omega)]
      by_cases h3 : (z.cps.toList.any fun c => !isFig c) = true
      · obtain ⟨ρ', e⟩ := core.1 h3
        rw [if_pos h3]
        simp [F_number_of, b_number_of, hlen, h1', h2', hs, e, optI]
      · rw [Bool.not_eq_true] at h3
        obtain ⟨s', e⟩ := core.2 h3
        rw [if_neg (by rw [h3]; simp)]
        obtain ⟨c, r, hc⟩ : ∃ c r, z.cps.toList = c :: r := by
          cases hq : z.cps.toList with
          | nil => rw [len_cps, hq] at h1; simp at h1
          | cons c r => exact ⟨c, r, rfl⟩
        have hix : dIx (.str z) (.int 0) = some (.str ⟨#[c]⟩) := by
          show (if z.length ≤ LIM then (atI z.cps.toList 0).map fun c => D.str ⟨#[c]⟩ else none) = _
          rw [if_pos hlim, hc, at0]; rfl
        have hint : bInt [.str z] = some (.int (digitsVal z.cps.toList : Nat)) := by
          show (if z.length ≤ 640 then (PySem.intText? z).map D.int else none) = _
          rw [if_pos (by omega), intText_digits (fun d hd => by
            have := List.any_eq_false.mp h3 d hd
            simpa [isFig] using this) (by rw [hc]; simp) (by omega)]
          rfl
        rw [hc] at hint
        rw [hc, List.head?_cons]
        by_cases h4 : c = 48
        · by_cases h5 : 1 < z.length
          · have h5' : (1 : Int) < (z.length : Int) := by omega
            simp [F_number_of, b_number_of, hlen, h1', h2', hs, e, optI, hix, chr_zero, h4, h5, h5']
          · have h5' : ¬ (1 : Int) < (z.length : Int) := by omega
            simp [F_number_of, b_number_of, hlen, h1', h2', hs, e, optI, hix, chr_zero, h4, h5, h5', hint]
        · simp [F_number_of, b_number_of, hlen, h1', h2', hs, e, optI, hix, chr_zero, h4, hint]

theorem bit_eq (k : Int) (h : 0 ≤ k) (h2 : k ≤ 1000000) : F_bit [.stb (.int k)] = .ok (.stb (.int (2 ^ k.toNat))) [] := by
  simp [F_bit, b_bit, dShl, h, h2]
theorem pow_cast (k : Nat) : (2 : Int) ^ k = ((2 ^ k : Nat) : Int) := by push_cast; rfl
theorem has_eq (m k : Nat) : F_has [.stb (.int m), .stb (.int k)] = .ok (.stb (.bl (m.testBit k))) [] := by
  have e : decide ((m : Int) / 2 ^ k % 2 = 1) = m.testBit k := by
    rw [Nat.testBit_eq_decide_div_mod_eq, pow_cast, Bool.eq_iff_iff, decide_eq_true_iff, decide_eq_true_iff]
    omega
  simp [F_has, b_has, dShr, bitAnd_m1, e]
/-- a row, sifted and told -/
theorem comp_fn {α : Type} {gt : D → En → Option En} {ft : En → Rs Bool} {fe : En → Rs D} {ws : List Nat} {ρ0 ρ : En} (f : α → D) (p : α → Bool) (g : α → D) (xs : List α) (h0 : wipeE ρ ws = ρ0) (hl : xs.length ≤ 16777216)
    (h : ∀ a ∈ xs, ∃ ρ1 ρ2, gt (f a) ρ0 = some ρ1 ∧ ft ρ1 = .ok (p a) ρ2 ∧ (p a = false → wipeE ρ2 ws = ρ0) ∧ (p a = true → ∃ ρ3, fe ρ2 = .ok (g a) ρ3 ∧ wipeE ρ3 ws = ρ0)) :
    compL gt ft fe ws (xs.map f) [] ρ = .ok (.lst ((xs.filter p).map g)) ρ0 := by
  have key : ∀ (xs : List α) (acc : List D) (ρ : En), wipeE ρ ws = ρ0 → acc.length + xs.length ≤ 16777216 → (∀ a ∈ xs, ∃ ρ1 ρ2, gt (f a) ρ0 = some ρ1 ∧ ft ρ1 = .ok (p a) ρ2 ∧ (p a = false → wipeE ρ2 ws = ρ0) ∧ (p a = true → ∃ ρ3, fe ρ2 = .ok (g a) ρ3 ∧ wipeE ρ3 ws = ρ0)) →
      compL gt ft fe ws (xs.map f) acc ρ = .ok (.lst (acc ++ (xs.filter p).map g)) ρ0 := by
    intro xs
    induction xs with
    | nil => intro acc ρ h0 _ _; rw [List.map_nil, compL_nil', h0]; simp
    | cons a xs ih =>
      intro acc ρ h0 hl h
      obtain ⟨ρ1, ρ2, e1, e2, e3, e4⟩ := h a (by simp)
      rw [List.length_cons] at hl
      rw [List.map_cons, compL_cons', h0, e1, kCp_some, e2]
      cases hp : p a with
      | false =>
        rw [kCp1_false, ih acc ρ2 (e3 hp) (by omega) fun b hm => h b (by simp [hm])]
        simp [hp]
      | true =>
        obtain ⟨ρ3, e5, e6⟩ := e4 hp
        rw [kCp1_true, e5, kCp2_ok, if_pos (by omega), ih (acc ++ [g a]) ρ3 e6 (by simp; omega) fun b hm => h b (by simp [hm])]
        simp [hp]
  have := key xs [] ρ h0 (by simpa using hl) h
  simpa using this

/-! texts as rows of signs -/
def sOf (L : List Nat) : Str := ⟨L.toArray⟩
@[simp] theorem sOf_len (L : List Nat) : (sOf L).length = L.length := by simp [sOf, Str.length]
theorem sOf_app (L M : List Nat) : sOf L ++ sOf M = sOf (L ++ M) := by
  show (⟨L.toArray ++ M.toArray⟩ : Str) = ⟨(L ++ M).toArray⟩
  simp
theorem sOf_cps (L : List Nat) : (sOf L).cps.toList = L := by simp [sOf]
theorem sOf_inj {L M : List Nat} (h : sOf L = sOf M) : L = M := by
  have := congrArg (fun z : Str => z.cps.toList) h
  simpa [sOf] using this
theorem sOf_beq (L M : List Nat) : (sOf L == sOf M) = decide (L = M) := by
  by_cases h : L = M
  · subst h; simp
  · rw [decide_eq_false h, beq_eq_false_iff_ne]
    exact fun z => h (sOf_inj z)
theorem sOf_self (z : Str) : sOf z.cps.toList = z := by
  cases z; simp [sOf]
theorem join_sg (L : List Nat) : Txt.join (Str.ofString "") (L.map fun c => sOf [c]) = sOf L := by
  have he : (Str.ofString "").cps = #[] := by decide +kernel
  have key : ∀ (r : List Nat) (a : Array Nat), ((r.map fun c => sOf [c]).foldl (fun acc p => acc ++ (Str.ofString "").cps ++ p.cps) a) = a ++ r.toArray := by
    intro r
    induction r with
    | nil => intro a; simp
    | cons x r ih =>
      intro a
      rw [List.map_cons, List.foldl_cons, ih, he]
      simp [sOf]
  show (⟨((L.map fun c => sOf [c]).drop 1).foldl _ ((L.map fun c => sOf [c]).headD Str.empty).cps⟩ : Str) = _
  cases L with
  | nil => rfl
  | cons x r =>
    rw [List.map_cons, List.drop_one, List.tail_cons, key]
    simp [sOf]
theorem mJoin_sg (L : List Nat) (h : L.length ≤ 1000) : mJoin (Str.ofString "") (.lst (L.map fun c => D.str (sOf [c]))) = some (.str (sOf L)) := by
  have he : (Str.ofString "").length = 0 := by decide +kernel
  have hs : ((L.map fun c => sOf [c]).map (·.length)).sum = L.length := by
    clear h
    induction L with
    | nil => rfl
    | cons x r ih =>
      rw [List.map_cons, List.map_cons, List.sum_cons, ih, sOf_len]
      simp
      omega
  have e : (L.map fun c => D.str (sOf [c])) = (L.map fun c => sOf [c]).map D.str := by rw [List.map_map]; rfl
  rw [e]
  show ((strsD ((L.map fun c => sOf [c]).map D.str)).bind fun ys => if (ys.map (·.length)).sum + ys.length * (Str.ofString "").length ≤ LIM then some (D.str (Txt.join (Str.ofString "") ys)) else none) = _
  rw [strsD_map]
  show (if _ then _ else _) = _
  rw [if_pos (by rw [hs, he]; show _ ≤ 16777216; simp; omega), join_sg]
theorem sOf_ix (L : List Nat) (i : Int) (h : L.length ≤ 16777216) (h0 : 0 ≤ i) (h1 : i < L.length) : dIx (.str (sOf L)) (.int i) = some (.str (sOf [(L[i.toNat]?).getD 0])) := by
  have hj : i.toNat < L.length := by omega
  show (if (sOf L).length ≤ LIM then (atI (sOf L).cps.toList i).map fun c => D.str ⟨#[c]⟩ else none) = _
  rw [if_pos (show (sOf L).length ≤ LIM from by rw [sOf_len]; exact h), sOf_cps, at_nat h0 (List.getElem?_eq_getElem hj), List.getElem?_eq_getElem hj]
  rfl
theorem sOf_add (L M : List Nat) (h : L.length + M.length ≤ 16777216) : dAdd (.str (sOf L)) (.str (sOf M)) = some (.str (sOf (L ++ M))) := by
  show (if (sOf L).length + (sOf M).length ≤ LIM then some (D.str (sOf L ++ sOf M)) else none) = _
  rw [if_pos (by rw [sOf_len, sOf_len]; exact h), sOf_app]
theorem sOf_to (L : List Nat) (i : Int) (h : L.length ≤ 16777216) (h0 : 0 ≤ i) : dSl (.str (sOf L)) none (some i) = some (.str (sOf (L.take i.toNat))) := by
  show (if (sOf L).length ≤ LIM then some (D.str (cutS (sOf L) none (some i))) else none) = _
  rw [if_pos (show (sOf L).length ≤ LIM from by rw [sOf_len]; exact h)]
  unfold cutS
  have e1 : HT.sIx (sOf L).length 0 none = 0 := rfl
  have e2 : HT.sIx (sOf L).length (sOf L).length (some i) = min i.toNat L.length := by
    unfold HT.sIx
    simp only
    rw [if_neg (by omega), sOf_len]
  rw [e1, e2, sOf_cps, List.drop_zero, Nat.sub_zero]
  by_cases hl : i.toNat ≤ L.length
  · rw [Nat.min_eq_left hl]; rfl
  · rw [Nat.min_eq_right (by omega), List.take_of_length_le (by omega), List.take_of_length_le (by omega)]; rfl
theorem sOf_from (L : List Nat) (i : Int) (h : L.length ≤ 16777216) (h0 : 0 ≤ i) : dSl (.str (sOf L)) (some i) none = some (.str (sOf (L.drop i.toNat))) := by
  show (if (sOf L).length ≤ LIM then some (D.str (cutS (sOf L) (some i) none)) else none) = _
  rw [if_pos (show (sOf L).length ≤ LIM from by rw [sOf_len]; exact h)]
  unfold cutS
  have e1 : HT.sIx (sOf L).length (sOf L).length none = L.length := by rw [← sOf_len L]; rfl
  have e2 : HT.sIx (sOf L).length 0 (some i) = min i.toNat L.length := by
    unfold HT.sIx
    simp only
    rw [if_neg (by omega), sOf_len]
  rw [e1, e2, sOf_cps]
  by_cases hl : i.toNat ≤ L.length
  · rw [Nat.min_eq_left hl, List.take_of_length_le (by simp)]; rfl
  · rw [Nat.min_eq_right (by omega), List.drop_of_length_le (by omega), List.drop_of_length_le (by omega)]
    simp [sOf]

theorem need_eq (b : Bool) : F_need [.stb (.bl b)] = if b = true then .ok (.stb .non) [] else .exc ⟨2, []⟩ [] := by
  cases b <;> simp [F_need, b_need]
def liftD (x : Int × Int × Int × Str) : D := .tup [.int x.1, .int x.2.1, .int x.2.2.1, .str x.2.2.2]
def kindB (k : Str) : Bool := k == Str.ofString "plain" || k == Str.ofString "hasty" || k == Str.ofString "slow"
def goodL (fl : Int) (x : Int × Int × Int × Str) : Bool := decide (0 ≤ x.1 ∧ x.1 < fl) && decide (1 ≤ x.2.1 ∧ x.2.1 ≤ 6) && decide (1 ≤ x.2.2.1 ∧ x.2.2.1 ≤ 4) && kindB x.2.2.2
theorem kindT (k : Str) : dIn (.str k) (.tup [.str (Str.ofString "plain"), .str (Str.ofString "hasty"), .str (Str.ofString "slow")]) = some (.bl (kindB k)) := by
  have h : ∀ a : Str, deq (.str a) (.str k) = (k == a) := fun a => by rw [deq, Bool.eq_iff_iff, beq_iff_eq, beq_iff_eq, eq_comm]
  simp only [dIn, inB, flatD, List.all_cons, List.all_nil, Bool.and_self, if_true, List.any_cons, List.any_nil, h, Option.map_some, Bool.or_false, kindB, Bool.or_assoc]
theorem madelift_eq (x : Int × Int × Int × Str) (fl : Int) : F_made_lift [.stb (liftD x), .stb (.int fl)] = if goodL fl x = true then .ok (.stb (liftD x)) [] else .exc ⟨2, []⟩ [] := by
  have nd := need_eq
  have kt := kindT
  obtain ⟨a, b, c, k⟩ := x
  unfold goodL liftD
  by_cases h1 : 0 ≤ a <;> by_cases h2 : a < fl <;> by_cases h3 : 1 ≤ b <;> by_cases h4 : b ≤ 6 <;> by_cases h5 : 1 ≤ c <;> by_cases h6 : c ≤ 4 <;> cases h7 : kindB k <;> simp [F_made_lift, b_made_lift, nd, kt, h1, h2, h3, h4, h5, h6, h7]
theorem compE_fn {α : Type} {gt : D → En → Option En} {fe : En → Rs D} {ws : List Nat} {ρ0 ρ : En} (f : α → D) (r : α → Option D) (xs : List α) (h0 : wipeE ρ ws = ρ0) (hl : xs.length ≤ 16777216)
    (h : ∀ a ∈ xs, ∃ ρ1 ρ3, gt (f a) ρ0 = some ρ1 ∧ wipeE ρ3 ws = ρ0 ∧ fe ρ1 = match r a with | some d => .ok d ρ3 | none => .exc ⟨2, []⟩ ρ3) :
    compLE gt fYes fe ws (xs.map f) [] ρ = match xs.mapM r with | some ds => .ok (.lst ds) ρ0 | none => .exc ⟨2, []⟩ ρ0 := by
  have key : ∀ (xs : List α) (acc : List D) (ρ : En), wipeE ρ ws = ρ0 → acc.length + xs.length ≤ 16777216 → (∀ a ∈ xs, ∃ ρ1 ρ3, gt (f a) ρ0 = some ρ1 ∧ wipeE ρ3 ws = ρ0 ∧ fe ρ1 = match r a with | some d => .ok d ρ3 | none => .exc ⟨2, []⟩ ρ3) →
      compLE gt fYes fe ws (xs.map f) acc ρ = match xs.mapM r with | some ds => .ok (.lst (acc ++ ds)) ρ0 | none => .exc ⟨2, []⟩ ρ0 := by
    intro xs
    induction xs with
    | nil => intro acc ρ h0 _ _; rw [List.map_nil, compLE_nil, h0]; simp
    | cons a xs ih =>
      intro acc ρ h0 hl h
      obtain ⟨ρ1, ρ3, e1, e2, e3⟩ := h a (by simp)
      rw [List.length_cons] at hl
      rw [List.map_cons, compLE_cons, h0, e1, kCe_some, e3]
      cases hr : r a with
      | none => simp [hr, e2]
      | some d =>
        simp only [kCe2_ok]
        rw [if_pos (by omega), ih (acc ++ [d]) ρ3 e2 (by simp; omega) fun b hm => h b (by simp [hm])]
        rw [List.mapM_cons, hr]
        cases h2 : xs.mapM r with
        | none => simp [h2]
        | some ds => simp [h2]
  have := key xs [] ρ h0 (by simpa using hl) h
  simpa using this
abbrev LWt := Int × Int × Int × Str
def sortB (k : Str) : Bool := k == Str.ofString "free" || k == Str.ofString "way"
theorem sortT (k : Str) : dIn (.str k) (.tup [.str (Str.ofString "free"), .str (Str.ofString "way")]) = some (.bl (sortB k)) := by
  have h : ∀ a : Str, deq (.str a) (.str k) = (k == a) := fun a => by rw [deq, Bool.eq_iff_iff, beq_iff_eq, beq_iff_eq, eq_comm]
  simp only [dIn, inB, flatD, List.all_cons, List.all_nil, Bool.and_self, if_true, List.any_cons, List.any_nil, h, Option.map_some, Bool.or_false, sortB]
theorem goods (fl : Int) (ls : List LWt) : ls.mapM (fun x => if goodL fl x = true then some (liftD x) else none) = if ls.all (goodL fl) = true then some (ls.map liftD) else none := by
  induction ls with
  | nil => simp
  | cons x ls ih =>
    rw [List.mapM_cons, ih]
    rw [List.all_cons]
    cases h : goodL fl x <;> cases h2 : ls.all (goodL fl) <;> rfl
def houseI (fl : Int) (ls : List LWt) (m : Int) (k : Str) : D := .tup [.int fl, .tup (ls.map liftD), .int m, .str k]
abbrev goodH (fl : Int) (ls : List LWt) (m : Int) (k : Str) : Prop := (2 ≤ fl ∧ fl ≤ 8) ∧ (1 ≤ ls.length ∧ ls.length ≤ 3) ∧ (0 ≤ m ∧ m < 2 ^ fl.toNat ∧ m % 2 = 0) ∧ sortB k = true ∧ ls.all (goodL fl) = true
def seqD (t : Bool) (xs : List D) : D := if t = true then .tup xs else .lst xs
theorem made2_eq (fl : Int) (ls : List LWt) (m : Int) (k : Str) (t : Bool) (hl : ls.length ≤ 1000) : F_made_house [.stb (.int fl), .stb (seqD t (ls.map liftD)), .stb (.int m), .stb (.str k)] =
    if goodH fl ls m k then .ok (.stb (houseI fl ls m k)) [] else .exc ⟨2, []⟩ [] := by
  have nd := need_eq
  have lenT : bLen [seqD t (ls.map liftD)] = some (.int ls.length) := by cases t <;> simp [seqD]
  have itT : dItems (seqD t (ls.map liftD)) = some (ls.map liftD) := by cases t <;> rfl
  have ce := compE_fn (gt := gN 4) (fe := E1_made_house) (ws := [4]) (ρ0 := [some (.stb (.int fl)), some (.stb (seqD t (ls.map liftD))), some (.stb (.int m)), some (.stb (.str k)), none]) (ρ := [some (.stb (.int fl)), some (.stb (seqD t (ls.map liftD))), some (.stb (.int m)), some (.stb (.str k)), none])
    liftD (fun x => if goodL fl x = true then some (liftD x) else none) ls (by simp) (by omega) (fun x hm => by
      refine ⟨[some (.stb (.int fl)), some (.stb (seqD t (ls.map liftD))), some (.stb (.int m)), some (.stb (.str k)), some (.stb (liftD x))], [some (.stb (.int fl)), some (.stb (seqD t (ls.map liftD))), some (.stb (.int m)), some (.stb (.str k)), some (.stb (liftD x))], by simp, by simp, ?_⟩
      have := madelift_eq x fl
      by_cases h : goodL fl x = true
      · rw [if_pos h] at this; simp [E1_made_house, this, h]
      · rw [if_neg h] at this; simp [E1_made_house, this, h])
  rw [goods] at ce
  generalize seqD t (ls.map liftD) = sq at *
  have ks := sortT k
  unfold goodH
  by_cases c1 : 2 ≤ fl
  · by_cases c2 : fl ≤ 8
    · have bt := bit_eq fl (by omega) (by omega)
      by_cases c3 : 1 ≤ ls.length
      · have c3' : (1 : Int) ≤ (ls.length : Int) := by omega
        by_cases c4 : ls.length ≤ 3
        · have c4' : (ls.length : Int) ≤ 3 := by omega
          by_cases c0 : 0 ≤ m
          · have hb := has_eq m.toNat 0
            have e0 : ((m.toNat : Nat) : Int) = m := by omega
            have q0 : ((0 : Nat) : Int) = 0 := rfl
            rw [q0, e0] at hb
            have tb : m.toNat.testBit 0 = decide (¬ m % 2 = 0) := by
              rw [Nat.testBit_zero, Bool.eq_iff_iff, decide_eq_true_iff, decide_eq_true_iff]; omega
            rw [tb] at hb
            by_cases c5 : m < 2 ^ fl.toNat
            · generalize (2 : Int) ^ fl.toNat = P at *
              by_cases c6 : m % 2 = 0
              · have d6 : decide (¬ m % 2 = 0) = false := by simp [c6]
                rw [d6] at hb
                cases c7 : sortB k with
                | false =>
                  rw [c7] at ks
                  rw [if_neg (fun q => by simp at q)]
                  simp [F_made_house, b_made_house, nd, bt, c1, c2, lenT, c3', c4', c0, c5, hb, ks]
                | true =>
                  rw [c7] at ks
                  by_cases c8 : ls.all (goodL fl) = true
                  · rw [if_pos c8] at ce
                    rw [if_pos ⟨⟨c1, c2⟩, ⟨c3, c4⟩, ⟨c0, c5, c6⟩, rfl, c8⟩]
                    simp [F_made_house, b_made_house, nd, bt, c1, c2, lenT, itT, c3', c4', c0, c5, hb, ks, ce, houseI]
                  · rw [if_neg c8] at ce
                    rw [if_neg (fun q => c8 q.2.2.2.2)]
                    simp [F_made_house, b_made_house, nd, bt, c1, c2, lenT, itT, c3', c4', c0, c5, hb, ks, ce]
              · have d6 : decide (¬ m % 2 = 0) = true := by simp [c6]
                rw [d6] at hb
                rw [if_neg (fun q => c6 q.2.2.1.2.2)]
                simp [F_made_house, b_made_house, nd, bt, c1, c2, lenT, c3', c4', c0, c5, hb]
            · rw [if_neg (fun q => c5 q.2.2.1.2.1)]
              generalize (2 : Int) ^ fl.toNat = P at *
              simp [F_made_house, b_made_house, nd, bt, c1, c2, lenT, c3', c4', c0, c5]
          · rw [if_neg (fun q => c0 q.2.2.1.1)]
            simp [F_made_house, b_made_house, nd, bt, c1, c2, lenT, c3', c4', c0]
        · have c4' : ¬ (ls.length : Int) ≤ 3 := by omega
          rw [if_neg (fun q => c4 q.2.1.2)]
          simp [F_made_house, b_made_house, nd, c1, c2, lenT, c3', c4']
      · have c3' : ¬ (1 : Int) ≤ (ls.length : Int) := by omega
        rw [if_neg (fun q => c3 q.2.1.1)]
        simp [F_made_house, b_made_house, nd, c1, c2, lenT, c3']
    · rw [if_neg (fun q => c2 q.1.2)]
      simp [F_made_house, b_made_house, nd, c1, c2]
  · rw [if_neg (fun q => c1 q.1.1)]
    simp [F_made_house, b_made_house, nd, c1]
mutual
theorem deq_refl : ∀ (d : D) (n : Nat), okD n d = true → deq d d = true
  | .non, n, h => by simp [deq]
  | .bl b, n, h => by simp [deq]
  | .int i, n, h => by simp [deq]
  | .str x, n, h => by simp [deq]
  | .tup xs, 0, h => by rw [okD] at h <;> first | cases h | simp
  | .tup xs, n + 1, h => by
    rw [okD] at h
    rw [deq]
    exact deqL_refl xs n h
  | .lst xs, 0, h => by rw [okD] at h <;> first | cases h | simp
  | .lst xs, n + 1, h => by
    rw [okD] at h
    rw [deq]
    exact deqL_refl xs n h
  | .ty x, n, h => by rw [okD] at h <;> first | cases h | simp
  | .dct x, n, h => by rw [okD] at h <;> first | cases h | simp
  | .obj x y, n, h => by rw [okD] at h <;> first | cases h | simp
  | .fn x y, n, h => by rw [okD] at h <;> first | cases h | simp
  | .scr x, n, h => by rw [okD] at h <;> first | cases h | simp
theorem deqL_refl : ∀ (ds : List D) (n : Nat), okL n ds = true → deqL ds ds = true
  | [], n, h => by simp [deqL]
  | d :: ds, n, h => by
    rw [okL, Bool.and_eq_true] at h
    rw [deqL, deq_refl d n h.1, deqL_refl ds n h.2]
    rfl
end
theorem dEq_same {d : D} (h : okD 60 d = true) : dEq d d = some (.bl true) := by
  unfold dEq; rw [h, deq_refl d 60 h]; simp
theorem dNe_same {d : D} (h : okD 60 d = true) : dNe d d = some (.bl false) := by
  unfold dNe; rw [h, deq_refl d 60 h]; simp

@[simp] theorem isNon_fn {c : Nat} {xs : List D} : isNon (.fn c xs) = false := nr rfl
def cellAt (ns : List Int) (k : Int) : Int := if k < ns.length then ns.getD k.toNat 0 else 0
theorem cell_eq (ns : List Int) (k : Int) (hk : 0 ≤ k) : F__law_cell [.stb (.scr ns), .stb (.int k)] = .ok (.stb (.int (cellAt ns k))) [] := by
  unfold cellAt
  by_cases h : k < ns.length
  · have ix : atI ns k = some (ns.getD k.toNat 0) := at_nat hk (by
      have hl : k.toNat < ns.length := by omega
      rw [List.getElem?_eq_getElem hl]
      simp [List.getD, List.getElem?_eq_getElem hl])
    rw [if_pos h]
    simp [F__law_cell, b__law_cell, h, ix]
  · rw [if_neg h]
    simp [F__law_cell, b__law_cell, h]
def cellBits (ns : List Int) : Prop := ∀ z ∈ ns, Builtin.Int.intBits z ≤ 1048576
theorem cellAt_bits {ns : List Int} (h : cellBits ns) (k : Int) : Builtin.Int.intBits (cellAt ns k) ≤ 1048576 := by
  unfold cellAt
  by_cases c : k < ns.length
  · rw [if_pos c]
    by_cases c2 : k.toNat < ns.length
    · rw [show ns.getD k.toNat 0 = ns[k.toNat] from by simp [List.getD, List.getElem?_eq_getElem c2]]
      exact h _ (List.getElem_mem c2)
    · rw [show ns.getD k.toNat 0 = 0 from by simp [List.getD, List.getElem?_eq_none (show ns.length ≤ k.toNat by omega)]]
      decide
  · rw [if_neg c]
    decide
def mixAt (ns : List Int) (k : Int) : Int := cellAt ns k * 48271 + 7919 * k * k + 11
def drwAt (ns : List Int) (k p m : Int) : Int := mixAt ns k % p % m
theorem drwAt_nn (ns : List Int) (k p : Int) {m : Int} (h : 0 < m) : 0 ≤ drwAt ns k p m := Int.emod_nonneg _ (by omega)
theorem drwAt_lt (ns : List Int) (k p : Int) {m : Int} (h : 0 < m) : drwAt ns k p m < m := Int.emod_lt_of_pos _ h
theorem drw_eq (ns : List Int) (k p m : Int) (hk : 0 ≤ k) (hk2 : k < 1000000) (hp : 0 < p) (hm : 0 < m) : F__law_draw_v2 [.stb (.scr ns), .stb (.int k), .stb (.int p), .stb (.int m)] = .ok (.stb (.int (drwAt ns k p m))) [] := by
  have c := cell_eq ns k hk
  have m1 : dMul (.int (cellAt ns k)) (.int 48271) = some (.int (cellAt ns k * 48271)) := dMul_r (by omega) (by omega)
  have m2 : dMul (.int 7919) (.int k) = some (.int (7919 * k)) := dMul_l (by omega) (by omega)
  have m3 : dMul (.int (7919 * k)) (.int k) = some (.int (7919 * k * k)) := dMul_r (by omega) (by omega)
  have d1 : dMod (.int (cellAt ns k * 48271 + 7919 * k * k + 11)) (.int p) = some (.int (mixAt ns k % p)) := if_pos hp
  have d2 : dMod (.int (mixAt ns k % p)) (.int m) = some (.int (drwAt ns k p m)) := if_pos hm
  simp [F__law_draw_v2, b__law_draw_v2, c, m1, m2, m3, d1, d2]
theorem bits_le {i : Int} {a : Nat} (h : i.natAbs < 2 ^ a) : Builtin.Int.intBits i ≤ a := by
  unfold Builtin.Int.intBits
  by_cases c : i = 0
  · simp [c]
  · have c2 : ¬ (i == 0) = true := by simpa using c
    rw [if_neg c2]
    have := (Nat.log2_lt (by omega : i.natAbs ≠ 0)).mpr h
    omega
theorem lt_bits {i : Int} {a : Nat} (h : Builtin.Int.intBits i ≤ a) : i.natAbs < 2 ^ a := by
  unfold Builtin.Int.intBits at h
  by_cases c : i = 0
  · rw [c]
    exact Nat.two_pow_pos a
  · have c2 : ¬ (i == 0) = true := by simpa using c
    rw [if_neg c2] at h
    exact (Nat.log2_lt (by omega : i.natAbs ≠ 0)).mp (by omega)
theorem mix_bits {ns : List Int} (h : cellBits ns) (k : Int) (hk : 0 ≤ k) (hk2 : k < 1000000) : Builtin.Int.intBits (mixAt ns k) ≤ 2000000 := by
  have h1 := cellAt_bits h k
  have key : ∀ a : Nat, Builtin.Int.intBits (cellAt ns k) ≤ a → Builtin.Int.intBits (mixAt ns k) ≤ a + 65 := fun a ha => by
    have h2 := lt_bits ha
    apply bits_le
    have p1 : 2 ^ (a + 65) = 2 ^ a * 36893488147419103232 := by rw [Nat.pow_add]
    have p2 := Nat.two_pow_pos a
    rw [p1]
    unfold mixAt
    generalize 2 ^ a = P at *
    generalize cellAt ns k = c at *
    have q : 7919 * k * k ≤ 7919 * 1000000 * 1000000 := by
      have := Int.mul_le_mul (show k ≤ 1000000 by omega) (show k ≤ 1000000 by omega) hk (by omega)
      have e : 7919 * k * k = 7919 * (k * k) := Int.mul_assoc ..
      omega
    have q0 : 0 ≤ 7919 * k * k := Int.mul_nonneg (Int.mul_nonneg (by omega) hk) hk
    omega
  have := key 1048576 h1
  omega
theorem p61 : dPow (.int 2305843009213693951) (.int 4) = some (.int (2305843009213693951 ^ 4)) := rfl
theorem b61 : Builtin.Int.intBits (2305843009213693951 ^ 4) ≤ 300 := by decide +kernel
theorem great_ex {ns : List Int} (h : cellBits ns) (k most : Int) (hk : 0 ≤ k) (hk2 : k < 1000000) (hm : 0 ≤ most) : ∃ g, 0 ≤ g ∧ g ≤ most ∧ F__law_great [.stb (.scr ns), .stb (.int k), .stb (.int most)] = .ok (.stb (.int g)) [] := by
  have c := cell_eq ns k hk
  have m1 : dMul (.int (cellAt ns k)) (.int 48271) = some (.int (cellAt ns k * 48271)) := dMul_r (by omega) (by omega)
  have m2 : dMul (.int 7919) (.int k) = some (.int (7919 * k)) := dMul_l (by omega) (by omega)
  have m3 : dMul (.int (7919 * k)) (.int k) = some (.int (7919 * k * k)) := dMul_r (by omega) (by omega)
  have b := mix_bits h k hk hk2
  have b2 := b61
  have m4 : ∀ P : Int, Builtin.Int.intBits P ≤ 300 → dMulX (.int (cellAt ns k * 48271 + 7919 * k * k + 11)) (.int P) = some (.int (mixAt ns k * P)) := fun P hP => if_pos (show Builtin.Int.intBits (mixAt ns k) + Builtin.Int.intBits P ≤ 100000000 by omega)
  have p := p61
  generalize (2305843009213693951 : Int) ^ 4 = P at *
  have d1 : dMod (.int (mixAt ns k * P)) (.int (most + 1)) = some (.int (mixAt ns k * P % (most + 1))) := if_pos (by omega)
  have m4' := m4 P b2
  refine ⟨mixAt ns k * P % (most + 1), Int.emod_nonneg _ (by omega), by have := Int.emod_lt_of_pos (mixAt ns k * P) (show 0 < most + 1 by omega); omega, ?_⟩
  simp [F__law_great, b__law_great, c, m1, m2, m3, p, m4', d1]
theorem lift_ex (ns : List Int) (k fl : Int) (hk : 0 ≤ k) (hk2 : k < 1000000) (hf : 2 ≤ fl ∧ fl ≤ 8) : ∃ x : LWt, goodL fl x = true ∧ PyData.strOk x.2.2.2 = true ∧ F__law_lift_v2 [.stb (.scr ns), .stb (.int k), .stb (.int fl)] = .ok (.stb (liftD x)) [] := by
  have b : ∀ p m : Int, 0 < m → 0 ≤ drwAt ns k p m ∧ drwAt ns k p m < m := fun p m h => ⟨drwAt_nn ns k p h, drwAt_lt ns k p h⟩
  have b0 := b 10007 3 (by omega)
  have b1 := b 15013 fl (by omega)
  have b2 := b 20011 6 (by omega)
  have b3 := b 25013 4 (by omega)
  have e0 := drw_eq ns k 10007 3 hk hk2 (by omega) (by omega)
  have e1 := drw_eq ns k 15013 fl hk hk2 (by omega) (by omega)
  have e2 := drw_eq ns k 20011 6 hk hk2 (by omega) (by omega)
  have e3 := drw_eq ns k 25013 4 hk hk2 (by omega) (by omega)
  generalize drwAt ns k 10007 3 = q0 at *
  generalize drwAt ns k 15013 fl = q1 at *
  generalize drwAt ns k 20011 6 = q2 at *
  generalize drwAt ns k 25013 4 = q3 at *
  have hkk : ∃ s : Str, kindB s = true ∧ PyData.strOk s = true ∧ atI [D.str (Str.ofString "plain"), .str (Str.ofString "hasty"), .str (Str.ofString "slow")] q0 = some (.str s) := by
    have : q0 = 0 ∨ q0 = 1 ∨ q0 = 2 := by omega
    rcases this with rfl | rfl | rfl
    · exact ⟨Str.ofString "plain", by decide +kernel, by decide +kernel, rfl⟩
    · exact ⟨Str.ofString "hasty", by decide +kernel, by decide +kernel, rfl⟩
    · exact ⟨Str.ofString "slow", by decide +kernel, by decide +kernel, rfl⟩
  obtain ⟨s, hs, ho, es⟩ := hkk
  refine ⟨(q1, 1 + q2, 1 + q3, s), ?_, ho, ?_⟩
  · have d1 : (0 ≤ q1 ∧ q1 < fl) = True := eq_true b1
    have d2 : (1 ≤ 1 + q2 ∧ 1 + q2 ≤ 6) = True := eq_true (by omega)
    have d3 : (1 ≤ 1 + q3 ∧ 1 + q3 ≤ 4) = True := eq_true (by omega)
    simp only [goodL, d1, d2, d3, hs, decide_true, Bool.and_self]
  · simp [F__law_lift_v2, b__law_lift_v2, e0, e1, e2, e3, es, liftD]
theorem sort_ex (d : Int) (h : 0 ≤ d ∧ d < 2) : ∃ k : Str, sortB k = true ∧ PyData.strOk k = true ∧ atI [D.str (Str.ofString "free"), .str (Str.ofString "way")] d = some (.str k) := by
  have : d = 0 ∨ d = 1 := by omega
  rcases this with rfl | rfl
  · exact ⟨Str.ofString "free", by decide +kernel, by decide +kernel, rfl⟩
  · exact ⟨Str.ofString "way", by decide +kernel, by decide +kernel, rfl⟩
theorem shl_ex (fl : Int) (h : 2 ≤ fl ∧ fl ≤ 8) : ∃ PW : Nat, 0 < PW ∧ PW ≤ 128 ∧ dShl (.int 1) (.int fl) = some (.int (2 * (PW : Int))) ∧ (2 : Int) ^ fl.toNat = 2 * PW := by
  have : fl = 2 ∨ fl = 3 ∨ fl = 4 ∨ fl = 5 ∨ fl = 6 ∨ fl = 7 ∨ fl = 8 := by omega
  rcases this with rfl | rfl | rfl | rfl | rfl | rfl | rfl
  · exact ⟨2, by omega, by omega, rfl, rfl⟩
  · exact ⟨4, by omega, by omega, rfl, rfl⟩
  · exact ⟨8, by omega, by omega, rfl, rfl⟩
  · exact ⟨16, by omega, by omega, rfl, rfl⟩
  · exact ⟨32, by omega, by omega, rfl, rfl⟩
  · exact ⟨64, by omega, by omega, rfl, rfl⟩
  · exact ⟨128, by omega, by omega, rfl, rfl⟩
theorem house_core (ns : List Int) (most c q1 lk q2 z s : Int) (PW : Int) (k : Str) (x0 x1 x2 : LWt) (hq : 1 + q1 = 1 ∨ 1 + q1 = 2 ∨ 1 + q1 = 3)
    (e0 : F__law_draw_v2 [.stb (.scr ns), .stb (.int 0), .stb (.int 30011), .stb (.int 7)] = .ok (.stb (.int c)) [])
    (e1 : F__law_draw_v2 [.stb (.scr ns), .stb (.int 0), .stb (.int 35023), .stb (.int most)] = .ok (.stb (.int q1)) [])
    (sh : dShl (.int 1) (.int (2 + c)) = some (.int PW))
    (e2 : F__law_draw_v2 [.stb (.scr ns), .stb (.int 1), .stb (.int 40009), .stb (.int PW)] = .ok (.stb (.int q2)) [])
    (f2 : dFdv (.int q2) (.int 2) = some (.int (q2 / 2))) (m2 : dMul (.int (q2 / 2)) (.int 2) = some (.int (q2 / 2 * 2)))
    (e3 : F__law_draw_v2 [.stb (.scr ns), .stb (.int 1), .stb (.int 45007), .stb (.int 3)] = .ok (.stb (.int z)) [])
    (e4 : F__law_draw_v2 [.stb (.scr ns), .stb (.int 1), .stb (.int 50021), .stb (.int 2)] = .ok (.stb (.int s)) [])
    (ek : atI [D.str (Str.ofString "free"), .str (Str.ofString "way")] s = some (.str k))
    (l0 : F__law_lift_v2 [.stb (.scr ns), .stb (.int 2), .stb (.int (2 + c))] = .ok (.stb (liftD x0)) [])
    (l1 : F__law_lift_v2 [.stb (.scr ns), .stb (.int 3), .stb (.int (2 + c))] = .ok (.stb (liftD x1)) [])
    (l2 : F__law_lift_v2 [.stb (.scr ns), .stb (.int 4), .stb (.int (2 + c))] = .ok (.stb (liftD x2)) []) :
    F__law_house_v2 [.stb (.scr ns), .stb (.int most)] = .ok (.stb (houseI (2 + c) ([x0, x1, x2].take (1 + q1).toNat) (if 0 < z then 0 else q2 / 2 * 2) k)) [] := by
  have r1 : gRng1 [.int 1] = some [.int 0] := rfl
  have r2 : gRng1 [.int 2] = some [.int 0, .int 1] := rfl
  have r3 : gRng1 [.int 3] = some [.int 0, .int 1, .int 2] := rfl
  by_cases hz : 0 < z <;> rcases hq with h | h | h <;> simp [F__law_house_v2, b__law_house_v2, E1__law_house_v2, e0, e1, h, sh, e2, f2, m2, e3, hz, e4, ek, r1, r2, r3, compL_cons', compL_nil', l0, l1, l2, houseI]
theorem house_ex (ns : List Int) (most : Int) (hm : 1 ≤ most ∧ most ≤ 3) : ∃ (fl : Int) (ls : List LWt) (m : Int) (k : Str), goodH fl ls m k ∧ (ls.all (fun x => PyData.strOk x.2.2.2) = true ∧ PyData.strOk k = true) ∧ (ls.length : Int) ≤ most ∧
    F__law_house_v2 [.stb (.scr ns), .stb (.int most)] = .ok (.stb (houseI fl ls m k)) [] := by
  have b : ∀ k p m : Int, 0 < m → 0 ≤ drwAt ns k p m ∧ drwAt ns k p m < m := fun k p m h => ⟨drwAt_nn ns k p h, drwAt_lt ns k p h⟩
  have b0 := b 0 30011 7 (by omega)
  have b1 := b 0 35023 most (by omega)
  have b4 := b 1 50021 2 (by omega)
  have e0 := drw_eq ns 0 30011 7 (by omega) (by omega) (by omega) (by omega)
  have e1 := drw_eq ns 0 35023 most (by omega) (by omega) (by omega) (by omega)
  have e3 := drw_eq ns 1 45007 3 (by omega) (by omega) (by omega) (by omega)
  have e4 := drw_eq ns 1 50021 2 (by omega) (by omega) (by omega) (by omega)
  obtain ⟨k, hs, hks, ek⟩ := sort_ex _ b4
  generalize drwAt ns 0 30011 7 = c at *
  generalize drwAt ns 0 35023 most = q1 at *
  generalize drwAt ns 1 45007 3 = z at *
  generalize drwAt ns 1 50021 2 = s at *
  obtain ⟨PW, hp, hpb, sh, pe⟩ := shl_ex (2 + c) (by omega)
  have b2 := b 1 40009 (2 * PW) (by omega)
  have e2 := drw_eq ns 1 40009 (2 * PW) (by omega) (by omega) (by omega) (by omega)
  generalize drwAt ns 1 40009 (2 * PW) = q2 at *
  obtain ⟨x0, g0, o0, l0⟩ := lift_ex ns 2 (2 + c) (by omega) (by omega) (by omega)
  obtain ⟨x1, g1, o1, l1⟩ := lift_ex ns 3 (2 + c) (by omega) (by omega) (by omega)
  obtain ⟨x2, g2, o2, l2⟩ := lift_ex ns 4 (2 + c) (by omega) (by omega) (by omega)
  have hq : 1 + q1 = 1 ∨ 1 + q1 = 2 ∨ 1 + q1 = 3 := by omega
  have hc := house_core ns most c q1 0 q2 z s (2 * PW) k x0 x1 x2 hq e0 e1 sh e2 (dFdv_pos (by omega) (by omega)) (dMul_r (by omega) (by omega)) e3 e4 ek l0 l1 l2
  refine ⟨_, _, _, _, ?_, ⟨?_, hks⟩, ?_, hc⟩
  · refine ⟨by omega, ?_, ?_, hs, ?_⟩
    · rcases hq with h | h | h <;> rw [h] <;> simp
    · rw [pe]
      by_cases hz : 0 < z
      · rw [if_pos hz]; omega
      · rw [if_neg hz]; omega
    · rcases hq with h | h | h <;> rw [h] <;> simp [g0, g1, g2]
  · rcases hq with h | h | h <;> rw [h] <;> simp [o0, o1, o2]
  · rcases hq with h | h | h <;> rw [h] <;> simp <;> omega

def nO (z : Str) : Option Int := numO z.cps.toList
theorem nO_nn {z : Str} {n : Int} (h : nO z = some n) : 0 ≤ n := by
  unfold nO numO at h
  split at h
  · cases h
  · split at h
    · cases h
    · split at h
      · cases h
      · cases h; omega
abbrev okS (z : Str) : Prop := PySem.PyData.strOk z = true
theorem okS_app {a b : Str} : okS (a ++ b) ↔ okS a ∧ okS b := by
  unfold okS PySem.PyData.strOk
  rw [PySem.Str.cps_append, Array.all_append, Bool.and_eq_true]
theorem okS_part (y : Str) : ∀ (l : List Str) (w : Str), w ∈ l → okS (Str.join y l) → okS w
  | [], w, h, _ => by cases h
  | [x], w, h, k => by
    rw [List.mem_singleton] at h
    subst h
    exact k
  | x :: z :: r, w, h, k => by
    have k : okS (x ++ y ++ Str.join y (z :: r)) := k
    rw [okS_app, okS_app] at k
    rcases List.mem_cons.mp h with h | h
    · subst h; exact k.1.1
    · exact okS_part y (z :: r) w h k.2
theorem join_ge (y : Str) : ∀ (l : List Str) (w : Str), w ∈ l → w.length ≤ (Str.join y l).length
  | [], w, h => by cases h
  | [x], w, h => by
    rw [List.mem_singleton] at h
    subst h
    exact Nat.le_refl _
  | x :: z :: r, w, h => by
    show _ ≤ (x ++ y ++ Str.join y (z :: r)).length
    rw [PySem.Str.length_append, PySem.Str.length_append]
    rcases List.mem_cons.mp h with h | h
    · subst h; omega
    · have := join_ge y (z :: r) w h
      omega
theorem split_len (p y : Str) : ∀ w ∈ Txt.split p y, w.length ≤ p.length := by
  intro w hw
  have := join_ge y _ w hw
  rw [StrLaws.join_split] at this
  exact this
theorem split_okS (p y : Str) (hp : okS p) : ∀ w ∈ Txt.split p y, okS w := by
  intro w hw
  exact okS_part y _ w hw (by rw [StrLaws.join_split]; exact hp)
theorem split_len2 (p y : Str) : 1 ≤ (Txt.split p y).length ∧ (Txt.split p y).length ≤ p.length + 2 := by
  unfold Txt.split
  split
  · simp
  · split
    · simp
    · rw [PySem.length_partsBetween]
      have := StrLaws.occ_length_le p y 0 p.length (p.length + 1)
      omega
theorem split_count (p y : Str) : (Txt.split p y).length ≤ p.length + 2 := (split_len2 p y).2
theorem split_nn (p y : Str) : Txt.split p y ≠ [] := fun e => by
  have := (split_len2 p y).1
  rw [e] at this
  simp at this
def free (c : Nat) (z : Str) : Prop := c ∉ z.cps.toList
theorem okS_join {y : Str} (hy : okS y) : ∀ l : List Str, (∀ p ∈ l, okS p) → okS (Str.join y l)
  | [], _ => by show okS Str.empty; decide +kernel
  | [x], h => h x (by simp)
  | x :: z :: r, h => by
    show okS (x ++ y ++ Str.join y (z :: r))
    rw [okS_app, okS_app]
    exact ⟨⟨h x (by simp), hy⟩, okS_join hy (z :: r) fun p hp => h p (by simp [hp])⟩
theorem len_join {y : Str} {n : Nat} : ∀ l : List Str, (∀ p ∈ l, p.length ≤ n) → (Str.join y l).length ≤ l.length * (n + y.length)
  | [], _ => by show Str.empty.length ≤ _; have : Str.empty.length = 0 := rfl; omega
  | [x], h => by
    show x.length ≤ _
    have := h x (by simp)
    simp
    omega
  | x :: z :: r, h => by
    show (x ++ y ++ Str.join y (z :: r)).length ≤ _
    rw [PySem.Str.length_append, PySem.Str.length_append]
    have h1 := h x (by simp)
    have h2 := len_join (y := y) (n := n) (z :: r) fun p hp => h p (by simp [hp])
    rw [List.length_cons, Nat.succ_mul]
    omega
theorem sum_le (l : List Str) (n : Nat) (h : ∀ p ∈ l, p.length ≤ n) : (l.map (·.length)).sum ≤ l.length * n := by
  induction l with
  | nil => simp
  | cons a l ih =>
    have h1 := h a (by simp)
    have h2 := ih fun p hp => h p (by simp [hp])
    rw [List.map_cons, List.sum_cons, List.length_cons, Nat.succ_mul]
    omega
theorem mjoin_ok (y : Str) (l : List Str) (n : Nat) (h : ∀ p ∈ l, p.length ≤ n) (hb : l.length * n + l.length * y.length ≤ 16777216) : mJoin y (.lst (l.map .str)) = some (.str (Txt.join y l)) := by
  have h1 := sum_le l n h
  show ((strsD (l.map D.str)).bind fun ys => if (ys.map (·.length)).sum + ys.length * y.length ≤ LIM then some (D.str (Txt.join y ys)) else none) = _
  rw [strsD_map]
  show (if _ then _ else _) = _
  rw [if_pos]
  show _ ≤ 16777216
  omega
def numS (n : Nat) : Str := ⟨#[48 + n]⟩
theorem numS_eq : ∀ n : Nat, n < 10 → Str.ofString (toString (n : Int)) = numS n := by decide +kernel
theorem nO_num : ∀ n : Nat, n < 10 → nO (numS n) = some (n : Int) := by decide +kernel
theorem bStr_num (n : Nat) (h : n < 10) : bStr [.int n] = some (.str (numS n)) := by
  have hl : ∀ n : Nat, n < 10 → Nat.log2 n < 1920 := by decide
  show (if ((n : Int).natAbs.log2 < 1920) then some (D.str (Str.ofString (toString (n : Int)))) else none) = _
  rw [if_pos (by rw [Int.natAbs_natCast]; exact hl n h), numS_eq n h]
theorem cat (x y : Str) (h : x.length + y.length ≤ 16777216) : dAdd (.str x) (.str y) = some (.str (x ++ y)) := by
  show (if x.length + y.length ≤ LIM then some (D.str (x ++ y)) else none) = _
  rw [if_pos (show _ ≤ LIM from h)]
theorem chr_ok (z : Str) (j : Int) (hz : z.length ≤ 16777216) (ho : okS z) (h0 : 0 ≤ j) (h1 : j < z.length) : ∃ t : Str, t.length = 1 ∧ okS t ∧ dIx (.str z) (.int j) = some (.str t) := by
  have hj : j.toNat < z.cps.toList.length := by rw [← len_cps]; omega
  refine ⟨⟨#[z.cps.toList[j.toNat]]⟩, rfl, ?_, ?_⟩
  · unfold okS PySem.PyData.strOk at ho ⊢
    have := Array.all_eq_true.mp ho j.toNat (by simpa using hj)
    simpa using this
  · show (if z.length ≤ LIM then (atI z.cps.toList j).map fun c => D.str ⟨#[c]⟩ else none) = _
    rw [if_pos (show z.length ≤ LIM from hz), at_nat h0 (List.getElem?_eq_getElem hj)]
    rfl
theorem okS_cut {z : Str} (h : okS z) (lo hi : Option Int) : okS (cutS z lo hi) := by
  unfold okS PySem.PyData.strOk at h ⊢
  show (((z.cps.toList.drop (HT.sIx z.length 0 lo)).take (HT.sIx z.length z.length hi - HT.sIx z.length 0 lo)).toArray).all _ = true
  rw [List.all_toArray, List.all_eq_true]
  intro c hc
  have hm : c ∈ z.cps.toList := List.mem_of_mem_drop (List.mem_of_mem_take hc)
  have := Array.all_eq_true'.mp h c (by simpa using hm)
  simpa using this
theorem free_num (c n : Nat) (hc : c < 48 ∨ 57 < c) (hn : n < 10) : free c (numS n) := by unfold free numS; simp; omega
theorem split_some (p : Str) (hp : p.length ≤ 100000) : mSplit p (.str (Str.ofString " ")) = some (.lst ((Txt.split p (Str.ofString " ")).map .str)) := by
  have h1 : ((Str.ofString " ").length == 0) = false := by decide +kernel
  show (if ((Str.ofString " ").length == 0) = false ∧ p.length + 2 ≤ LIM then some (D.lst ((Txt.split p (Str.ofString " ")).map .str)) else none) = _
  rw [if_pos ⟨h1, Nat.le_trans (Nat.add_le_add_right hp 2) (by decide)⟩]
theorem p10_57 : dPow (.int 10) (.int 57) = some (.int 1000000000000000000000000000000000000000000000000000000000) := rfl
theorem p10_58 : dPow (.int 10) (.int 58) = some (.int 10000000000000000000000000000000000000000000000000000000000) := rfl
theorem tag_ex {ns : List Int} (h : cellBits ns) (k : Int) (hk : 0 ≤ k) (hk2 : k < 1000000) : ∃ t, F__law_tag [.stb (.scr ns), .stb (.int k)] = .ok (.stb (.int t)) [] := by
  obtain ⟨g, _, _, eg⟩ := great_ex h 5 1000000000000000000000000000000000000000000000000000000000 (by omega) (by omega) (by omega)
  have e0 := drw_eq ns 5 50021 3 (by omega) (by omega) (by omega) (by omega)
  have p57 := p10_57
  have p58 := p10_58
  have m1 : dMul (.int g) (.int 100) = some (.int (g * 100)) := dMul_r (by omega) (by omega)
  have m2 : ∀ P : Int, dMul (.int k) (.int P) = some (.int (k * P)) := fun P => dMul_l (by omega) (by omega)
  generalize drwAt ns 5 50021 3 = q at *
  by_cases c0 : q = 0
  · subst c0
    exact ⟨k, by simp [F__law_tag, b__law_tag, e0, p57, eg]⟩
  by_cases c1 : q = 1
  · subst c1
    exact ⟨g * 100 + k, by simp [F__law_tag, b__law_tag, e0, p57, eg, m1]⟩
  · exact ⟨k * 10000000000000000000000000000000000000000000000000000000000 + g, by simp [F__law_tag, b__law_tag, e0, p57, p58, eg, m2, c0, c1]⟩
theorem eqStr (w v : Str) : dEq (.str w) (.str v) = some (.bl (w == v)) := by simp [dEq, scalD, deq]
theorem comp_at {α : Type} {ft : En → Rs Bool} {fe : En → Rs D} {i : Nat} {ρ : En} (f : α → D) (p : α → Bool) (g : α → D) (xs : List α) (hl : xs.length ≤ 16777216)
    (h : ∀ a ∈ xs, ft (ρ.set i (some (.stb (f a)))) = .ok (p a) (ρ.set i (some (.stb (f a)))) ∧ (p a = true → fe (ρ.set i (some (.stb (f a)))) = .ok (g a) (ρ.set i (some (.stb (f a)))))) :
    compL (gN i) ft fe [i] (xs.map f) [] ρ = .ok (.lst ((xs.filter p).map g)) (ρ.set i none) :=
  comp_fn (ρ0 := ρ.set i none) f p g xs (by simp [wipeE]) hl fun a ha => by
    obtain ⟨h1, h2⟩ := h a ha
    refine ⟨ρ.set i (some (.stb (f a))), ρ.set i (some (.stb (f a))), by simp [gN], h1, fun _ => by simp [wipeE], fun e => ⟨_, h2 e, by simp [wipeE]⟩⟩
theorem comp_all {α : Type} {fe : En → Rs D} {i : Nat} {ρ : En} (f : α → D) (g : α → D) (xs : List α) (hl : xs.length ≤ 16777216)
    (h : ∀ a ∈ xs, fe (ρ.set i (some (.stb (f a)))) = .ok (g a) (ρ.set i (some (.stb (f a))))) :
    compL (gN i) fYes fe [i] (xs.map f) [] ρ = .ok (.lst (xs.map g)) (ρ.set i none) := by
  have z := comp_at (ft := fYes) (fe := fe) (i := i) (ρ := ρ) f (fun _ => true) g xs hl fun a ha => ⟨by simp, fun _ => h a ha⟩
  rw [List.filter_eq_self.mpr (fun _ _ => rfl)] at z
  exact z
theorem comp_exi {α : Type} {fe : En → Rs D} {i : Nat} {ρ : En} (f : α → D) (P : α → Prop) (ds : List D) (hl : ds.length ≤ 16777216)
    (h : ∀ d ∈ ds, ∃ a, P a ∧ fe (ρ.set i (some (.stb d))) = .ok (f a) (ρ.set i (some (.stb d)))) : ∃ l : List α, l.length = ds.length ∧ (∀ a ∈ l, P a) ∧ compL (gN i) fYes fe [i] ds [] ρ = .ok (.lst (l.map f)) (ρ.set i none) :=
  comp_ex (ρ0 := ρ.set i none) f P ds (by simp [wipeE]) hl fun d hd => by
    obtain ⟨a, hp, e⟩ := h d hd
    exact ⟨a, ρ.set i (some (.stb d)), ρ.set i (some (.stb d)), by simp [gN], e, by simp [wipeE], hp⟩
/-- cabins, riders -/
abbrev Cab := Int × Int × Int × Int × List (Int × Int)
def prD (x : Int × Int) : D := .tup [.int x.1, .int x.2]
def cabE (c : Cab) : D := .tup [.int c.1, .int c.2.1, .int c.2.2.1, .int c.2.2.2.1, .tup (c.2.2.2.2.map prD)]
abbrev Rid := Int × Int × Int × Int
def ridD (r : Rid) : D := .tup [.int r.1, .int r.2.1, .int r.2.2.1, .int r.2.2.2]
def goalP (p l : Int) (a : Nat) : Bool := decide (2 * (a : Int) = p) || decide (0 < (2 * (a : Int) - p) * l)
def goalsL (fl p l : Int) (al : Bool) : List Nat := if al = true then List.range fl.toNat else (List.range fl.toNat).filter (goalP p l)
theorem goals_eq (fl m : Int) (ls : List LWt) (so : Str) (p l : Int) (fire al : Bool) (hf : 2 ≤ fl ∧ fl ≤ 8) (hl : -2 < l ∧ l < 2) (hal : al = (so == Str.ofString "free" || fire)) :
    F__law_goals [.stb (houseI fl ls m so), .stb (.int p), .stb (.int l), .stb (.bl fire)] = .ok (if al = true then .stb (.lst ((goalsL fl p l al).map fun k : Nat => .int (k : Int))) else .lst ((goalsL fl p l al).map fun k : Nat => .int (k : Int))) [] := by
  have e1 := eqStr so (Str.ofString "free")
  have er : dLrg (.int fl) = some (rngD 0 fl.toNat) := dLrg_int (by omega) (by omega)
  have rr : rngD 0 fl.toNat = (List.range fl.toNat).map fun k : Nat => .int (k : Int) := by simp [rngD]
  have h0 : atI [D.int fl, .tup (ls.map liftD), .int m, .str so] 0 = some (.int fl) := at0
  rw [rr] at er
  subst hal
  unfold goalsL houseI
  cases hb : (so == Str.ofString "free") with
  | true =>
    rw [hb] at e1
    simp [F__law_goals, b__law_goals, e1, er, h0]
  | false =>
    rw [hb] at e1
    cases fire with
    | true => simp [F__law_goals, b__law_goals, e1, er, h0]
    | false =>
      have c := comp_at (ft := (fOr (fTest (fBin dEq (fBin dMul (fC (.int 2)) (fVar 5)) (fVar 1))) (fTest (fBin dGt (fBin dMul (fBin dSub (fBin dMul (fC (.int 2)) (fVar 5)) (fVar 1)) (fVar 2)) (fC (.int 0)))))) (fe := fVar 5) (i := 5)
        (ρ := [some (.stb (houseI fl ls m so)), some (.stb (.int p)), some (.stb (.int l)), some (.stb (.bl false)), some (.stb (.lst ((List.range fl.toNat).map fun k : Nat => .int (k : Int)))), none])
        (fun k : Nat => D.int (k : Int)) (goalP p l) (fun k : Nat => D.int (k : Int)) (List.range fl.toNat) (by simp; omega) (fun a ha => by
          have ha' := List.mem_range.mp ha
          have m1 : dMul (.int 2) (.int (a : Int)) = some (.int (2 * (a : Int))) := dMul_l (by omega) (by omega)
          have m2 : dMul (.int (2 * (a : Int) - p)) (.int l) = some (.int ((2 * (a : Int) - p) * l)) := dMul_r (by omega) (by omega)
          unfold goalP
          refine ⟨?_, fun _ => by simp⟩
          by_cases c1 : 2 * (a : Int) = p
          · simp [m1, c1]
          · by_cases c2 : 0 < (2 * (a : Int) - p) * l <;> simp [m1, m2, c1, c2])
      unfold houseI at c
      simp [F__law_goals, b__law_goals, e1, er, h0, c]
theorem goals_ne (fl p l : Int) (al : Bool) (hf : 2 ≤ fl ∧ fl ≤ 8) (hp : 0 ≤ p ∧ p ≤ 2 * fl - 2) (hl : l = -1 ∨ l = 0 ∨ l = 1) (hz : l = 0 → p % 2 = 0) : 0 < (goalsL fl p l al).length := by
  unfold goalsL
  cases al with
  | true => simp; omega
  | false =>
    rw [if_neg (by simp)]
    apply List.length_pos_of_mem (a := if p % 2 = 0 then (p / 2).toNat else if l = 1 then ((p + 1) / 2).toNat else ((p - 1) / 2).toNat)
    rw [List.mem_filter, List.mem_range]
    unfold goalP
    rcases hl with rfl | rfl | rfl
    · by_cases h : p % 2 = 0
      · rw [if_pos h]
        exact ⟨by omega, by rw [show 2 * (((p / 2).toNat : Nat) : Int) = p by omega]; simp⟩
      · rw [if_neg h, if_neg (by omega)]
        refine ⟨by omega, ?_⟩
        have : 2 * ((((p - 1) / 2).toNat : Nat) : Int) = p - 1 := by omega
        rw [this]
        simp; omega
    · rw [if_pos (hz rfl)]
      have := hz rfl
      exact ⟨by omega, by rw [show 2 * (((p / 2).toNat : Nat) : Int) = p by omega]; simp⟩
    · by_cases h : p % 2 = 0
      · rw [if_pos h]
        exact ⟨by omega, by rw [show 2 * (((p / 2).toNat : Nat) : Int) = p by omega]; simp⟩
      · rw [if_neg h, if_pos rfl]
        refine ⟨by omega, ?_⟩
        have : 2 * ((((p + 1) / 2).toNat : Nat) : Int) = p + 1 := by omega
        rw [this]
        simp; omega
theorem goals_mem {fl p l : Int} {al : Bool} {g : Nat} (h : g ∈ goalsL fl p l al) : (g : Int) < fl ∧ (al = false → 2 * (g : Int) = p ∨ 0 < (2 * (g : Int) - p) * l) := by
  unfold goalsL at h
  cases al with
  | true =>
    rw [if_pos rfl, List.mem_range] at h
    exact ⟨by omega, fun z => by cases z⟩
  | false =>
    rw [if_neg (by simp), List.mem_filter, List.mem_range] at h
    refine ⟨by omega, fun _ => ?_⟩
    have h2 := h.2
    unfold goalP at h2
    simpa using h2
structure CabOk (fl room turns : Int) (al : Bool) (c : Cab) : Prop where
  pl : 0 ≤ c.1 ∧ c.1 ≤ 2 * fl - 2
  li : c.2.1 = -1 ∨ c.2.1 = 0 ∨ c.2.1 = 1
  od : c.1 % 2 = 1 → c.2.1 ≠ 0 ∧ c.2.2.1 = 0
  dr : 0 ≤ c.2.2.1 ∧ c.2.2.1 ≤ turns
  mr : 0 ≤ c.2.2.2.1 ∧ c.2.2.2.1 ≤ 3
  ab : (c.2.2.2.2.length : Int) ≤ room
  go : ∀ a ∈ c.2.2.2.2, 0 ≤ a.2 ∧ a.2 < fl ∧ (al = false → 2 * a.2 = c.1 ∨ 0 < (2 * a.2 - c.1) * c.2.1)
  ou : al = false → c.2.2.2.2 ≠ [] → c.2.1 ≠ 0
theorem marks_ex (q : Int) (h : 0 ≤ q ∧ q < 6) : ∃ m : Int, (0 ≤ m ∧ m ≤ 3) ∧ atI [D.int 0, .int 0, .int 0, .int 1, .int 2, .int 3] q = some (.int m) := by
  have : q = 0 ∨ q = 1 ∨ q = 2 ∨ q = 3 ∨ q = 4 ∨ q = 5 := by omega
  rcases this with rfl | rfl | rfl | rfl | rfl | rfl
  · exact ⟨0, by omega, rfl⟩
  · exact ⟨0, by omega, rfl⟩
  · exact ⟨0, by omega, rfl⟩
  · exact ⟨1, by omega, rfl⟩
  · exact ⟨2, by omega, rfl⟩
  · exact ⟨3, by omega, rfl⟩
theorem cab_loop {ns : List Int} (hb : cellBits ns) (at_ fl m p l d mk i : Int) (n : Nat) (ls : List LWt) (so : Str) (fire : Bool) (x : LWt) (gs : List Nat) (hat : 0 ≤ at_ ∧ at_ < 900000) (hi : 0 ≤ i ∧ i < 10) (hn : n ≤ 6) (hg : 0 < gs.length) (hg2 : gs.length ≤ 1000) (z13 z14 : Option O) :
    ∃ (ab : List (Int × Int)) (y13 y14 : Option O), ab.length = n ∧ (∀ a ∈ ab, ∃ g ∈ gs, a.2 = (g : Int)) ∧
      forL (gN 13) L1__law_cabin (rngD 0 n) [some (.stb (.scr ns)), some (.stb (.int at_)), some (.stb (houseI fl ls m so)), some (.stb (.int i)), some (.stb (.bl fire)), some (.stb (liftD x)), some (.stb (.int p)), some (.stb (.int l)), some (.stb (.int n)), some (.stb (.int d)), some (.stb (.int mk)), some (.stb (.lst (gs.map fun k : Nat => .int (k : Int)))), some (.lst []), z13, z14]
        = .nxt [some (.stb (.scr ns)), some (.stb (.int at_)), some (.stb (houseI fl ls m so)), some (.stb (.int i)), some (.stb (.bl fire)), some (.stb (liftD x)), some (.stb (.int p)), some (.stb (.int l)), some (.stb (.int n)), some (.stb (.int d)), some (.stb (.int mk)), some (.stb (.lst (gs.map fun k : Nat => .int (k : Int)))), some (.lst (ab.map prD)), y13, y14] := by
  obtain ⟨ρ, e, ab, y13, y14, hl, hm, hρ⟩ := forL_go (gt := gN 13) (body := L1__law_cabin)
    (fun j ρ => ∃ (ab : List (Int × Int)) (y13 y14 : Option O), ab.length = j ∧ (∀ a ∈ ab, ∃ g ∈ gs, a.2 = (g : Int)) ∧ ρ = [some (.stb (.scr ns)), some (.stb (.int at_)), some (.stb (houseI fl ls m so)), some (.stb (.int i)), some (.stb (.bl fire)), some (.stb (liftD x)), some (.stb (.int p)), some (.stb (.int l)), some (.stb (.int n)), some (.stb (.int d)), some (.stb (.int mk)), some (.stb (.lst (gs.map fun k : Nat => .int (k : Int)))), some (.lst (ab.map prD)), y13, y14])
    (ds := rngD 0 n) (ρ := [some (.stb (.scr ns)), some (.stb (.int at_)), some (.stb (houseI fl ls m so)), some (.stb (.int i)), some (.stb (.bl fire)), some (.stb (liftD x)), some (.stb (.int p)), some (.stb (.int l)), some (.stb (.int n)), some (.stb (.int d)), some (.stb (.int mk)), some (.stb (.lst (gs.map fun k : Nat => .int (k : Int)))), some (.lst []), z13, z14]) ⟨[], z13, z14, rfl, by simp, rfl⟩ (by
      rintro j dd ρ hj ⟨ab, y13, y14, hl, hm, rfl⟩
      have hjn : j < n := by
        have := (List.getElem?_eq_some_iff.mp hj).1
        simpa [rngD] using this
      have hd : dd = .int (j : Int) := by
        unfold rngD at hj
        rw [List.getElem?_map, List.getElem?_range hjn] at hj
        simpa using hj.symm
      subst hd
      have e0 := drw_eq ns (at_ + 1 + j) 40013 gs.length (by omega) (by omega) (by omega) (by omega)
      have b0 : 0 ≤ drwAt ns (at_ + 1 + j) 40013 gs.length ∧ drwAt ns (at_ + 1 + j) 40013 gs.length < gs.length := ⟨drwAt_nn ns _ _ (by omega), drwAt_lt ns _ _ (by omega)⟩
      obtain ⟨t, et⟩ := tag_ex hb (6 * i + j) (by omega) (by omega)
      have m6 : dMul (.int 6) (.int i) = some (.int (6 * i)) := dMul_l (by omega) (by omega)
      generalize drwAt ns (at_ + 1 + j) 40013 gs.length = q at *
      have hq : gs[q.toNat]? = some (gs[q.toNat]'(by omega)) := List.getElem?_eq_getElem (by omega)
      have ei : atI (gs.map fun k : Nat => D.int (k : Int)) q = some (.int ((gs[q.toNat]'(by omega) : Nat) : Int)) := at_nat (by omega) (by rw [List.getElem?_map, hq]; rfl)
      have lab : ab.length < 16777216 := by omega
      have hgm : gs[q.toNat]'(by omega) ∈ gs := List.getElem_mem _
      generalize gs[q.toNat]'(by omega) = g0 at *
      simp [L1__law_cabin, e0, ei, et, m6, lab]
      exact ⟨ab ++ [(t, (g0 : Int))], by simp; omega, by
        intro a b ha
        rcases List.mem_append.mp ha with ha | ha
        · exact hm (a, b) ha
        · rw [List.mem_singleton] at ha
          cases ha
          exact ⟨g0, hgm, rfl⟩, by simp [prD]⟩)
  have hln : (rngD 0 n).length = n := by simp [rngD]
  rw [hln] at hl
  exact ⟨ab, y13, y14, hl, hm, by rw [e, hρ]⟩



theorem imm_prsE : ∀ ab : List (Int × Int), immL (ab.map prD) = true
  | [] => by simp
  | x :: r => by simp [prD, imm_prsE r, imm]
theorem noFn_int {i : Int} : noFn (.int i) = true := by simp [noFn]
theorem cabin_ex {ns : List Int} (hb : cellBits ns) (at_ fl m i : Int) (ls : List LWt) (so : Str) (fire : Bool) (x : LWt) (hat : 0 ≤ at_ ∧ at_ < 900000) (hi : 0 ≤ i ∧ i < 10) (hf : 2 ≤ fl ∧ fl ≤ 8) (ix : atI (ls.map liftD) i = some (liftD x)) (hx : goodL fl x = true) (hso : sortB so = true) :
    ∃ c : Cab, CabOk fl x.2.1 x.2.2.1 (so == Str.ofString "free" || fire) c ∧ F__law_cabin [.stb (.scr ns), .stb (.int at_), .stb (houseI fl ls m so), .stb (.int i), .stb (.bl fire)] = .ok (.stb (cabE c)) [] := by
  have hx2 : 1 ≤ x.2.1 ∧ x.2.1 ≤ 6 := by
    unfold goodL at hx
    simp at hx
    omega
  have hx3 : 1 ≤ x.2.2.1 ∧ x.2.2.1 ≤ 4 := by
    unfold goodL at hx
    simp at hx
    omega
  have b : ∀ k p m : Int, 0 < m → 0 ≤ drwAt ns k p m ∧ drwAt ns k p m < m := fun k p m h => ⟨drwAt_nn ns k p h, drwAt_lt ns k p h⟩
  have b0 := b at_ 10009 (2 * fl - 1) (by omega)
  have b1 := b at_ 15017 3 (by omega)
  have b2 := b at_ 20021 (x.2.1 + 1) (by omega)
  have b3 := b at_ 25031 2 (by omega)
  have b4 := b at_ 30013 (x.2.2.1 + 1) (by omega)
  have b5 := b at_ 35027 6 (by omega)
  have e0 := drw_eq ns at_ 10009 (2 * fl - 1) (by omega) (by omega) (by omega) (by omega)
  have e1 := drw_eq ns at_ 15017 3 (by omega) (by omega) (by omega) (by omega)
  have e2 := drw_eq ns at_ 20021 (x.2.1 + 1) (by omega) (by omega) (by omega) (by omega)
  have e3 := drw_eq ns at_ 25031 2 (by omega) (by omega) (by omega) (by omega)
  have e4 := drw_eq ns at_ 30013 (x.2.2.1 + 1) (by omega) (by omega) (by omega) (by omega)
  have e5 := drw_eq ns at_ 35027 6 (by omega) (by omega) (by omega) (by omega)
  generalize drwAt ns at_ 10009 (2 * fl - 1) = p at *
  generalize drwAt ns at_ 15017 3 = l0 at *
  generalize drwAt ns at_ 20021 (x.2.1 + 1) = n at *
  generalize drwAt ns at_ 25031 2 = l1 at *
  generalize drwAt ns at_ 30013 (x.2.2.1 + 1) = d at *
  generalize drwAt ns at_ 35027 6 = q at *
  obtain ⟨mk, hmk, ek⟩ := marks_ex q (by omega)
  have h2 : dMul (.int 2) (.int fl) = some (.int (2 * fl)) := dMul_l (by omega) (by omega)
  have h3 : dMul (.int 2) (.int l1) = some (.int (2 * l1)) := dMul_l (by omega) (by omega)
  have h4 : dMod (.int p) (.int 2) = some (.int (p % 2)) := dMod_pos (by omega)
  have w1 := eqStr so (Str.ofString "way")
  have hway : (so == Str.ofString "way") = !(so == Str.ofString "free") := by
    unfold sortB at hso
    rw [Bool.or_eq_true] at hso
    rcases hso with h | h
    · have e : so = Str.ofString "free" := by simpa using h
      subst e
      decide +kernel
    · have e : so = Str.ofString "way" := by simpa using h
      subst e
      decide +kernel
  let cnd : Bool := decide (l0 - 1 = 0) && (decide (p % 2 = 1) || (so == Str.ofString "way") && decide (0 < n) && !fire)
  let l : Int := if cnd = true then 1 - 2 * l1 else l0 - 1
  have hl2 : l = 1 - 2 * l1 ∨ l = l0 - 1 := by
    by_cases c : cnd = true
    · exact .inl (if_pos c)
    · exact .inr (if_neg c)
  have hl : l = -1 ∨ l = 0 ∨ l = 1 := by omega
  have hl0 : p % 2 = 1 → l ≠ 0 := fun h => by
    show (if cnd = true then 1 - 2 * l1 else l0 - 1) ≠ 0
    by_cases c : l0 - 1 = 0
    · have : cnd = true := by simp [cnd, c, h]
      rw [if_pos this]; omega
    · have : ¬ cnd = true := by simp [cnd, c]
      rw [if_neg this]; omega
  have hz : l = 0 → p % 2 = 0 := fun e => by
    have : ¬ p % 2 = 1 := fun h => hl0 h e
    omega
  let dr : Int := if p % 2 = 0 then d else 0
  have hgl := goals_eq fl m ls so p l fire (so == Str.ofString "free" || fire) hf (by omega) rfl
  have hgn := goals_ne fl p l (so == Str.ofString "free" || fire) hf (by omega) hl hz
  have hgm : ∀ g ∈ goalsL fl p l (so == Str.ofString "free" || fire), (g : Int) < fl ∧ ((so == Str.ofString "free" || fire) = false → 2 * (g : Int) = p ∨ 0 < (2 * (g : Int) - p) * l) := fun g h => goals_mem h
  have hgt : (goalsL fl p l (so == Str.ofString "free" || fire)).length ≤ 1000 := by
    unfold goalsL
    split
    · simp; omega
    · have := List.length_filter_le (goalP p l) (List.range fl.toNat)
      simp at this; omega
  obtain ⟨og, eg, fg⟩ : ∃ o, F__law_goals [.stb (houseI fl ls m so), .stb (.int p), .stb (.int l), .stb (.bl fire)] = .ok o [] ∧ fr o = .lst ((goalsL fl p l (so == Str.ofString "free" || fire)).map fun k : Nat => .int (k : Int)) := ⟨_, hgl, by split <;> rfl⟩
  clear hgl
  generalize hgs : goalsL fl p l (so == Str.ofString "free" || fire) = gs at *
  obtain ⟨ab, y13, y14, hal, ham, hlp⟩ := cab_loop hb at_ fl m p l dr mk i n.toNat ls so fire x gs hat hi (by omega) hgn hgt none none
  have en : ((n.toNat : Nat) : Int) = n := by omega
  rw [en] at hlp
  have er : gRng1 [.int n] = some (rngD 0 n.toNat) := gRng1_int (by omega) (by omega)
  have lab : ab.length ≤ 16777216 := by omega
  have eK : K2__law_cabin [some (.stb (.scr ns)), some (.stb (.int at_)), some (.stb (houseI fl ls m so)), some (.stb (.int i)), some (.stb (.bl fire)), some (.stb (liftD x)), some (.stb (.int p)), some (.stb (.int l)), some (.stb (.int n)), some (.stb (.int 0)), none, none, none, none, none] =
      .ret (.stb (cabE (p, l, dr, mk, ab))) [some (.stb (.scr ns)), some (.stb (.int at_)), some (.stb (houseI fl ls m so)), some (.stb (.int i)), some (.stb (.bl fire)), some (.stb (liftD x)), some (.stb (.int p)), some (.stb (.int l)), some (.stb (.int n)), some (.stb (.int dr)), some (.stb (.int mk)), some (.stb (.lst (gs.map fun k : Nat => .int (k : Int)))), some (.lst (ab.map prD)), y13, y14] := by
    have it : atI [D.int x.1, .int x.2.1, .int x.2.2.1, .str x.2.2.2] 2 = some (.int x.2.2.1) := rfl
    by_cases c : p % 2 = 0
    · have ed : dr = d := if_pos c
      rw [ed] at hlp ⊢
      simp only [liftD] at hlp ⊢
      simp [K2__law_cabin, h4, c, e4, it, e5, ek, eg, fg, er, hlp, cabE, lab, imm_prsE]
    · have ed : dr = 0 := if_neg c
      rw [ed] at hlp ⊢
      simp only [liftD] at hlp ⊢
      simp [K2__law_cabin, h4, c, e5, ek, eg, fg, er, hlp, cabE, lab, imm_prsE]
  refine ⟨(p, l, dr, mk, ab), ⟨by omega, hl, fun h => ⟨hl0 h, if_neg (by show ¬ p % 2 = 0; have h' : p % 2 = 1 := h; omega)⟩, ?_, hmk, by show ((ab.length : Nat) : Int) ≤ _; omega, fun a ha => ?_, fun h1 h2 => ?_⟩, ?_⟩
  · show 0 ≤ dr ∧ dr ≤ _
    show 0 ≤ (if p % 2 = 0 then d else 0) ∧ (if p % 2 = 0 then d else 0) ≤ _
    split <;> omega
  · obtain ⟨g, hg, e⟩ := ham a ha
    obtain ⟨g1, g2⟩ := hgm g hg
    rw [e]
    exact ⟨by omega, g1, g2⟩
  · show l ≠ 0
    have h0 : (so == Str.ofString "free") = false ∧ fire = false := by simpa using h1
    have hn0 : 0 < n := by
      have : ab.length ≠ 0 := fun z => h2 (List.eq_nil_of_length_eq_zero z)
      omega
    show (if cnd = true then 1 - 2 * l1 else l0 - 1) ≠ 0
    by_cases c : l0 - 1 = 0
    · have : cnd = true := by simp [cnd, c, hway, h0.1, h0.2, hn0]
      rw [if_pos this]; omega
    · have : ¬ cnd = true := by simp [cnd, c]
      rw [if_neg this]; omega
  · have ih0 : atI [D.int fl, .tup (ls.map liftD), .int m, .str so] 1 = some (.tup (ls.map liftD)) := rfl
    have ih1 : atI [D.int fl, .tup (ls.map liftD), .int m, .str so] 0 = some (.int fl) := at0
    have ih3 : atI [D.int fl, .tup (ls.map liftD), .int m, .str so] 3 = some (.str so) := rfl
    have it1 : atI [D.int x.1, .int x.2.1, .int x.2.2.1, .str x.2.2.2] 1 = some (.int x.2.1) := rfl
    have fin : ∀ l' : Int, l' = l → K2__law_cabin [some (.stb (.scr ns)), some (.stb (.int at_)), some (.stb (houseI fl ls m so)), some (.stb (.int i)), some (.stb (.bl fire)), some (.stb (liftD x)), some (.stb (.int p)), some (.stb (.int l')), some (.stb (.int n)), some (.stb (.int 0)), none, none, none, none, none] = .ret (.stb (cabE (p, l, dr, mk, ab))) [some (.stb (.scr ns)), some (.stb (.int at_)), some (.stb (houseI fl ls m so)), some (.stb (.int i)), some (.stb (.bl fire)), some (.stb (liftD x)), some (.stb (.int p)), some (.stb (.int l)), some (.stb (.int n)), some (.stb (.int dr)), some (.stb (.int mk)), some (.stb (.lst (gs.map fun k : Nat => .int (k : Int)))), some (.lst (ab.map prD)), y13, y14] := fun l' e => by rw [e]; exact eK
    have hlc : l = if cnd = true then 1 - 2 * l1 else l0 - 1 := rfl
    have hcn : cnd = (decide (l0 - 1 = 0) && (decide (p % 2 = 1) || (so == Str.ofString "way") && decide (0 < n) && !fire)) := rfl
    generalize cabE (p, l, dr, mk, ab) = res at *
    clear_value l dr cnd
    clear eK hlp
    unfold houseI liftD at *
    by_cases c1 : l0 - 1 = 0
    · by_cases c2 : p % 2 = 1
      · have ec : cnd = true := by rw [hcn]; simp [c1, c2]
        have := fin (1 - 2 * l1) (by rw [hlc, if_pos ec])
        simp [F__law_cabin, b__law_cabin, ih0, ih1, ih3, it1, ix, h2, e0, e1, e2, c1, h4, c2, h3, e3, this]
      · cases c3 : (so == Str.ofString "way") with
        | false =>
          have ec : ¬ cnd = true := by rw [hcn]; simp [c2, c3]
          have := fin (l0 - 1) (by rw [hlc, if_neg ec])
          rw [c3] at w1
          simp [F__law_cabin, b__law_cabin, ih0, ih1, ih3, it1, ix, h2, e0, e1, e2, c1, h4, c2, h3, e3, w1]
          rw [c1] at this
          simp [this]
        | true =>
          rw [c3] at w1
          by_cases c4 : 0 < n
          · cases fire with
            | false =>
              have ec : cnd = true := by rw [hcn]; simp [c1, c3, c4]
              have := fin (1 - 2 * l1) (by rw [hlc, if_pos ec])
              simp [F__law_cabin, b__law_cabin, ih0, ih1, ih3, it1, ix, h2, e0, e1, e2, c1, h4, c2, h3, e3, w1, c4, this]
            | true =>
              have ec : ¬ cnd = true := by rw [hcn]; simp [c2]
              have := fin (l0 - 1) (by rw [hlc, if_neg ec])
              rw [c1] at this
              simp [F__law_cabin, b__law_cabin, ih0, ih1, ih3, it1, ix, h2, e0, e1, e2, c1, h4, c2, h3, e3, w1, c4, this]
          · have ec : ¬ cnd = true := by rw [hcn]; simp [c2, c4]
            have := fin (l0 - 1) (by rw [hlc, if_neg ec])
            rw [c1] at this
            simp [F__law_cabin, b__law_cabin, ih0, ih1, ih3, it1, ix, h2, e0, e1, e2, c1, h4, c2, h3, e3, w1, c4, this]
    · have ec : ¬ cnd = true := by rw [hcn]; simp [c1]
      have := fin (l0 - 1) (by rw [hlc, if_neg ec])
      simp [F__law_cabin, b__law_cabin, ih0, ih1, ih3, it1, ix, h2, e0, e1, e2, c1, h4, h3, e3, this]

def cabAt (cs : List Cab) (k : Nat) : Cab := cs.getD k (0, 0, 0, 0, [])
def servL (cs : List Cab) : List Nat := (List.range cs.length).filter fun k => decide ((cabAt cs k).2.2.2.1 = 0)
theorem cab_ix (t : Bool) (cs : List Cab) (k : Nat) (h : k < cs.length) : dIx (seqD t (cs.map cabE)) (.int (k : Int)) = some (cabE (cabAt cs k)) := by
  have e : (cs.map cabE)[k]? = some (cabE (cabAt cs k)) := by
    rw [List.getElem?_map, List.getElem?_eq_getElem h]
    simp [cabAt, List.getD, List.getElem?_eq_getElem h]
  have := at_natN e
  cases t <;> simp [seqD, this]
theorem cab_len (t : Bool) (cs : List Cab) : bLen [seqD t (cs.map cabE)] = some (.int cs.length) := by cases t <;> simp [seqD]
theorem cab_0 (c : Cab) : atI [D.int c.1, .int c.2.1, .int c.2.2.1, .int c.2.2.2.1, .tup (c.2.2.2.2.map prD)] 0 = some (.int c.1) := at0
theorem cab_1 (c : Cab) : atI [D.int c.1, .int c.2.1, .int c.2.2.1, .int c.2.2.2.1, .tup (c.2.2.2.2.map prD)] 1 = some (.int c.2.1) := rfl
theorem cab_2 (c : Cab) : atI [D.int c.1, .int c.2.1, .int c.2.2.1, .int c.2.2.2.1, .tup (c.2.2.2.2.map prD)] 2 = some (.int c.2.2.1) := rfl
theorem cab_3 (c : Cab) : atI [D.int c.1, .int c.2.1, .int c.2.2.1, .int c.2.2.2.1, .tup (c.2.2.2.2.map prD)] 3 = some (.int c.2.2.2.1) := rfl
theorem cab_4 (c : Cab) : atI [D.int c.1, .int c.2.1, .int c.2.2.1, .int c.2.2.2.1, .tup (c.2.2.2.2.map prD)] 4 = some (.tup (c.2.2.2.2.map prD)) := rfl
theorem rng_nat (n : Nat) : rngD 0 ((n : Int)).toNat = (List.range n).map fun k : Nat => .int (k : Int) := by simp [rngD]
theorem serv_comp (t : Bool) (cs : List Cab) (ρ : En) (i j : Nat) (hl : cs.length ≤ 1000) (hij : i ≠ j) (hj : j < ρ.length) (hi : ρ[i]? = some (some (.stb (seqD t (cs.map cabE))))) :
    compL (gN j) (fTest (fBin dEq (fBin dIx (fBin dIx (fVar i) (fVar j)) (fC (.int 3))) (fC (.int 0)))) (fVar j) [j] ((List.range cs.length).map fun k : Nat => .int (k : Int)) [] ρ = .ok (.lst ((servL cs).map fun k : Nat => .int (k : Int))) (ρ.set j none) := by
  refine comp_at (fun k : Nat => D.int (k : Int)) (fun k => decide ((cabAt cs k).2.2.2.1 = 0)) (fun k : Nat => D.int (k : Int)) (List.range cs.length) (by simp; omega) fun a ha => ?_
  have ha' := List.mem_range.mp ha
  have e := cab_ix t cs a ha'
  have e3 := cab_3 (cabAt cs a)
  have g1 : (ρ.set j (some (.stb (.int (a : Int)))))[i]? = some (some (.stb (seqD t (cs.map cabE)))) := by rw [List.getElem?_set_ne (Ne.symm hij)]; exact hi
  have g2 : (ρ.set j (some (.stb (.int (a : Int)))))[j]? = some (some (.stb (.int (a : Int)))) := by rw [List.getElem?_set_self hj]
  generalize ρ.set j (some (.stb (.int (a : Int)))) = ρ1 at *
  generalize seqD t (cs.map cabE) = sq at *
  unfold cabE at e
  refine ⟨?_, fun _ => by simp [g2]⟩
  by_cases c : (cabAt cs a).2.2.2.1 = 0
  · rw [c] at e3 e
    simp [g1, g2, e, e3, c]
  · simp [g1, g2, e, e3, c]
theorem serving_eq (t : Bool) (cs : List Cab) (hl : cs.length ≤ 1000) : F_serving [.stb (seqD t (cs.map cabE))] = .ok (.lst ((servL cs).map fun k : Nat => .int (k : Int))) [] := by
  have c := serv_comp t cs [some (.stb (seqD t (cs.map cabE))), none] 0 1 hl (by omega) (by simp) rfl
  have e1 := cab_len t cs
  have e2 : gRng1 [.int (cs.length : Int)] = some ((List.range cs.length).map fun k : Nat => .int (k : Int)) := by
    rw [gRng1_int (by omega) (by omega), rng_nat]
  generalize seqD t (cs.map cabE) = sq at *
  simp [F_serving, b_serving, e1, e2, c]
def pickG (k w : Int) : List (Int × Int) → Int
  | [] => k
  | (j, v) :: r => if v < w then pickG j v r else pickG k w r
/-- the first of the least worth -/
def pick : List (Int × Int) → Int
  | [] => -1
  | (k, w) :: r => pickG k w r
theorem fleast_eq (l : List (Int × Int)) (h : l.length ≤ 3) : F_first_least [.stb (.lst (l.map fun p => .int p.1)), .stb (.lst (l.map fun p => .int p.2))] = .ok (.stb (.int (pick l))) [] := by
  have r0 : gRng1 [.int 0] = some [] := rfl
  have r1 : gRng1 [.int 1] = some [.int 0] := rfl
  have r2 : gRng1 [.int 2] = some [.int 0, .int 1] := rfl
  have r3 : gRng1 [.int 3] = some [.int 0, .int 1, .int 2] := rfl
  rcases l with _ | ⟨⟨a, x⟩, _ | ⟨⟨b, y⟩, _ | ⟨⟨c, z⟩, _ | ⟨w, l⟩⟩⟩⟩
  · simp [F_first_least, b_first_least, r0, pick, dNeg]
  · simp [F_first_least, b_first_least, L1_first_least, forL_cons', r1, pick, pickG, dNeg]
  · by_cases h1 : y < x <;> simp [F_first_least, b_first_least, L1_first_least, forL_cons', r2, pick, pickG, dNeg, h1]
  · by_cases h1 : y < x
    · by_cases h2 : z < y <;> simp [F_first_least, b_first_least, L1_first_least, forL_cons', r3, pick, pickG, dNeg, h1, h2]
    · by_cases h2 : z < x <;> simp [F_first_least, b_first_least, L1_first_least, forL_cons', r3, pick, pickG, dNeg, h1, h2]
  · simp at h
theorem best_eq (t : Bool) (cs : List Cab) (w : Nat → Int) (h : cs.length ≤ 3) : F__law_best [.stb (seqD t (cs.map cabE)), .stb (.lst ((List.range cs.length).map fun k : Nat => .int (w k)))] = .ok (.stb (.int (pick ((servL cs).map fun k : Nat => ((k : Int), w k))))) [] := by
  have r0 : gRng1 [.int 0] = some [] := rfl
  have r1 : gRng1 [.int 1] = some [.int 0] := rfl
  have r2 : gRng1 [.int 2] = some [.int 0, .int 1] := rfl
  have r3 : gRng1 [.int 3] = some [.int 0, .int 1, .int 2] := rfl
  have g1 : List.range 1 = [0] := rfl
  have g2 : List.range 2 = [0, 1] := rfl
  have g3 : List.range 3 = [0, 1, 2] := rfl
  rcases cs with _ | ⟨⟨p1, l1, d1, m1, a1⟩, _ | ⟨⟨p2, l2, d2, m2, a2⟩, _ | ⟨⟨p3, l3, d3, m3, a3⟩, _ | ⟨c4, cs⟩⟩⟩⟩
  · cases t <;> simp [F__law_best, b__law_best, r0, seqD, pick, servL, dNeg]
  · cases t <;> by_cases k1 : m1 = 0 <;> simp [F__law_best, b__law_best, L1__law_best, forL_cons', r1, g1, seqD, pick, pickG, servL, dNeg, cabE, cabAt, k1]
  · cases t <;> by_cases k1 : m1 = 0 <;> by_cases k2 : m2 = 0 <;> by_cases h1 : w 1 < w 0 <;> simp [F__law_best, b__law_best, L1__law_best, forL_cons', r2, g2, seqD, pick, pickG, servL, dNeg, cabE, cabAt, k1, k2, h1]
  · cases t <;> by_cases k1 : m1 = 0 <;> by_cases k2 : m2 = 0 <;> by_cases k3 : m3 = 0 <;> by_cases h1 : w 1 < w 0 <;> by_cases h2 : w 2 < w 0 <;> by_cases h3 : w 2 < w 1 <;> simp [F__law_best, b__law_best, L1__law_best, forL_cons', r3, g3, seqD, pick, pickG, servL, dNeg, cabE, cabAt, k1, k2, k3, h1, h2, h3]
  · simp at h
def cand (cs : List Cab) (w : Nat → Int) : List (Int × Int) := (servL cs).map fun k : Nat => ((k : Int), w k)
def nearW (cs : List Cab) (s : Int) (k : Nat) : Int := if (cabAt cs k).1 - 2 * s < 0 then -((cabAt cs k).1 - 2 * s) else (cabAt cs k).1 - 2 * s
def leastW (cs : List Cab) (lf : List Int) (k : Nat) : Int := ((cabAt cs k).2.2.2.2.length : Int) + (lf.count (k : Int) : Nat)
theorem serv_lt {cs : List Cab} {k : Nat} (h : k ∈ servL cs) : k < cs.length := by
  unfold servL at h
  rw [List.mem_filter, List.mem_range] at h
  exact h.1
theorem serv_len (cs : List Cab) : (servL cs).length ≤ cs.length := by
  have := List.length_filter_le (fun k => decide ((cabAt cs k).2.2.2.1 = 0)) (List.range cs.length)
  simpa [servL] using this
theorem cand_fst (cs : List Cab) (w : Nat → Int) : (cand cs w).map (fun p => D.int p.1) = (servL cs).map fun k : Nat => .int (k : Int) := by simp [cand]
theorem cand_snd (cs : List Cab) (w : Nat → Int) : (cand cs w).map (fun p => D.int p.2) = (servL cs).map fun k : Nat => .int (w k) := by simp [cand]
theorem rid_0 (r : Rid) : atI [D.int r.1, .int r.2.1, .int r.2.2.1, .int r.2.2.2] 0 = some (.int r.1) := at0
theorem rid_1 (r : Rid) : atI [D.int r.1, .int r.2.1, .int r.2.2.1, .int r.2.2.2] 1 = some (.int r.2.1) := rfl
theorem rid_2 (r : Rid) : atI [D.int r.1, .int r.2.1, .int r.2.2.1, .int r.2.2.2] 2 = some (.int r.2.2.1) := rfl
theorem rid_3 (r : Rid) : atI [D.int r.1, .int r.2.1, .int r.2.2.1, .int r.2.2.2] 3 = some (.int r.2.2.2) := rfl
theorem near_deal (t : Bool) (cs : List Cab) (wq : D) (r : Rid) (last : D) (hl : cs.length ≤ 3) (hs : -1000 ≤ r.2.1 ∧ r.2.1 ≤ 1000) :
    F_near_dealer_deal [.stb (seqD t (cs.map cabE)), .stb wq, .stb (ridD r), .stb last] = .ok (.stb (.tup [.int (pick (cand cs (nearW cs r.2.1))), last])) [] := by
  have e1 := serving_eq t cs (by omega)
  have hsl := serv_len cs
  have r1 := rid_1 r
  have m2 : dMul (.int 2) (.int r.2.1) = some (.int (2 * r.2.1)) := dMul_l (by omega) (by omega)
  have c := comp_all (fe := E1_near_dealer_deal) (i := 6) (ρ := [some (.stb (seqD t (cs.map cabE))), some (.stb wq), some (.stb (ridD r)), some (.stb last), some (.stb (.lst ((servL cs).map fun k : Nat => .int (k : Int)))), none, none])
    (fun k : Nat => D.int (k : Int)) (fun k : Nat => D.int (nearW cs r.2.1 k)) (servL cs) (by omega) (fun a ha => by
      have e := cab_ix t cs a (serv_lt ha)
      have e3 := cab_0 (cabAt cs a)
      unfold nearW ridD
      generalize seqD t (cs.map cabE) = sq at *
      unfold cabE at e
      by_cases c : (cabAt cs a).1 - 2 * r.2.1 < 0 <;> simp [E1_near_dealer_deal, e, e3, r1, m2, c])
  have f := fleast_eq (cand cs (nearW cs r.2.1)) (by simp [cand]; omega)
  rw [cand_fst, cand_snd] at f
  generalize seqD t (cs.map cabE) = sq at *
  simp [F_near_dealer_deal, b_near_dealer_deal, e1, c, f]
theorem lifts_of_rids (t : Bool) (rs : List Rid) (ρ : En) (i j : Nat) (hl : rs.length ≤ 10000) (hj : j < ρ.length) : compL (gN j) fYes (fBin dIx (fVar j) (fC (.int 3))) [j] (rs.map ridD) [] ρ = .ok (.lst (rs.map fun r => .int r.2.2.2)) (ρ.set j none) := by
  refine comp_all ridD (fun r : Rid => D.int r.2.2.2) rs (by omega) fun a ha => ?_
  have g2 : (ρ.set j (some (.stb (ridD a))))[j]? = some (some (.stb (ridD a))) := by rw [List.getElem?_set_self hj]
  have r3 := rid_3 a
  unfold ridD at *
  simp [g2, r3]
theorem seq_items (t : Bool) (xs : List D) : dItems (seqD t xs) = some xs := by cases t <;> rfl
theorem lfs_eq (rs : List Rid) : (rs.map fun r => D.int r.2.2.2) = (rs.map fun r => r.2.2.2).map .int := by simp
theorem least_deal (t u : Bool) (cs : List Cab) (rs : List Rid) (r : D) (last : D) (hl : cs.length ≤ 3) (hr : rs.length ≤ 10000) (hab : ∀ c ∈ cs, c.2.2.2.2.length ≤ 1000) :
    F_least_dealer_deal [.stb (seqD t (cs.map cabE)), .stb (seqD u (rs.map ridD)), .stb r, .stb last] = .ok (.stb (.tup [.int (pick (cand cs (leastW cs (rs.map fun r => r.2.2.2)))), last])) [] := by
  have e1 := serving_eq t cs (by omega)
  have hsl := serv_len cs
  have l1 := lifts_of_rids u rs [some (.stb (seqD t (cs.map cabE))), some (.stb (seqD u (rs.map ridD))), some (.stb r), some (.stb last), some (.stb (.lst ((servL cs).map fun k : Nat => .int (k : Int)))), none, none, none, none] 5 6 hr (by simp)
  have it := seq_items u (rs.map ridD)
  rw [lfs_eq] at l1
  have c := comp_all (fe := E1_least_dealer_deal) (i := 8) (ρ := [some (.stb (seqD t (cs.map cabE))), some (.stb (seqD u (rs.map ridD))), some (.stb r), some (.stb last), some (.stb (.lst ((servL cs).map fun k : Nat => .int (k : Int)))), some (.stb (.lst ((rs.map fun r => r.2.2.2).map .int))), none, none, none])
    (fun k : Nat => D.int (k : Int)) (fun k : Nat => D.int (leastW cs (rs.map fun r => r.2.2.2) k)) (servL cs) (by omega) (fun a ha => by
      have e := cab_ix t cs a (serv_lt ha)
      have e3 := cab_4 (cabAt cs a)
      unfold leastW
      generalize seqD t (cs.map cabE) = sq at *
      unfold cabE at e
      generalize (rs.map fun r => r.2.2.2) = lf at *
      generalize seqD u (rs.map ridD) = wq at *
      simp [E1_least_dealer_deal, e, e3])
  have f := fleast_eq (cand cs (leastW cs (rs.map fun r => r.2.2.2))) (by simp [cand]; omega)
  rw [cand_fst, cand_snd] at f
  generalize (rs.map fun r => r.2.2.2) = lf at *
  generalize seqD t (cs.map cabE) = sq at *
  generalize seqD u (rs.map ridD) = wq at *
  simp [F_least_dealer_deal, b_least_dealer_deal, e1, it, l1, c, f]
theorem map_at (cs : List Cab) (w : Cab → D) : cs.map w = (List.range cs.length).map fun k : Nat => w (cabAt cs k) := by
  apply List.ext_getElem (by simp)
  intro i h1 h2
  have hi : i < cs.length := by simpa using h1
  simp [cabAt, List.getD, List.getElem?_eq_getElem hi]
theorem law_near_eq (t : Bool) (cs : List Cab) (s : Int) (hl : cs.length ≤ 3) (hs : -1000 ≤ s ∧ s ≤ 1000) :
    F__law_near_v2 [.stb (seqD t (cs.map cabE)), .stb (.int s)] = .ok (.stb (.int (pick (cand cs (nearW cs s))))) [] := by
  have m2 : dMul (.int 2) (.int s) = some (.int (2 * s)) := dMul_l (by omega) (by omega)
  have it := seq_items t (cs.map cabE)
  have c := comp_all (fe := E1__law_near_v2) (i := 2) (ρ := [some (.stb (seqD t (cs.map cabE))), some (.stb (.int s)), none])
    cabE (fun c : Cab => D.int (if c.1 - 2 * s < 0 then -(c.1 - 2 * s) else c.1 - 2 * s)) cs (by omega) (fun a ha => by
      have e3 := cab_0 a
      unfold cabE
      by_cases c : a.1 - 2 * s < 0 <;> simp [E1__law_near_v2, e3, m2, c])
  rw [map_at cs (fun c : Cab => D.int (if c.1 - 2 * s < 0 then -(c.1 - 2 * s) else c.1 - 2 * s))] at c
  have b := best_eq t cs (nearW cs s) hl
  unfold cand
  have e : (fun k : Nat => D.int (nearW cs s k)) = fun k : Nat => D.int (if (cabAt cs k).1 - 2 * s < 0 then -((cabAt cs k).1 - 2 * s) else (cabAt cs k).1 - 2 * s) := rfl
  rw [e] at b
  generalize seqD t (cs.map cabE) = sq at *
  simp [F__law_near_v2, b__law_near_v2, it, c, b]
theorem law_least_eq (t u : Bool) (cs : List Cab) (rs : List Rid) (hl : cs.length ≤ 3) (hr : rs.length ≤ 10000) :
    F__law_least [.stb (seqD t (cs.map cabE)), .stb (seqD u (rs.map ridD))] = .ok (.stb (.int (pick (cand cs (leastW cs (rs.map fun r => r.2.2.2)))))) [] := by
  have it := seq_items u (rs.map ridD)
  have l1 := lifts_of_rids u rs [some (.stb (seqD t (cs.map cabE))), some (.stb (seqD u (rs.map ridD))), none, none, none] 2 3 hr (by simp)
  rw [lfs_eq] at l1
  have e1 := cab_len t cs
  have e2 : gRng1 [.int (cs.length : Int)] = some ((List.range cs.length).map fun k : Nat => .int (k : Int)) := by
    rw [gRng1_int (by omega) (by omega), rng_nat]
  have c := comp_all (fe := E1__law_least) (i := 4) (ρ := [some (.stb (seqD t (cs.map cabE))), some (.stb (seqD u (rs.map ridD))), some (.stb (.lst ((rs.map fun r => r.2.2.2).map .int))), none, none])
    (fun k : Nat => D.int (k : Int)) (fun k : Nat => D.int (leastW cs (rs.map fun r => r.2.2.2) k)) (List.range cs.length) (by simp; omega) (fun a ha => by
      have e := cab_ix t cs a (List.mem_range.mp ha)
      have e3 := cab_4 (cabAt cs a)
      unfold leastW
      generalize seqD t (cs.map cabE) = sq at *
      unfold cabE at e
      generalize (rs.map fun r => r.2.2.2) = lf at *
      generalize seqD u (rs.map ridD) = wq at *
      simp [E1__law_least, e, e3])
  have b := best_eq t cs (leastW cs (rs.map fun r => r.2.2.2)) hl
  unfold cand
  generalize (rs.map fun r => r.2.2.2) = lf at *
  generalize seqD t (cs.map cabE) = sq at *
  generalize seqD u (rs.map ridD) = wq at *
  simp [F__law_least, b__law_least, it, l1, e1, e2, c, b]
theorem noFn_prs : ∀ ab : List (Int × Int), noFnL (ab.map prD) = true
  | [] => by simp [noFnL]
  | x :: r => by simp [prD, noFn_prs r, noFn, noFnL]
theorem noFn_cab (c : Cab) : noFn (cabE c) = true := by simp [cabE, noFn, noFnL, noFn_prs]
theorem noFn_cabs : ∀ cs : List Cab, noFnL (cs.map cabE) = true
  | [] => by simp [noFnL]
  | x :: r => by simp [noFn_cab, noFn_cabs r, noFnL]
theorem noFn_rid (r : Rid) : noFn (ridD r) = true := by simp [ridD, noFn, noFnL]
theorem noFn_rids : ∀ cs : List Rid, noFnL (cs.map ridD) = true
  | [] => by simp [noFnL]
  | x :: r => by simp [noFn_rid, noFn_rids r, noFnL]
theorem noFn_seq (t : Bool) (xs : List D) : noFn (seqD t xs) = noFnL xs := by cases t <;> simp [seqD, noFn]
theorem okD_prs (n : Nat) : ∀ ab : List (Int × Int), okL (n + 1) (ab.map prD) = true
  | [] => by simp [okL]
  | x :: r => by simp [prD, okD_prs n r, okD, okL]
theorem okD_cab (n : Nat) (c : Cab) : okD (n + 3) (cabE c) = true := by simp [cabE, okD, okL, okD_prs]
theorem okD_cabs (n : Nat) : ∀ cs : List Cab, okL (n + 3) (cs.map cabE) = true
  | [] => by simp [okL]
  | x :: r => by simp [okD_cab, okD_cabs n r, okL]
theorem okD_rids (n : Nat) : ∀ cs : List Rid, okL (n + 1) (cs.map ridD) = true
  | [] => by simp [okL]
  | x :: r => by simp [ridD, okD, okD_rids n r, okL]
theorem okD_nats (n : Nat) : ∀ cs : List Nat, okL n (cs.map fun k : Nat => .int (k : Int)) = true
  | [] => by simp [okL]
  | x :: r => by simp [okD, okD_nats n r, okL]
theorem imm_nats : ∀ cs : List Nat, immL (cs.map fun k : Nat => .int (k : Int)) = true
  | [] => by simp
  | x :: r => by simp [imm, imm_nats r]
theorem imm_cab (c : Cab) : imm (cabE c) = true := by simp [cabE, imm, imm_prsE]
theorem imm_rid (r : Rid) : imm (ridD r) = true := by simp [ridD, imm]
theorem imm_rids : ∀ cs : List Rid, immL (cs.map ridD) = true
  | [] => by simp
  | x :: r => by simp [imm_rid, imm_rids r]
theorem imm_cabs : ∀ cs : List Cab, immL (cs.map cabE) = true
  | [] => by simp
  | x :: r => by simp [imm_cab, imm_cabs r]
theorem pair_is_eq (a b : Int) : F__law_pair_is [.stb (.tup [.int a, .int b]), .stb (.tup [.int a, .int b])] = .ok (.stb (.bl true)) [] := by
  have h : dEq (.tup [.int a, .int b]) (.tup [.int a, .int b]) = some (.bl true) := dEq_same (by simp [okD, okL])
  simp [F__law_pair_is, b__law_pair_is, whole_int, h]
theorem dealer_near (h : D) : F_dealer_of [.stb (.str (Str.ofString "near")), .stb h] = .ok (.stb (.fn 100 [])) [] := by
  have e := split_some (Str.ofString "near") (by decide)
  have e1 := eqStr (Str.ofString "near") (Str.ofString "near")
  rw [show (Str.ofString "near" == Str.ofString "near") = true from by decide +kernel] at e1
  simp [F_dealer_of, b_dealer_of, e, e1, F_near_dealer]
theorem dealer_least (h : D) : F_dealer_of [.stb (.str (Str.ofString "least")), .stb h] = .ok (.stb (.fn 101 [])) [] := by
  have e := split_some (Str.ofString "least") (by decide)
  have e1 := eqStr (Str.ofString "least") (Str.ofString "near")
  have e2 := eqStr (Str.ofString "least") (Str.ofString "least")
  rw [show (Str.ofString "least" == Str.ofString "near") = false from by decide +kernel] at e1
  rw [show (Str.ofString "least" == Str.ofString "least") = true from by decide +kernel] at e2
  simp [F_dealer_of, b_dealer_of, e, e1, e2, F_least_dealer]
theorem told_nl (fl m : Int) (ls : List LWt) (so : Str) (t u : Bool) (cs : List Cab) (rs : List Rid) (at_ : Nat) (r : Rid) (last : Int) (hl : cs.length ≤ 3) (hr : rs.length ≤ 10000) (hab : ∀ c ∈ cs, c.2.2.2.2.length ≤ 1000) (hs : -1000 ≤ r.2.1 ∧ r.2.1 ≤ 1000) (hrs : rs[at_]? = some r) :
    F__law_told_near_and_least [.stb (houseI fl ls m so), .stb (seqD t (cs.map cabE)), .stb (seqD u (rs.map ridD)), .stb (.int (at_ : Int)), .stb (.int last)] = .ok (.stb (.bl true)) [] := by
  have d1 := dealer_near (houseI fl ls m so)
  have d2 := dealer_least (houseI fl ls m so)
  have n1 := near_deal t cs (seqD u (rs.map ridD)) r (.int last) hl hs
  have n2 := least_deal t u cs rs (ridD r) (.int last) hl hr hab
  have l1 := law_near_eq t cs r.2.1 hl hs
  have l2 := law_least_eq t u cs rs hl hr
  have p1 := pair_is_eq (pick (cand cs (nearW cs r.2.1))) last
  have p2 := pair_is_eq (pick (cand cs (leastW cs (rs.map fun r => r.2.2.2)))) last
  have x : dIx (seqD u (rs.map ridD)) (.int (at_ : Int)) = some (ridD r) := by
    have e : (rs.map ridD)[at_]? = some (ridD r) := by rw [List.getElem?_map, hrs]; rfl
    have := at_natN e
    cases u <;> simp [seqD, this]
  have f1 : noFn (seqD t (cs.map cabE)) = true := by rw [noFn_seq, noFn_cabs]
  have f2 : noFn (seqD u (rs.map ridD)) = true := by rw [noFn_seq, noFn_rids]
  have f3 := noFn_rid r
  have x1 : dIx (ridD r) (.int 1) = some (.int r.2.1) := by have := rid_1 r; simp [ridD, this]
  have g2 : gRng1 [.int 2] = some [.int 0, .int 1] := rfl
  have tb : ∀ F1 F2 F3 F4 F5 : List O → Rf, tabL [(100, F1), (101, F2), (102, F3), (103, F4), (104, F5)] 100 = some F1 ∧ tabL [(100, F1), (101, F2), (102, F3), (103, F4), (104, F5)] 101 = some F2 := fun _ _ _ _ _ => ⟨rfl, rfl⟩
  generalize pick (cand cs (nearW cs r.2.1)) = a at *
  generalize pick (cand cs (leastW cs (rs.map fun r => r.2.2.2))) = b at *
  generalize seqD t (cs.map cabE) = sq at *
  generalize seqD u (rs.map ridD) = wq at *
  generalize ridD r = rd at *
  generalize houseI fl ls m so = hh at *
  simp [F__law_told_near_and_least, b__law_told_near_and_least, L1__law_told_near_and_least, d1, d2, x, x1, l1, l2, g2, forL_cons', (tb _ _ _ _ _).1, (tb _ _ _ _ _).2, noFnL, noFn, f1, f2, f3, n1, n2, p1, p2]

/-- the first serving lift behind one -/
def behV (cs : List Cab) (l : Nat) : Int := match (List.range cs.length).find? fun s => decide ((cabAt cs ((l + 1 + s) % cs.length)).2.2.2.1 = 0) with
  | some s => (((l + 1 + s) % cs.length : Nat) : Int)
  | none => -1
def atV (cs : List Cab) (l : Nat) : Int := if (cabAt cs l).2.2.2.1 = 0 then (l : Int) else behV cs l
theorem behind_law : F__law_behind = F_behind := rfl
theorem rng1_1 : gRng2 [.int 1, .int 2] = some [.int 1] := rfl
theorem rng1_2 : gRng2 [.int 1, .int 3] = some [.int 1, .int 2] := rfl
theorem rng1_3 : gRng2 [.int 1, .int 4] = some [.int 1, .int 2, .int 3] := rfl
theorem behind_eq (t : Bool) (cs : List Cab) (l : Nat) (h : cs.length ≤ 3) (hl : l < cs.length) : F_behind [.stb (seqD t (cs.map cabE)), .stb (.int (l : Int))] = .ok (.stb (.int (behV cs l))) [] := by
  have r1 := rng1_1
  have r2 := rng1_2
  have r3 := rng1_3
  have g1 : List.range 1 = [0] := rfl
  have g2 : List.range 2 = [0, 1] := rfl
  have g3 : List.range 3 = [0, 1, 2] := rfl
  have md : ∀ i j : Int, 0 < j → dMod (.int i) (.int j) = some (.int (i % j)) := fun i j h => dMod_pos h
  have a11 : ∀ α (x : α), atI [x] 0 = some x := fun _ _ => rfl
  have a20 : ∀ α (x y : α), atI [x, y] 0 = some x := fun _ _ _ => rfl
  have a21 : ∀ α (x y : α), atI [x, y] 1 = some y := fun _ _ _ => rfl
  have a30 : ∀ α (x y z : α), atI [x, y, z] 0 = some x := fun _ _ _ _ => rfl
  have a31 : ∀ α (x y z : α), atI [x, y, z] 1 = some y := fun _ _ _ _ => rfl
  have a32 : ∀ α (x y z : α), atI [x, y, z] 2 = some z := fun _ _ _ _ => rfl
  rcases cs with _ | ⟨⟨p1, l1, d1, m1, b1⟩, _ | ⟨⟨p2, l2, d2, m2, b2⟩, _ | ⟨⟨p3, l3, d3, m3, b3⟩, _ | ⟨c4, cs⟩⟩⟩⟩
  · simp at hl
  · obtain rfl : l = 0 := by simp at hl; exact hl
    cases t <;> by_cases k1 : m1 = 0 <;> simp [F_behind, b_behind, L1_behind, forL_cons', r1, g1, seqD, behV, dNeg, cabE, cabAt, md, k1]
  · have : l = 0 ∨ l = 1 := by simp at hl; omega
    rcases this with rfl | rfl <;> cases t <;> by_cases k1 : m1 = 0 <;> by_cases k2 : m2 = 0 <;> simp [F_behind, b_behind, L1_behind, forL_cons', r2, g2, seqD, behV, dNeg, cabE, cabAt, md, k1, k2, List.find?]
  · have : l = 0 ∨ l = 1 ∨ l = 2 := by simp at hl; omega
    rcases this with rfl | rfl | rfl <;> cases t <;> by_cases k1 : m1 = 0 <;> by_cases k2 : m2 = 0 <;> by_cases k3 : m3 = 0 <;> simp [F_behind, b_behind, L1_behind, forL_cons', r3, g3, seqD, behV, dNeg, cabE, cabAt, md, k1, k2, k3, List.find?]
  · simp at h
theorem at_eq (t : Bool) (cs : List Cab) (l : Nat) (h : cs.length ≤ 3) (hl : l < cs.length) : F_at_or_behind [.stb (seqD t (cs.map cabE)), .stb (.int (l : Int))] = .ok (.stb (.int (atV cs l))) [] ∧ F__law_at [.stb (seqD t (cs.map cabE)), .stb (.int (l : Int))] = .ok (.stb (.int (atV cs l))) [] := by
  have b := behind_eq t cs l h hl
  have e := cab_ix t cs l hl
  have e3 := cab_3 (cabAt cs l)
  rw [← behind_law] at b
  have b2 := b
  rw [behind_law] at b2
  unfold atV
  generalize seqD t (cs.map cabE) = sq at *
  unfold cabE at e
  by_cases c : (cabAt cs l).2.2.2.1 = 0
  · rw [c] at e e3
    constructor <;> simp [F_at_or_behind, b_at_or_behind, F__law_at, b__law_at, e, e3, c]
  · constructor <;> simp [F_at_or_behind, b_at_or_behind, F__law_at, b__law_at, e, e3, c, b, b2]
def turnV (cs : List Cab) (last : Nat) : D := if behV cs last = -1 then .tup [.int (-1), .int last] else .tup [.int (behV cs last), .int (behV cs last)]
theorem turns_deal (t : Bool) (cs : List Cab) (wq rd : D) (last : Nat) (h : cs.length ≤ 3) (hl : last < cs.length) :
    F_turns_dealer_deal [.stb (seqD t (cs.map cabE)), .stb wq, .stb rd, .stb (.int (last : Int))] = .ok (.stb (turnV cs last)) [] := by
  have b := behind_eq t cs last h hl
  unfold turnV
  generalize seqD t (cs.map cabE) = sq at *
  by_cases c : behV cs last = -1
  · rw [c] at b
    simp [F_turns_dealer_deal, b_turns_dealer_deal, b, c, dNeg]
  · simp [F_turns_dealer_deal, b_turns_dealer_deal, b, c, dNeg]
abbrev nats (zs : List Nat) : List D := zs.map fun k : Nat => .int (k : Int)
theorem nats_ix (zs : List Nat) (i z : Nat) (h : zs[i]? = some z) : atI (nats zs) (i : Int) = some (.int (z : Int)) := at_natN (by rw [List.getElem?_map, h]; rfl)
theorem zone_deal (t : Bool) (cs : List Cab) (wq last : D) (r : Rid) (zs : List Nat) (s z : Nat) (h : cs.length ≤ 3) (hs : r.2.1 = (s : Int)) (hz : zs[s]? = some z) (hl : z < cs.length) :
    F_zone_dealer_deal [.stb (seqD t (cs.map cabE)), .stb wq, .stb (ridD r), .stb last, .stb (.lst (nats zs))] = .ok (.stb (.tup [.int (atV cs z), last])) [] := by
  have b := (at_eq t cs z h hl).1
  have ix := nats_ix zs s z hz
  have r1 := rid_1 r
  rw [hs] at r1
  generalize seqD t (cs.map cabE) = sq at *
  generalize nats zs = zl at *
  have er : ridD r = .tup [.int r.1, .int (s : Int), .int r.2.2.1, .int r.2.2.2] := by unfold ridD; rw [hs]
  rw [er]
  simp [F_zone_dealer_deal, b_zone_dealer_deal, r1, ix, b]
theorem fixed_deal (t : Bool) (cs : List Cab) (wq last : D) (r : Rid) (zs : List Nat) (z : Nat) (h : cs.length ≤ 3) (h0 : 0 < zs.length) (hz : zs[(r.1 % (zs.length : Int)).toNat]? = some z) (hl : z < cs.length) :
    F_fixed_dealer_deal [.stb (seqD t (cs.map cabE)), .stb wq, .stb (ridD r), .stb last, .stb (.lst (nats zs))] = .ok (.stb (.tup [.int (atV cs z), last])) [] := by
  have b := (at_eq t cs z h hl).1
  have ix := nats_ix zs _ z hz
  have e : (((r.1 % (zs.length : Int)).toNat : Nat) : Int) = r.1 % (zs.length : Int) := by
    have := Int.emod_nonneg r.1 (show (zs.length : Int) ≠ 0 by omega)
    omega
  rw [e] at ix
  have m : dMod (.int r.1) (.int (zs.length : Int)) = some (.int (r.1 % (zs.length : Int))) := dMod_pos (by omega)
  have bl : bLen [.lst (nats zs)] = some (.int zs.length) := by simp [nats]
  generalize seqD t (cs.map cabE) = sq at *
  generalize nats zs = zl at *
  unfold ridD
  simp [F_fixed_dealer_deal, b_fixed_dealer_deal, bl, m, ix, b]
/-- a word and numbers behind it -/
def textL (w : Str) (zs : List Nat) : Str := Txt.join (Str.ofString " ") (w :: zs.map numS)
theorem text_eq (w : Str) (zs : List Nat) (hw : w.length ≤ 10) (hz : zs.length ≤ 100) (h9 : ∀ z ∈ zs, z < 10) : F__law_text_v4 [.stb (.str w), .stb (.lst (nats zs))] = .ok (.stb (.str (textL w zs))) [] := by
  have c := comp_all (fe := fCall bStr (fCons (fVar 2) fNil)) (i := 2) (ρ := [some (.stb (.str w)), some (.stb (.lst (nats zs))), none]) (fun k : Nat => D.int (k : Int)) (fun k : Nat => D.str (numS k)) zs (by omega) (fun a ha => by
    have := bStr_num a (h9 a ha)
    simp [this])
  have j := mjoin_ok (Str.ofString " ") (w :: zs.map numS) 10 (fun p hp => by
    rcases List.mem_cons.mp hp with rfl | hp
    · exact hw
    · obtain ⟨z, _, rfl⟩ := List.mem_map.mp hp
      show (1 : Nat) ≤ 10; omega) (by
    have : (Str.ofString " ").length = 1 := by decide
    rw [this]; simp; omega)
  have e : (zs.map fun k : Nat => D.str (numS k)) = (zs.map numS).map .str := by simp
  rw [e] at c
  have ea : dAdd (.lst [.str w]) (.lst ((zs.map numS).map .str)) = some (.lst ((w :: zs.map numS).map .str)) := by
    have : 1 + zs.length ≤ LIM := by unfold LIM; omega
    simp [dAdd, this]
  unfold textL
  generalize (zs.map numS).map D.str = sl at *
  generalize hnl : nats zs = nl at *
  simp only [nats] at hnl
  have c2 := c
  rw [hnl] at c2
  generalize (w :: zs.map numS).map D.str = sl2 at *
  simp [F__law_text_v4, b__law_text_v4, c2, ea, j]
theorem numS_free (z : Nat) (h : z < 10) : free 32 (numS z) := free_num 32 z (by omega) h
theorem text_split (w : Str) (zs : List Nat) (hw : free 32 w) (h9 : ∀ z ∈ zs, z < 10) : Txt.split (textL w zs) (Str.ofString " ") = w :: zs.map numS :=
  TL.split_join (s := 32) (S := []) (by decide +kernel) (by decide +kernel) (by simp) fun p hp => by
    rcases List.mem_cons.mp hp with rfl | hp
    · exact hw
    · obtain ⟨z, hz, rfl⟩ := List.mem_map.mp hp
      exact numS_free z (h9 z hz)
theorem text_len (w : Str) (zs : List Nat) (hw : w.length ≤ 10) (hz : zs.length ≤ 100) : (textL w zs).length ≤ 100000 := by
  have := len_join (y := Str.ofString " ") (n := 10) (w :: zs.map numS) (fun p hp => by
    rcases List.mem_cons.mp hp with rfl | hp
    · exact hw
    · obtain ⟨z, _, rfl⟩ := List.mem_map.mp hp
      show (1 : Nat) ≤ 10; omega)
  have e : (Str.ofString " ").length = 1 := by decide
  rw [e] at this
  have h2 : (w :: zs.map numS).length = zs.length + 1 := by simp
  rw [h2] at this
  have e2 : Txt.join (Str.ofString " ") (w :: zs.map numS) = Str.join (Str.ofString " ") (w :: zs.map numS) := TL.join_eq ..
  unfold textL
  rw [e2]
  omega
theorem cut_tail (x : D) (xs : List D) : cutD (x :: xs) (some 1) none = xs := by
  unfold cutD
  simp [HT.sIx]
theorem number_num (z : Nat) (h : z < 10) : F_number_of [.stb (.str (numS z))] = .ok (.stb (.int (z : Int))) [] := by
  have := number_eq (numS z) (by show (1 : Nat) ≤ _; omega)
  rw [show numO (numS z).cps.toList = some (z : Int) from nO_num z h] at this
  exact this
theorem numbers_comp (zs : List Nat) (hz : zs.length ≤ 100) (h9 : ∀ z ∈ zs, z < 10) (ρ : En) (j : Nat) (hj : j < ρ.length) : compL (gN j) fYes (fFr (fCalO S.F_number_of 1 (fCons (fVar j) fNil))) [j] ((zs.map numS).map .str) [] ρ = .ok (.lst (nats zs)) (ρ.set j none) := by
  rw [List.map_map]
  refine comp_all (D.str ∘ numS) (fun k : Nat => D.int (k : Int)) zs (by omega) fun a ha => ?_
  have e := number_num a (h9 a ha)
  have g2 : (ρ.set j (some (.stb ((D.str ∘ numS) a))))[j]? = some (some (.stb ((D.str ∘ numS) a))) := by rw [List.getElem?_set_self hj]
  show _ = _
  simp only [Function.comp] at *
  simp [g2, e]
theorem lifts_eq (fl m : Int) (ls : List LWt) (so : Str) (zs : List Nat) (hz : zs.length ≤ 100) (hl : ls.length ≤ 3) (h9 : ∀ z ∈ zs, z < ls.length) :
    F_lifts_of [.stb (.lst ((zs.map numS).map .str)), .stb (houseI fl ls m so)] = .ok (.stb (.lst (nats zs))) [] := by
  have c := numbers_comp zs hz (fun z h => by have := h9 z h; omega) [some (.stb (.lst ((zs.map numS).map .str))), some (.stb (houseI fl ls m so)), none, none, none] 3 (by simp)
  obtain ⟨ρ, e, u, hρ⟩ := forL_go (gt := gN 4) (body := L1_lifts_of)
    (fun i ρ => ∃ u : Option O, ρ = [some (.stb (.lst ((zs.map numS).map .str))), some (.stb (houseI fl ls m so)), some (.stb (.lst (nats zs))), none, u])
    (ds := nats zs) (ρ := [some (.stb (.lst ((zs.map numS).map .str))), some (.stb (houseI fl ls m so)), some (.stb (.lst (nats zs))), none, none]) ⟨none, rfl⟩ (by
      rintro j d ρ hj ⟨u, rfl⟩
      obtain ⟨z, hzm, rfl⟩ := List.mem_map.mp (List.mem_of_getElem? hj)
      have hz' := h9 z hzm
      have ih1 : atI [D.int fl, .tup (ls.map liftD), .int m, .str so] 1 = some (.tup (ls.map liftD)) := rfl
      have bl : bLen [.tup (ls.map liftD)] = some (.int ls.length) := by simp
      have hlt : ¬ (ls.length : Int) ≤ (z : Int) := by omega
      generalize (zs.map numS).map D.str = sl at *
      generalize nats zs = nl at *
      generalize ls.map liftD = lsd at *
      unfold houseI at *
      simp [L1_lifts_of, ih1, bl, hlt, dIs, isNon])
  generalize (zs.map numS).map D.str = sl at *
  generalize nats zs = nl at *
  generalize houseI fl ls m so = hh at *
  subst hρ
  simp [F_lifts_of, b_lifts_of, c, e]
theorem text_ne (w v : Str) (zs : List Nat) (hw : free 32 w) (hv : free 32 v) (hwv : w ≠ v) (h9 : ∀ z ∈ zs, z < 10) : (textL w zs == v) = false := by
  rw [beq_eq_false_iff_ne]
  intro e
  have h1 := text_split w zs hw h9
  rw [e] at h1
  have h2 : Txt.split (Txt.join (Str.ofString " ") [v]) (Str.ofString " ") = [v] := TL.split_join (s := 32) (S := []) (by decide +kernel) (by decide +kernel) (by simp) fun p hp => by
    rw [List.mem_singleton] at hp
    subst hp
    exact hv
  have h3 : Txt.join (Str.ofString " ") [v] = v := by rw [TL.join_eq]; rfl
  rw [h3] at h2
  rw [h2] at h1
  injection h1 with h1 _
  exact hwv h1.symm
theorem dealer_zone (fl m : Int) (ls : List LWt) (so : Str) (zs : List Nat) (hf : 2 ≤ fl ∧ fl ≤ 8) (hz : (zs.length : Int) = fl) (hl : ls.length ≤ 3) (h9 : ∀ z ∈ zs, z < ls.length) :
    F_dealer_of [.stb (.str (textL (Str.ofString "zone") zs)), .stb (houseI fl ls m so)] = .ok (.stb (.fn 103 [.lst (nats zs)])) [] := by
  have h10 : ∀ z ∈ zs, z < 10 := fun z h => by have := h9 z h; omega
  have hs := split_some (textL (Str.ofString "zone") zs) (text_len _ _ (by decide) (by omega))
  have fw : free 32 (Str.ofString "zone") := by unfold free; decide +kernel
  rw [text_split _ _ fw h10] at hs
  have n1 := eqStr (textL (Str.ofString "zone") zs) (Str.ofString "near")
  have n2 := eqStr (textL (Str.ofString "zone") zs) (Str.ofString "least")
  have n3 := eqStr (textL (Str.ofString "zone") zs) (Str.ofString "turns")
  rw [text_ne _ _ zs fw (by unfold free; decide +kernel) (by decide +kernel) h10] at n1 n2 n3
  have e1 := eqStr (Str.ofString "zone") (Str.ofString "zone")
  rw [show (Str.ofString "zone" == Str.ofString "zone") = true from by decide +kernel] at e1
  have le := lifts_eq fl m ls so zs (by omega) hl h9
  have ct := cut_tail (D.str (Str.ofString "zone")) ((zs.map numS).map .str)
  have bl : bLen [.lst ((Str.ofString "zone" :: zs.map numS).map D.str)] = some (.int (fl + 1)) := by simp; omega
  have hd : atI ((Str.ofString "zone" :: zs.map numS).map D.str) 0 = some (.str (Str.ofString "zone")) := at0
  have ih1 : atI [D.int fl, .tup (ls.map liftD), .int m, .str so] 0 = some (.int fl) := at0
  have ct2 : cutD ((Str.ofString "zone" :: zs.map numS).map D.str) (some 1) none = (zs.map numS).map D.str := ct
  generalize (Str.ofString "zone" :: zs.map numS).map D.str = wl at *
  generalize (zs.map numS).map D.str = sl at *
  generalize nats zs = nl at *
  generalize textL (Str.ofString "zone") zs = tx at *
  generalize ls.map liftD = lsd at *
  unfold houseI at *
  simp [F_dealer_of, b_dealer_of, hs, n1, n2, n3, hd, e1, bl, ih1, dSl, ct2, le, F_zone_dealer]
theorem dealer_fixed (fl m : Int) (ls : List LWt) (so : Str) (zs : List Nat) (hz : 1 ≤ zs.length ∧ zs.length ≤ 9) (hl : ls.length ≤ 3) (h9 : ∀ z ∈ zs, z < ls.length) :
    F_dealer_of [.stb (.str (textL (Str.ofString "fixed") zs)), .stb (houseI fl ls m so)] = .ok (.stb (.fn 104 [.lst (nats zs)])) [] := by
  have h10 : ∀ z ∈ zs, z < 10 := fun z h => by have := h9 z h; omega
  have hs := split_some (textL (Str.ofString "fixed") zs) (text_len _ _ (by decide) (by omega))
  have fw : free 32 (Str.ofString "fixed") := by unfold free; decide +kernel
  rw [text_split _ _ fw h10] at hs
  have n1 := eqStr (textL (Str.ofString "fixed") zs) (Str.ofString "near")
  have n2 := eqStr (textL (Str.ofString "fixed") zs) (Str.ofString "least")
  have n3 := eqStr (textL (Str.ofString "fixed") zs) (Str.ofString "turns")
  rw [text_ne _ _ zs fw (by unfold free; decide +kernel) (by decide +kernel) h10] at n1 n2 n3
  have e0 := eqStr (Str.ofString "fixed") (Str.ofString "zone")
  rw [show (Str.ofString "fixed" == Str.ofString "zone") = false from by decide +kernel] at e0
  have e1 := eqStr (Str.ofString "fixed") (Str.ofString "fixed")
  rw [show (Str.ofString "fixed" == Str.ofString "fixed") = true from by decide +kernel] at e1
  have le := lifts_eq fl m ls so zs (by omega) hl h9
  have bl : bLen [.lst ((Str.ofString "fixed" :: zs.map numS).map D.str)] = some (.int (zs.length + 1)) := by simp
  have hd : atI ((Str.ofString "fixed" :: zs.map numS).map D.str) 0 = some (.str (Str.ofString "fixed")) := at0
  have ih1 : atI [D.int fl, .tup (ls.map liftD), .int m, .str so] 0 = some (.int fl) := at0
  have ct2 : cutD ((Str.ofString "fixed" :: zs.map numS).map D.str) (some 1) none = (zs.map numS).map D.str := cut_tail (D.str (Str.ofString "fixed")) ((zs.map numS).map .str)
  generalize (Str.ofString "fixed" :: zs.map numS).map D.str = wl at *
  generalize (zs.map numS).map D.str = sl at *
  generalize nats zs = nl at *
  generalize textL (Str.ofString "fixed") zs = tx at *
  generalize ls.map liftD = lsd at *
  have c1 : (1 : Int) < (zs.length : Int) + 1 := by omega
  have c2 : (zs.length : Int) + 1 ≤ 10 := by omega
  unfold houseI at *
  simp [F_dealer_of, b_dealer_of, hs, n1, n2, n3, hd, e0, e1, bl, ih1, dSl, ct2, le, F_fixed_dealer, c1, c2]
theorem dealer_turns (h : D) : F_dealer_of [.stb (.str (Str.ofString "turns")), .stb h] = .ok (.stb (.fn 102 [])) [] := by
  have e := split_some (Str.ofString "turns") (by decide)
  have e1 := eqStr (Str.ofString "turns") (Str.ofString "near")
  have e2 := eqStr (Str.ofString "turns") (Str.ofString "least")
  have e3 := eqStr (Str.ofString "turns") (Str.ofString "turns")
  rw [show (Str.ofString "turns" == Str.ofString "near") = false from by decide +kernel] at e1
  rw [show (Str.ofString "turns" == Str.ofString "least") = false from by decide +kernel] at e2
  rw [show (Str.ofString "turns" == Str.ofString "turns") = true from by decide +kernel] at e3
  simp [F_dealer_of, b_dealer_of, e, e1, e2, e3, F_turns_dealer]

end Lf.S
namespace Lf.k32
open PySem L2 PyProof.Rows
def top (i : Nat) : Stmt := PySem.Challenge.pw_liftcourt_k32_dealers_read.main.body.getD i (.Pass ⟨0, 0, 0, 0⟩)
/-! _law_cell -/
abbrev s__law_cell : Stmt := top 34
theorem sc__law_cell : FnScope ["_law_script", "_law_k"] ["_law_script", "_law_k"] (defScope s__law_cell) := ⟨rfl, rfl, rfl, by decide +kernel, rfl, by decide +kernel, by decide +kernel⟩
/-! _law_draw -/
abbrev s__law_draw : Stmt := top 35
theorem sc__law_draw : FnScope ["_law_script", "_law_k", "_law_prime", "_law_many"] ["_law_script", "_law_k", "_law_prime", "_law_many"] (defScope s__law_draw) := ⟨rfl, rfl, rfl, by decide +kernel, rfl, by decide +kernel, by decide +kernel⟩
/-! _law_lift -/
abbrev s__law_lift : Stmt := top 38
theorem sc__law_lift : FnScope ["_law_script", "_law_at_here", "_law_floors", "_law_kind", "_law_start"] ["_law_script", "_law_at_here", "_law_floors"] (defScope s__law_lift) := ⟨rfl, rfl, rfl, by decide +kernel, rfl, by decide +kernel, by decide +kernel⟩
/-! _law_house -/
abbrev s__law_house : Stmt := top 39
theorem sc__law_house : FnScope ["_law_script", "_law_most", "_law_floors", "_law_many", "_law_locked", "_law_sort", "_law_k"] ["_law_script", "_law_most"] (defScope s__law_house) := ⟨rfl, rfl, rfl, by decide +kernel, rfl, by decide +kernel, by decide +kernel⟩
/-! _law_bent -/
abbrev s__law_bent : Stmt := top 48
theorem sc__law_bent : FnScope ["_law_script", "_law_text", "_law_way", "_law_at_here", "_law_sign"] ["_law_script", "_law_text"] (defScope s__law_bent) := ⟨rfl, rfl, rfl, by decide +kernel, rfl, by decide +kernel, by decide +kernel⟩
/-! _law_great -/
abbrev s__law_great : Stmt := top 36
theorem sc__law_great : FnScope ["_law_script", "_law_k", "_law_most", "_law_mixed"] ["_law_script", "_law_k", "_law_most"] (defScope s__law_great) := ⟨rfl, rfl, rfl, by decide +kernel, rfl, by decide +kernel, by decide +kernel⟩
/-! _law_drawn_text -/
abbrev s__law_drawn_text : Stmt := top 47
theorem sc__law_drawn_text : FnScope ["_law_script", "_law_house_here", "_law_way", "_law_count", "_law_word", "_law_numbers", "_law_k", "_law_far", "_law_number"] ["_law_script", "_law_house_here"] (defScope s__law_drawn_text) := ⟨rfl, rfl, rfl, by decide +kernel, rfl, by decide +kernel, by decide +kernel⟩
/-! _law_read -/
abbrev s__law_read : Stmt := top 49
theorem sc__law_read : FnScope ["_law_text", "_law_house_here", "_law_words", "_law_numbers", "_law_word"] ["_law_text", "_law_house_here"] (defScope s__law_read) := ⟨rfl, rfl, rfl, by decide +kernel, rfl, by decide +kernel, by decide +kernel⟩
/-! near_dealer -/
abbrev s_near_dealer : Stmt := top 24
theorem sc_near_dealer : FnScope ["deal"] [] (defScope s_near_dealer) := ⟨rfl, rfl, rfl, by decide +kernel, rfl, by decide +kernel, by decide +kernel⟩
/-! serving -/
abbrev s_serving : Stmt := top 20
theorem sc_serving : FnScope ["cabins", "k"] ["cabins"] (defScope s_serving) := ⟨rfl, rfl, rfl, by decide +kernel, rfl, by decide +kernel, by decide +kernel⟩
/-! first_least -/
abbrev s_first_least : Stmt := top 23
theorem sc_first_least : FnScope ["numbers", "worths", "best", "k"] ["numbers", "worths"] (defScope s_first_least) := ⟨rfl, rfl, rfl, by decide +kernel, rfl, by decide +kernel, by decide +kernel⟩
/-! near_dealer.deal -/
abbrev s_near_dealer_deal : Stmt := (defBody s_near_dealer).getD 0 (.Pass ⟨0, 0, 0, 0⟩)
def nd_near_dealer_deal : NDef := ⟨s_near_dealer_deal, "deal", "near_dealer.<locals>.deal", ["cabins", "waiting", "rider", "last"], []⟩
theorem sc_near_dealer_deal : FnScope ["cabins", "waiting", "rider", "last", "numbers", "ways", "k"] ["cabins", "waiting", "rider", "last"] (C8.fnScope nd_near_dealer_deal.st) := ⟨rfl, rfl, rfl, by decide +kernel, rfl, by decide +kernel, by decide +kernel⟩
/-! least_dealer -/
abbrev s_least_dealer : Stmt := top 25
theorem sc_least_dealer : FnScope ["deal"] [] (defScope s_least_dealer) := ⟨rfl, rfl, rfl, by decide +kernel, rfl, by decide +kernel, by decide +kernel⟩
/-! least_dealer.deal -/
abbrev s_least_dealer_deal : Stmt := (defBody s_least_dealer).getD 0 (.Pass ⟨0, 0, 0, 0⟩)
def nd_least_dealer_deal : NDef := ⟨s_least_dealer_deal, "deal", "least_dealer.<locals>.deal", ["cabins", "waiting", "rider", "last"], []⟩
theorem sc_least_dealer_deal : FnScope ["cabins", "waiting", "rider", "last", "numbers", "lifts", "one", "counts", "k"] ["cabins", "waiting", "rider", "last"] (C8.fnScope nd_least_dealer_deal.st) := ⟨rfl, rfl, rfl, by decide +kernel, rfl, by decide +kernel, by decide +kernel⟩
/-! turns_dealer -/
abbrev s_turns_dealer : Stmt := top 26
theorem sc_turns_dealer : FnScope ["deal"] [] (defScope s_turns_dealer) := ⟨rfl, rfl, rfl, by decide +kernel, rfl, by decide +kernel, by decide +kernel⟩
/-! behind -/
abbrev s_behind : Stmt := top 21
theorem sc_behind : FnScope ["cabins", "lift", "many", "step"] ["cabins", "lift"] (defScope s_behind) := ⟨rfl, rfl, rfl, by decide +kernel, rfl, by decide +kernel, by decide +kernel⟩
/-! turns_dealer.deal -/
abbrev s_turns_dealer_deal : Stmt := (defBody s_turns_dealer).getD 0 (.Pass ⟨0, 0, 0, 0⟩)
def nd_turns_dealer_deal : NDef := ⟨s_turns_dealer_deal, "deal", "turns_dealer.<locals>.deal", ["cabins", "waiting", "rider", "last"], []⟩
theorem sc_turns_dealer_deal : FnScope ["cabins", "waiting", "rider", "last", "lift"] ["cabins", "waiting", "rider", "last"] (C8.fnScope nd_turns_dealer_deal.st) := ⟨rfl, rfl, rfl, by decide +kernel, rfl, by decide +kernel, by decide +kernel⟩
/-! zone_dealer -/
abbrev s_zone_dealer : Stmt := top 27
theorem sc_zone_dealer : FnScope ["lifts", "deal"] ["lifts"] (defScope s_zone_dealer) := ⟨rfl, rfl, rfl, by decide +kernel, rfl, by decide +kernel, by decide +kernel⟩
/-! at_or_behind -/
abbrev s_at_or_behind : Stmt := top 22
theorem sc_at_or_behind : FnScope ["cabins", "lift"] ["cabins", "lift"] (defScope s_at_or_behind) := ⟨rfl, rfl, rfl, by decide +kernel, rfl, by decide +kernel, by decide +kernel⟩
/-! zone_dealer.deal -/
abbrev s_zone_dealer_deal : Stmt := (defBody s_zone_dealer).getD 0 (.Pass ⟨0, 0, 0, 0⟩)
def nd_zone_dealer_deal : NDef := ⟨s_zone_dealer_deal, "deal", "zone_dealer.<locals>.deal", ["cabins", "waiting", "rider", "last"], ["lifts"]⟩
theorem sc_zone_dealer_deal : NdefX.NScope ["cabins", "waiting", "rider", "last", "lifts"] ["cabins", "waiting", "rider", "last"] ["lifts"] (C8.fnScope nd_zone_dealer_deal.st) := NdefX.nscope_by (by decide +kernel)
/-! number_of -/
abbrev s_number_of : Stmt := top 17
theorem sc_number_of : FnScope ["text", "sign"] ["text"] (defScope s_number_of) := ⟨rfl, rfl, rfl, by decide +kernel, rfl, by decide +kernel, by decide +kernel⟩
/-! lifts_of -/
abbrev s_lifts_of : Stmt := top 29
theorem sc_lifts_of : FnScope ["words", "house", "numbers", "word", "number"] ["words", "house"] (defScope s_lifts_of) := ⟨rfl, rfl, rfl, by decide +kernel, rfl, by decide +kernel, by decide +kernel⟩
/-! fixed_dealer -/
abbrev s_fixed_dealer : Stmt := top 28
theorem sc_fixed_dealer : FnScope ["lifts", "deal"] ["lifts"] (defScope s_fixed_dealer) := ⟨rfl, rfl, rfl, by decide +kernel, rfl, by decide +kernel, by decide +kernel⟩
/-! fixed_dealer.deal -/
abbrev s_fixed_dealer_deal : Stmt := (defBody s_fixed_dealer).getD 0 (.Pass ⟨0, 0, 0, 0⟩)
def nd_fixed_dealer_deal : NDef := ⟨s_fixed_dealer_deal, "deal", "fixed_dealer.<locals>.deal", ["cabins", "waiting", "rider", "last"], ["lifts"]⟩
theorem sc_fixed_dealer_deal : NdefX.NScope ["cabins", "waiting", "rider", "last", "lifts"] ["cabins", "waiting", "rider", "last"] ["lifts"] (C8.fnScope nd_fixed_dealer_deal.st) := NdefX.nscope_by (by decide +kernel)
/-! dealer_of -/
abbrev s_dealer_of : Stmt := top 30
theorem sc_dealer_of : FnScope ["text", "house", "words"] ["text", "house"] (defScope s_dealer_of) := ⟨rfl, rfl, rfl, by decide +kernel, rfl, by decide +kernel, by decide +kernel⟩
/-! cabin_of -/
abbrev s_cabin_of : Stmt := top 32
theorem sc_cabin_of : FnScope ["lift"] ["lift"] (defScope s_cabin_of) := ⟨rfl, rfl, rfl, by decide +kernel, rfl, by decide +kernel, by decide +kernel⟩
/-! _law_whole -/
abbrev s__law_whole : Stmt := top 37
theorem sc__law_whole : FnScope ["_law_thing"] ["_law_thing"] (defScope s__law_whole) := ⟨rfl, rfl, rfl, by decide +kernel, rfl, by decide +kernel, by decide +kernel⟩
/-! _law_pair_is -/
abbrev s__law_pair_is : Stmt := top 45
theorem sc__law_pair_is : FnScope ["_law_told", "_law_due_here"] ["_law_told", "_law_due_here"] (defScope s__law_pair_is) := ⟨rfl, rfl, rfl, by decide +kernel, rfl, by decide +kernel, by decide +kernel⟩
/-! _law_best -/
abbrev s__law_best : Stmt := top 42
theorem sc__law_best : FnScope ["_law_cabins", "_law_worths", "_law_best_here", "_law_k"] ["_law_cabins", "_law_worths"] (defScope s__law_best) := ⟨rfl, rfl, rfl, by decide +kernel, rfl, by decide +kernel, by decide +kernel⟩
/-! _law_near -/
abbrev s__law_near : Stmt := top 43
theorem sc__law_near : FnScope ["_law_cabins", "_law_start", "_law_cabin"] ["_law_cabins", "_law_start"] (defScope s__law_near) := ⟨rfl, rfl, rfl, by decide +kernel, rfl, by decide +kernel, by decide +kernel⟩
/-! _law_least -/
abbrev s__law_least : Stmt := top 44
theorem sc__law_least : FnScope ["_law_cabins", "_law_waiting", "_law_lifts", "_law_one", "_law_k"] ["_law_cabins", "_law_waiting"] (defScope s__law_least) := ⟨rfl, rfl, rfl, by decide +kernel, rfl, by decide +kernel, by decide +kernel⟩
/-! _law_behind -/
abbrev s__law_behind : Stmt := top 40
theorem sc__law_behind : FnScope ["_law_cabins", "_law_lift_here", "_law_many", "_law_step"] ["_law_cabins", "_law_lift_here"] (defScope s__law_behind) := ⟨rfl, rfl, rfl, by decide +kernel, rfl, by decide +kernel, by decide +kernel⟩
/-! _law_at -/
abbrev s__law_at : Stmt := top 41
theorem sc__law_at : FnScope ["_law_cabins", "_law_lift_here"] ["_law_cabins", "_law_lift_here"] (defScope s__law_at) := ⟨rfl, rfl, rfl, by decide +kernel, rfl, by decide +kernel, by decide +kernel⟩
/-! _law_due -/
abbrev s__law_due : Stmt := top 51
theorem sc__law_due : FnScope ["_law_read_here", "_law_cabins", "_law_waiting", "_law_last", "_law_rider", "_law_lift_here"] ["_law_read_here", "_law_cabins", "_law_waiting", "_law_last"] (defScope s__law_due) := ⟨rfl, rfl, rfl, by decide +kernel, rfl, by decide +kernel, by decide +kernel⟩
/-! _law_deals -/
abbrev s__law_deals : Stmt := top 52
theorem sc__law_deals : FnScope ["_law_text", "_law_read_here", "_law_house_here", "_law_last", "_law_deal", "_law_cabins", "_law_lift_here", "_law_marked", "_law_start", "_law_waiting", "_law_some"] ["_law_text", "_law_read_here", "_law_house_here", "_law_last"] (defScope s__law_deals) := ⟨rfl, rfl, rfl, by decide +kernel, rfl, by decide +kernel, by decide +kernel⟩
/-! _law_name -/
abbrev s__law_name : Stmt := top 46
theorem sc__law_name : FnScope ["_law_error", "_law_names"] ["_law_error"] (defScope s__law_name) := ⟨rfl, rfl, rfl, by decide +kernel, rfl, by decide +kernel, by decide +kernel⟩
/-! _law_refused -/
abbrev s__law_refused : Stmt := top 50
theorem sc__law_refused : FnScope ["_law_text", "_law_house_here", "_law_error", "e"] ["_law_text", "_law_house_here"] (defScope s__law_refused) := ⟨rfl, rfl, rfl, by decide +kernel, rfl, by decide +kernel, by decide +kernel⟩
/-! law -/
abbrev s_law : Stmt := top 53
theorem sc_law : FnScope ["_law_script", "_law_house_here", "_law_text", "_law_read_here", "_law_last"] ["_law_script"] (defScope s_law) := ⟨rfl, rfl, rfl, by decide +kernel, rfl, by decide +kernel, by decide +kernel⟩
structure Tx (G : Glob) (mg : Str → Option Value) (base : Heap) : Prop where
  d__law_cell : DefOk G.K mg "_law_cell" s__law_cell ["_law_script", "_law_k"]
  d__law_draw : DefOk G.K mg "_law_draw" s__law_draw ["_law_script", "_law_k", "_law_prime", "_law_many"]
  d__law_lift : DefOk G.K mg "_law_lift" s__law_lift ["_law_script", "_law_at_here", "_law_floors"]
  d__law_house : DefOk G.K mg "_law_house" s__law_house ["_law_script", "_law_most"]
  d__law_bent : DefOk G.K mg "_law_bent" s__law_bent ["_law_script", "_law_text"]
  d__law_great : DefOk G.K mg "_law_great" s__law_great ["_law_script", "_law_k", "_law_most"]
  d__law_drawn_text : DefOk G.K mg "_law_drawn_text" s__law_drawn_text ["_law_script", "_law_house_here"]
  d__law_read : DefOk G.K mg "_law_read" s__law_read ["_law_text", "_law_house_here"]
  mk_near_dealer : MkD G mg base "near_dealer" s_near_dealer [] "near_dealer.<locals>.deal"
  d_serving : DefOk G.K mg "serving" s_serving ["cabins"]
  d_first_least : DefOk G.K mg "first_least" s_first_least ["numbers", "worths"]
  nf_near_dealer_deal : NdF G 100 nd_near_dealer_deal
  mk_least_dealer : MkD G mg base "least_dealer" s_least_dealer [] "least_dealer.<locals>.deal"
  nf_least_dealer_deal : NdF G 101 nd_least_dealer_deal
  mk_turns_dealer : MkD G mg base "turns_dealer" s_turns_dealer [] "turns_dealer.<locals>.deal"
  d_behind : DefOk G.K mg "behind" s_behind ["cabins", "lift"]
  nf_turns_dealer_deal : NdF G 102 nd_turns_dealer_deal
  mk_zone_dealer : MkD G mg base "zone_dealer" s_zone_dealer ["lifts"] "zone_dealer.<locals>.deal"
  d_at_or_behind : DefOk G.K mg "at_or_behind" s_at_or_behind ["cabins", "lift"]
  nf_zone_dealer_deal : NdF G 103 nd_zone_dealer_deal
  d_number_of : DefOk G.K mg "number_of" s_number_of ["text"]
  d_lifts_of : DefOk G.K mg "lifts_of" s_lifts_of ["words", "house"]
  mk_fixed_dealer : MkD G mg base "fixed_dealer" s_fixed_dealer ["lifts"] "fixed_dealer.<locals>.deal"
  nf_fixed_dealer_deal : NdF G 104 nd_fixed_dealer_deal
  d_dealer_of : DefOk G.K mg "dealer_of" s_dealer_of ["text", "house"]
  d_cabin_of : DefOk G.K mg "cabin_of" s_cabin_of ["lift"]
  d__law_whole : DefOk G.K mg "_law_whole" s__law_whole ["_law_thing"]
  d__law_pair_is : DefOk G.K mg "_law_pair_is" s__law_pair_is ["_law_told", "_law_due_here"]
  d__law_best : DefOk G.K mg "_law_best" s__law_best ["_law_cabins", "_law_worths"]
  d__law_near : DefOk G.K mg "_law_near" s__law_near ["_law_cabins", "_law_start"]
  d__law_least : DefOk G.K mg "_law_least" s__law_least ["_law_cabins", "_law_waiting"]
  d__law_behind : DefOk G.K mg "_law_behind" s__law_behind ["_law_cabins", "_law_lift_here"]
  d__law_at : DefOk G.K mg "_law_at" s__law_at ["_law_cabins", "_law_lift_here"]
  d__law_due : DefOk G.K mg "_law_due" s__law_due ["_law_read_here", "_law_cabins", "_law_waiting", "_law_last"]
  d__law_deals : DefOk G.K mg "_law_deals" s__law_deals ["_law_text", "_law_read_here", "_law_house_here", "_law_last"]
  d__law_name : DefOk G.K mg "_law_name" s__law_name ["_law_error"]
  d__law_refused : DefOk G.K mg "_law_refused" s__law_refused ["_law_text", "_law_house_here"]
  d_law : DefOk G.K mg "law" s_law ["_law_script"]
  z_ValueError : mg "ValueError" = none
  z_abs : mg "abs" = none
  z_bool : mg "bool" = none
  z_int : mg "int" = none
  z_isinstance : mg "isinstance" = none
  z_len : mg "len" = none
  z_range : mg "range" = none
  z_str : mg "str" = none
  z_tuple : mg "tuple" = none
  c_FIGURES : GlC G mg "FIGURES" (.str "0123456789")
  c_MOST_FIGURES : GlC G mg "MOST_FIGURES" (.int 9)
  c_MOST_FIXED : GlC G mg "MOST_FIXED" (.int 9)
  ct_CourtError : CtF G mg "CourtError" [4] []
  eg : ExG G
  ie_Empty : IsEF G mg "Empty" [4] []
  ie_NoDeal : IsEF G mg "NoDeal" [4] [4]
  ie_NoDeed : IsEF G mg "NoDeed" [4] []
  ie_NoFloor : IsEF G mg "NoFloor" [4] []
  ie_NoHouse : IsEF G mg "NoHouse" [4] []
  ie_NoIll : IsEF G mg "NoIll" [4] []
  ie_NoLift : IsEF G mg "NoLift" [4] []
  ie_NoLine : IsEF G mg "NoLine" [4] []
  ie_NoRide : IsEF G mg "NoRide" [4] []
  ie_NoRule : IsEF G mg "NoRule" [4] []
  ie_TooMany : IsEF G mg "TooMany" [4] []
  ie_Twice : IsEF G mg "Twice" [4] []
  it_ValueError : IsET G "ValueError" [4]
  xc_NoDeal : XcF G mg "NoDeal" 4
  xf : ExF G [4]
  xv_NoFloor : XvF G 10 "floor"
  xv_NoLift : XvF G 11 "lift"
  xv_Twice : XvF G 12 "tag"
section
variable {P : Program} {w : World} {mg : Str → Option Value} {base : Heap} {G : Glob}
theorem ok__law_cell (T : Tx G mg base) : Cal G P w mg base "_law_cell" 1 2 S.F__law_cell :=
  have sc := sc__law_cell
  cal_mk T.d__law_cell sc fun fA cdv A outer s H E a hr h0 =>
    have hp : ∀ i : Nat, a.pv.length ≤ i := fun i => by rw [h0]; exact Nat.zero_le i
    have hps : ∀ ws : List Nat, ∀ v ∈ ws, a.pv.length ≤ v := fun ws v _ => hp v
    (jb_cons (js_if (jt_cmp op_lt opd_lt (je_var 1) (je_callB call_lenA cad_len rfl T.z_len (by rfl) (ja_cons (je_var 0) ja_nil)) (nomark _)) (jb_one (js_ret (je_ix rfl (je_var 0) (je_var 1)))) jb_nil)
    (jb_one (js_ret je_int)))
theorem ok__law_draw (T : Tx G mg base) : Cal G P w mg base "_law_draw" 2 4 S.F__law_draw_v2 :=
  have sc := sc__law_draw
  cal_mk T.d__law_draw sc fun fA cdv A outer s H E a hr h0 =>
    have hp : ∀ i : Nat, a.pv.length ≤ i := fun i => by rw [h0]; exact Nat.zero_le i
    have hps : ∀ ws : List Nat, ∀ v ∈ ws, a.pv.length ≤ v := fun ws v _ => hp v
    have tk := L2N.takes_of rfl rfl rfl rfl
    (jb_one (js_ret (je_bin op_mod opd_mod (je_bin op_mod opd_mod (je_bin op_addA opd_add (je_bin op_addA opd_add (je_bin op_mulA opd_mul (je_call (ok__law_cell T) rfl hr (by decide) tk rfl (ja_cons (je_var 0) (ja_cons (je_var 1) ja_nil))) je_int) (je_bin op_mulA opd_mul (je_bin op_mulA opd_mul je_int (je_var 1)) (je_var 1))) je_int) (je_var 2)) (je_var 3))))
theorem ok__law_lift (T : Tx G mg base) : Cal G P w mg base "_law_lift" 3 3 S.F__law_lift_v2 :=
  have sc := sc__law_lift
  cal_mk T.d__law_lift sc fun fA cdv A outer s H E a hr h0 =>
    have hp : ∀ i : Nat, a.pv.length ≤ i := fun i => by rw [h0]; exact Nat.zero_le i
    have hps : ∀ ws : List Nat, ∀ v ∈ ws, a.pv.length ≤ v := fun ws v _ => hp v
    have tk := L2N.takes_of rfl rfl rfl rfl
    (jb_cons (js_set 3 sc.nd (hp _) (je_ix rfl (je_lst (ja_cons je_str (ja_cons je_str (ja_cons je_str ja_nil)))) (je_call (ok__law_draw T) rfl hr (by decide) tk rfl (ja_cons (je_var 0) (ja_cons (je_var 1) (ja_cons je_int (ja_cons je_int ja_nil)))))))
    (jb_cons (js_set 4 sc.nd (hp _) (je_call (ok__law_draw T) rfl hr (by decide) tk rfl (ja_cons (je_var 0) (ja_cons (je_var 1) (ja_cons je_int (ja_cons (je_var 2) ja_nil))))))
    (jb_one (js_ret (je_tup (ja_cons (je_var 4) (ja_cons (je_bin op_addA opd_add je_int (je_call (ok__law_draw T) rfl hr (by decide) tk rfl (ja_cons (je_var 0) (ja_cons (je_var 1) (ja_cons je_int (ja_cons je_int ja_nil)))))) (ja_cons (je_bin op_addA opd_add je_int (je_call (ok__law_draw T) rfl hr (by decide) tk rfl (ja_cons (je_var 0) (ja_cons (je_var 1) (ja_cons je_int (ja_cons je_int ja_nil)))))) (ja_cons (je_var 3) ja_nil)))))))))
theorem ok__law_house (T : Tx G mg base) : Cal G P w mg base "_law_house" 4 2 S.F__law_house_v2 :=
  have sc := sc__law_house
  cal_mk T.d__law_house sc fun fA cdv A outer s H E a hr h0 =>
    have hp : ∀ i : Nat, a.pv.length ≤ i := fun i => by rw [h0]; exact Nat.zero_le i
    have hps : ∀ ws : List Nat, ∀ v ∈ ws, a.pv.length ≤ v := fun ws v _ => hp v
    have tk := L2N.takes_of rfl rfl rfl rfl
    (jb_cons (js_set 2 sc.nd (hp _) (je_bin op_addA opd_add je_int (je_call (ok__law_draw T) rfl hr (by decide) tk rfl (ja_cons (je_var 0) (ja_cons je_int (ja_cons je_int (ja_cons je_int ja_nil)))))))
    (jb_cons (js_set 3 sc.nd (hp _) (je_bin op_addA opd_add je_int (je_call (ok__law_draw T) rfl hr (by decide) tk rfl (ja_cons (je_var 0) (ja_cons je_int (ja_cons je_int (ja_cons (je_var 1) ja_nil)))))))
    (jb_cons (js_set 4 sc.nd (hp _) (je_bin op_mulA opd_mul (je_bin op_fdivW opd_fdv (je_call (ok__law_draw T) rfl hr (by decide) tk rfl (ja_cons (je_var 0) (ja_cons je_int (ja_cons je_int (ja_cons (je_bin op_shl opd_shl je_int (je_var 2)) ja_nil))))) je_int) je_int))
    (jb_cons (js_if (jt_cmp op_gt opd_gt (je_call (ok__law_draw T) rfl hr (by decide) tk rfl (ja_cons (je_var 0) (ja_cons je_int (ja_cons je_int (ja_cons je_int ja_nil))))) je_int (nomark _)) (jb_one (js_set 4 sc.nd (hp _) je_int)) jb_nil)
    (jb_cons (js_set 5 sc.nd (hp _) (je_ix rfl (je_lst (ja_cons je_str (ja_cons je_str ja_nil))) (je_call (ok__law_draw T) rfl hr (by decide) tk rfl (ja_cons (je_var 0) (ja_cons je_int (ja_cons je_int (ja_cons je_int ja_nil)))))))
    (jb_one (js_ret (je_tup (ja_cons (je_var 2) (ja_cons (je_callTy call_tuple_of cad_tuple rfl T.z_tuple (by rfl) (ja_cons (je_fr (jo_lc (own := [("_law_k", 6)]) (hps _) rfl sc.nd (ji_range1 rfl T.z_range (ja_cons (je_var 3) ja_nil)) (blkOk_by (by with_unfolding_all rfl)) (fun _ _ _ _ _ => (jg_name 6 sc.nd (hp _))) (fun _ _ _ _ _ => jts_nil) (fun _ _ _ _ _ => (je_call (ok__law_lift T) rfl hr (by decide) takesF rfl (ja_cons (je_var 0) (ja_cons (je_bin op_addA opd_add je_int (je_var 6)) (ja_cons (je_var 2) ja_nil))))))) ja_nil)) (ja_cons (je_var 4) (ja_cons (je_var 5) ja_nil))))))))))))
theorem ok__law_bent (T : Tx G mg base) : Cal G P w mg base "_law_bent" 3 2 S.F__law_bent_v2 :=
  have sc := sc__law_bent
  cal_mk T.d__law_bent sc fun fA cdv A outer s H E a hr h0 =>
    have hp : ∀ i : Nat, a.pv.length ≤ i := fun i => by rw [h0]; exact Nat.zero_le i
    have hps : ∀ ws : List Nat, ∀ v ∈ ws, a.pv.length ≤ v := fun ws v _ => hp v
    have tk := L2N.takes_of rfl rfl rfl rfl
    (jb_cons (js_set 2 sc.nd (hp _) (je_call (ok__law_draw T) rfl hr (by decide) tk rfl (ja_cons (je_var 0) (ja_cons je_int (ja_cons je_int (ja_cons je_int ja_nil))))))
    (jb_cons (js_set 3 sc.nd (hp _) (je_call (ok__law_draw T) rfl hr (by decide) tk rfl (ja_cons (je_var 0) (ja_cons je_int (ja_cons je_int (ja_cons (je_callB call_lenA cad_len rfl T.z_len (by rfl) (ja_cons (je_var 1) ja_nil)) ja_nil))))))
    (jb_cons (js_set 4 sc.nd (hp _) (je_ix rfl je_str (je_call (ok__law_draw T) rfl hr (by decide) tk rfl (ja_cons (je_var 0) (ja_cons je_int (ja_cons je_int (ja_cons je_int ja_nil)))))))
    (jb_cons (js_if (jt_cmp (op_eqA hr.units) opd_eq (je_var 2) je_int (nomark _)) (jb_one (js_ret (je_bin op_addA opd_add (je_bin op_addA opd_add (je_sl rfl (je_var 1) jp_none (jp_some (je_var 3))) (je_var 4)) (je_sl rfl (je_var 1) (jp_some (je_var 3)) jp_none)))) jb_nil)
    (jb_cons (js_if (jt_cmp (op_eqA hr.units) opd_eq (je_var 2) je_int (nomark _)) (jb_one (js_ret (je_bin op_addA opd_add (je_sl rfl (je_var 1) jp_none (jp_some (je_var 3))) (je_sl rfl (je_var 1) (jp_some (je_bin op_addA opd_add (je_var 3) je_int)) jp_none)))) jb_nil)
    (jb_cons (js_if (jt_cmp (op_eqA hr.units) opd_eq (je_var 2) je_int (nomark _)) (jb_one (js_ret (je_bin op_addA opd_add (je_sl rfl (je_var 1) jp_none (jp_some (je_bin op_addA opd_add (je_var 3) je_int))) (je_sl rfl (je_var 1) (jp_some (je_var 3)) jp_none)))) jb_nil)
    (jb_cons (js_if (jt_cmp (op_eqA hr.units) opd_eq (je_var 2) je_int (nomark _)) (jb_one (js_ret (je_bin op_addA opd_add (je_bin op_addA opd_add (je_sl rfl (je_var 1) jp_none (jp_some (je_var 3))) (je_var 4)) (je_sl rfl (je_var 1) (jp_some (je_bin op_addA opd_add (je_var 3) je_int)) jp_none)))) jb_nil)
    (jb_one (js_ret (je_var 1))))))))))
theorem ok__law_great (T : Tx G mg base) : Cal G P w mg base "_law_great" 2 3 S.F__law_great :=
  have sc := sc__law_great
  cal_mk T.d__law_great sc fun fA cdv A outer s H E a hr h0 =>
    have hp : ∀ i : Nat, a.pv.length ≤ i := fun i => by rw [h0]; exact Nat.zero_le i
    have hps : ∀ ws : List Nat, ∀ v ∈ ws, a.pv.length ≤ v := fun ws v _ => hp v
    have tk := L2N.takes_of rfl rfl rfl rfl
    (jb_cons (js_set 3 sc.nd (hp _) (je_bin op_addA opd_add (je_bin op_addA opd_add (je_bin op_mulA opd_mul (je_call (ok__law_cell T) rfl hr (by decide) tk rfl (ja_cons (je_var 0) (ja_cons (je_var 1) ja_nil))) je_int) (je_bin op_mulA opd_mul (je_bin op_mulA opd_mul je_int (je_var 1)) (je_var 1))) je_int))
    (jb_one (js_ret (je_bin op_mod opd_mod (je_bin op_mulX opd_mulX (je_var 3) (je_bin op_pow opd_pow je_int je_int)) (je_bin op_addA opd_add (je_var 2) je_int)))))
theorem ok__law_drawn_text (T : Tx G mg base) : Cal G P w mg base "_law_drawn_text" 3 2 S.F__law_drawn_text :=
  have sc := sc__law_drawn_text
  cal_mk T.d__law_drawn_text sc fun fA cdv A outer s H E a hr h0 =>
    have hp : ∀ i : Nat, a.pv.length ≤ i := fun i => by rw [h0]; exact Nat.zero_le i
    have hps : ∀ ws : List Nat, ∀ v ∈ ws, a.pv.length ≤ v := fun ws v _ => hp v
    have tk := L2N.takes_of rfl rfl rfl rfl
    (jb_cons (js_set 2 sc.nd (hp _) (je_call (ok__law_draw T) rfl hr (by decide) tk rfl (ja_cons (je_var 0) (ja_cons je_int (ja_cons je_int (ja_cons je_int ja_nil))))))
    (jb_cons (js_if (jt_cmp op_lt opd_lt (je_var 2) je_int (nomark _)) (jb_one (js_ret (je_ix rfl (je_lst (ja_cons je_str (ja_cons je_str (ja_cons je_str ja_nil)))) (je_var 2)))) jb_nil)
    (jb_cons (js_set 3 sc.nd (hp _) (je_ix rfl (je_var 1) je_int))
    (jb_cons (js_set 4 sc.nd (hp _) je_str)
    (jb_cons (js_if (jt_cmp (op_eqA hr.units) opd_eq (je_var 2) je_int (nomark _)) (jb_cons (js_set 3 sc.nd (hp _) (je_bin op_addA opd_add je_int (je_call (ok__law_draw T) rfl hr (by decide) tk rfl (ja_cons (je_var 0) (ja_cons je_int (ja_cons je_int (ja_cons je_int ja_nil)))))))
    (jb_one (js_set 4 sc.nd (hp _) je_str))) jb_nil)
    (jb_cons (js_if (jt_cmp (op_eqA hr.units) opd_eq (je_call (ok__law_draw T) rfl hr (by decide) tk rfl (ja_cons (je_var 0) (ja_cons je_int (ja_cons je_int (ja_cons je_int ja_nil))))) je_int (nomark _)) (jb_one (js_set 3 sc.nd (hp _) (je_bin op_addA opd_add (je_bin op_sub opd_sub (je_var 3) je_int) (je_bin op_mulA opd_mul je_int (je_call (ok__law_draw T) rfl hr (by decide) tk rfl (ja_cons (je_var 0) (ja_cons je_int (ja_cons je_int (ja_cons je_int ja_nil))))))))) jb_nil)
    (jb_cons (js_setLc (own := [("_law_k", 6)]) 5 (hp _) (hps _) rfl sc.nd (ji_range1 rfl T.z_range (ja_cons (je_var 3) ja_nil)) (blkOk_by (by with_unfolding_all rfl)) (fun _ _ _ _ _ => (jg_name 6 sc.nd (hp _))) (fun _ _ _ _ _ => jts_nil) (fun _ _ _ _ _ => (je_call (ok__law_draw T) rfl hr (by decide) takesF rfl (ja_cons (je_var 0) (ja_cons (je_bin op_addA opd_add je_int (je_var 6)) (ja_cons je_int (ja_cons (je_callB call_lenA cad_len rfl T.z_len (by rfl) (ja_cons (je_ix rfl (je_var 1) je_int) ja_nil)) ja_nil)))))))
    (jb_cons (js_if (jt_w (jw_and (jt_cmp op_gt opd_gt (je_var 3) je_int (nomark _)) (jw_and1 (jt_cmp (op_eqA hr.units) opd_eq (je_call (ok__law_draw T) rfl hr (by decide) tk rfl (ja_cons (je_var 0) (ja_cons je_int (ja_cons je_int (ja_cons je_int ja_nil))))) je_int (nomark _))))) (jb_cons (js_set 7 sc.nd (hp _) (je_bin op_mulA opd_mul (je_call (ok__law_great T) rfl hr (by decide) tk rfl (ja_cons (je_var 0) (ja_cons je_int (ja_cons (je_bin op_pow opd_pow je_int je_int) ja_nil)))) (je_call (ok__law_draw T) rfl hr (by decide) tk rfl (ja_cons (je_var 0) (ja_cons je_int (ja_cons je_int (ja_cons je_int ja_nil)))))))
    (jb_one (js_setix (pl_slot 5) (je_call (ok__law_draw T) rfl hr (by decide) tk rfl (ja_cons (je_var 0) (ja_cons je_int (ja_cons je_int (ja_cons (je_var 3) ja_nil))))) (je_bin op_addA opd_add (je_callB call_lenA cad_len rfl T.z_len (by rfl) (ja_cons (je_ix rfl (je_var 1) je_int) ja_nil)) (je_var 7))))) jb_nil)
    (jb_one (js_ret (je_bor fun a hp hps => (je_m1 mtd_join PySem.F.slot_str_join PySem.F.type_str_join mt_join je_str (je_bin op_addA opd_add (je_lst (ja_cons (je_var 4) ja_nil)) (je_fr (jo_lc (own := [("_law_number", 8)]) (hps _) rfl sc.nd (ji_items rfl (je_var 5)) (blkOk_by (by with_unfolding_all rfl)) (fun _ _ _ _ _ => (jg_name 8 sc.nd (hp _))) (fun _ _ _ _ _ => jts_nil) (fun _ _ _ _ _ => (je_callTy call_strA cad_str rfl T.z_str (by rfl) (ja_cons (je_var 8) ja_nil))))))))))))))))))
theorem ok__law_read (T : Tx G mg base) : Cal G P w mg base "_law_read" 1 2 S.F__law_read_v2 :=
  have sc := sc__law_read
  cal_mk T.d__law_read sc fun fA cdv A outer s H E a hr h0 =>
    have hp : ∀ i : Nat, a.pv.length ≤ i := fun i => by rw [h0]; exact Nat.zero_le i
    have hps : ∀ ws : List Nat, ∀ v ∈ ws, a.pv.length ≤ v := fun ws v _ => hp v
    (jb_cons (js_if (jt_cmp (op_inA (u65 hr)) opd_in (je_var 0) (je_lst (ja_cons je_str (ja_cons je_str (ja_cons je_str ja_nil)))) (by rfl)) (jb_one (js_retO (jo_tupO (jao_cons (jo_st (je_var 0)) (jao_cons (jo_lst ja_nil) jao_nil))))) jb_nil)
    (jb_cons (js_set 2 sc.nd (hp _) (je_m1 mtd_split PySem.F.slot_str_split PySem.F.type_str_split mt_split (je_var 0) je_str))
    (jb_cons (js_setO 3 sc.nd (hp _) (jo_lst ja_nil))
    (jb_cons (js_for (passes_of rfl) rfl (ji_items rfl (je_sl rfl (je_var 2) (jp_some je_int) jp_none)) (jg_name 4 sc.nd (hp _)) (jb_cons (js_if (jt_cmp (op_notInA (u65 hr)) opd_notIn (je_var 4) (je_sl rfl (je_lst (ja_cons je_str (ja_cons je_str (ja_cons je_str ja_nil)))) jp_none (jp_some (je_callB call_lenA cad_len rfl T.z_len (by rfl) (ja_cons (je_ix rfl (je_var 1) je_int) ja_nil)))) (by rfl)) (jb_one (js_ret je_non)) jb_nil)
    (jb_one (js_exprM (jm_lm (pl_slot 3) lmd_app rfl PySem.F.plainAttrs_list PySem.F.slot_list_append PySem.F.type_list_append mt_append (ja_cons (je_callTy call_intA cad_int rfl T.z_int (by rfl) (ja_cons (je_var 4) ja_nil)) ja_nil))))))
    (jb_cons (js_if (jt_bor fun a hp hps => (jt_w (jw_and (jt_cmp (op_eqA hr.units) opd_eq (je_ix rfl (je_var 2) je_int) je_str (nomark _)) (jw_and1 (jt_cmp (op_eqA hr.units) opd_eq (je_callB call_lenA cad_len rfl T.z_len (by rfl) (ja_cons (je_var 3) ja_nil)) (je_ix rfl (je_var 1) je_int) (nomark _)))))) (jb_one (js_retO (jo_tupO (jao_cons (jo_st je_str) (jao_cons (jo_mov 3) jao_nil))))) jb_nil)
    (jb_cons (js_if (jt_bor fun a hp hps => (jt_w (jw_and (jt_cmp (op_eqA hr.units) opd_eq (je_ix rfl (je_var 2) je_int) je_str (nomark _)) (jw_and1 (jt_chain op_le opd_le op_le opd_le je_int (je_callB call_lenA cad_len rfl T.z_len (by rfl) (ja_cons (je_var 3) ja_nil)) je_int))))) (jb_one (js_retO (jo_tupO (jao_cons (jo_st je_str) (jao_cons (jo_mov 3) jao_nil))))) jb_nil)
    (jb_one (js_ret je_non))))))))
theorem ok_serving (T : Tx G mg base) : Cal G P w mg base "serving" 1 1 S.F_serving :=
  have sc := sc_serving
  cal_mk T.d_serving sc fun fA cdv A outer s H E a hr h0 =>
    have hp : ∀ i : Nat, a.pv.length ≤ i := fun i => by rw [h0]; exact Nat.zero_le i
    have hps : ∀ ws : List Nat, ∀ v ∈ ws, a.pv.length ≤ v := fun ws v _ => hp v
    (jb_one (js_retO (jo_lc (own := [("k", 1)]) (hps _) rfl sc.nd (ji_range1 rfl T.z_range (ja_cons (je_callB call_lenA cad_len rfl T.z_len (by rfl) (ja_cons (je_var 0) ja_nil)) ja_nil)) (blkOk_by (by with_unfolding_all rfl)) (fun _ _ _ _ _ => (jg_name 1 sc.nd (hp _))) (fun _ _ _ _ _ => (jts_one (jt_cmp (op_eqA hr.units) opd_eq (je_ix rfl (je_ix rfl (je_var 0) (je_var 1)) je_int) je_int (nomark _)))) (fun _ _ _ _ _ => (je_var 1)))))
theorem ok_first_least (T : Tx G mg base) : Cal G P w mg base "first_least" 1 2 S.F_first_least :=
  have sc := sc_first_least
  cal_mk T.d_first_least sc fun fA cdv A outer s H E a hr h0 =>
    have hp : ∀ i : Nat, a.pv.length ≤ i := fun i => by rw [h0]; exact Nat.zero_le i
    have hps : ∀ ws : List Nat, ∀ v ∈ ws, a.pv.length ≤ v := fun ws v _ => hp v
    (jb_cons (js_set 2 sc.nd (hp _) (je_un un_neg und_neg je_int))
    (jb_cons (js_for (passes_of rfl) rfl (ji_range1 rfl T.z_range (ja_cons (je_callB call_lenA cad_len rfl T.z_len (by rfl) (ja_cons (je_var 0) ja_nil)) ja_nil)) (jg_name 3 sc.nd (hp _)) (jb_one (js_if (jt_w (jw_or (jt_cmp (op_eqA hr.units) opd_eq (je_var 2) (je_un un_neg und_neg je_int) (nomark _)) (jw_or1 (jt_cmp op_lt opd_lt (je_ix rfl (je_var 1) (je_var 3)) (je_ix rfl (je_var 1) (je_var 2)) (nomark _))))) (jb_one (js_set 2 sc.nd (hp _) (je_var 3))) jb_nil)))
    (jb_cons (js_if (jt_cmp (op_eqA hr.units) opd_eq (je_var 2) (je_un un_neg und_neg je_int) (nomark _)) (jb_one (js_ret (je_un un_neg und_neg je_int))) jb_nil)
    (jb_one (js_ret (je_ix rfl (je_var 0) (je_var 2)))))))
theorem nk_near_dealer_deal (T : Tx G mg base) : NokD nd_near_dealer_deal G P w mg base 2 S.F_near_dealer_deal :=
  have sc := sc_near_dealer_deal
  nfnA (N := ["cabins", "waiting", "rider", "last", "numbers", "ways", "k"]) (d := nd_near_dealer_deal) (fm := S.b_near_dealer_deal) rfl sc (fun _ _ _ _ _ us hl => match us, hl with | [_, _, _, _], _ => rfl) fun f c A outer s H E a hr h0 =>
    have hp : ∀ i : Nat, a.pv.length ≤ i := fun i => by rw [h0]; exact Nat.zero_le i
    have hps : ∀ ws : List Nat, ∀ v ∈ ws, a.pv.length ≤ v := fun ws v _ => hp v
    have tk := L2N.takes_of rfl rfl rfl rfl
    (jb_cons (js_set 4 sc.nd (hp _) (je_call (ok_serving T) rfl hr (by decide) tk rfl (ja_cons (je_var 0) ja_nil)))
    (jb_cons (js_setLcF (own := [("k", 6)]) 5 (hp _) (hps _) rfl sc.nd (ji_items rfl (je_var 4)) (blkOk_by (by with_unfolding_all rfl)) (fun _ _ _ _ _ => (jg_name 6 sc.nd (hp _))) (fun _ _ _ _ _ => jts_nil) (fun _ _ _ _ _ => (je_callB call_abs cad_abs rfl T.z_abs (by rfl) (ja_cons (je_bin op_sub opd_sub (je_ix rfl (je_ix rfl (je_var 0) (je_var 6)) je_int) (je_bin op_mulA opd_mul je_int (je_ix rfl (je_var 2) je_int))) ja_nil))))
    (jb_one (js_ret (je_tup (ja_cons (je_call (ok_first_least T) rfl hr (by decide) tk rfl (ja_cons (je_var 4) (ja_cons (je_var 5) ja_nil))) (ja_cons (je_var 3) ja_nil)))))))
theorem nc_near_dealer_deal (T : Tx G mg base) : NCal G P w mg base 100 2 4 S.F_near_dealer_deal := ⟨nd_near_dealer_deal, rfl, by decide, fun h => T.nf_near_dealer_deal.iff.mp h, nk_near_dealer_deal T⟩
theorem ok_near_dealer (T : Tx G mg base) : Cal G P w mg base "near_dealer" 1 0 S.F_near_dealer :=
  cal_mkr (i := 0) (js := []) (n := 100) (d := nd_near_dealer_deal) T.mk_near_dealer sc_near_dealer rfl rfl rfl rfl rfl rfl rfl (fun _ => rfl) (by decide) (by decide +kernel) (by decide +kernel) (by decide +kernel) rfl (by decide) (by decide) (fun h => T.nf_near_dealer_deal.iff.mpr h)
theorem nk_least_dealer_deal (T : Tx G mg base) : NokD nd_least_dealer_deal G P w mg base 2 S.F_least_dealer_deal :=
  have sc := sc_least_dealer_deal
  nfnA (N := ["cabins", "waiting", "rider", "last", "numbers", "lifts", "one", "counts", "k"]) (d := nd_least_dealer_deal) (fm := S.b_least_dealer_deal) rfl sc (fun _ _ _ _ _ us hl => match us, hl with | [_, _, _, _], _ => rfl) fun f c A outer s H E a hr h0 =>
    have hp : ∀ i : Nat, a.pv.length ≤ i := fun i => by rw [h0]; exact Nat.zero_le i
    have hps : ∀ ws : List Nat, ∀ v ∈ ws, a.pv.length ≤ v := fun ws v _ => hp v
    have tk := L2N.takes_of rfl rfl rfl rfl
    (jb_cons (js_set 4 sc.nd (hp _) (je_call (ok_serving T) rfl hr (by decide) tk rfl (ja_cons (je_var 0) ja_nil)))
    (jb_cons (js_set 5 sc.nd (hp _) (je_fr (jo_lc (own := [("one", 6)]) (hps _) rfl sc.nd (ji_items rfl (je_var 1)) (blkOk_by (by with_unfolding_all rfl)) (fun _ _ _ _ _ => (jg_name 6 sc.nd (hp _))) (fun _ _ _ _ _ => jts_nil) (fun _ _ _ _ _ => (je_ix rfl (je_var 6) je_int)))))
    (jb_cons (js_setLcF (own := [("k", 8)]) 7 (hp _) (hps _) rfl sc.nd (ji_items rfl (je_var 4)) (blkOk_by (by with_unfolding_all rfl)) (fun _ _ _ _ _ => (jg_name 8 sc.nd (hp _))) (fun _ _ _ _ _ => jts_nil) (fun _ _ _ _ _ => (je_bin op_addA opd_add (je_callB call_lenA cad_len rfl T.z_len (by rfl) (ja_cons (je_ix rfl (je_ix rfl (je_var 0) (je_var 8)) je_int) ja_nil)) (je_lcount rfl (je_var 5) (je_var 8)))))
    (jb_one (js_ret (je_tup (ja_cons (je_call (ok_first_least T) rfl hr (by decide) tk rfl (ja_cons (je_var 4) (ja_cons (je_var 7) ja_nil))) (ja_cons (je_var 3) ja_nil))))))))
theorem nc_least_dealer_deal (T : Tx G mg base) : NCal G P w mg base 101 2 4 S.F_least_dealer_deal := ⟨nd_least_dealer_deal, rfl, by decide, fun h => T.nf_least_dealer_deal.iff.mp h, nk_least_dealer_deal T⟩
theorem ok_least_dealer (T : Tx G mg base) : Cal G P w mg base "least_dealer" 1 0 S.F_least_dealer :=
  cal_mkr (i := 0) (js := []) (n := 101) (d := nd_least_dealer_deal) T.mk_least_dealer sc_least_dealer rfl rfl rfl rfl rfl rfl rfl (fun _ => rfl) (by decide) (by decide +kernel) (by decide +kernel) (by decide +kernel) rfl (by decide) (by decide) (fun h => T.nf_least_dealer_deal.iff.mpr h)
theorem ok_behind (T : Tx G mg base) : Cal G P w mg base "behind" 1 2 S.F_behind :=
  have sc := sc_behind
  cal_mk T.d_behind sc fun fA cdv A outer s H E a hr h0 =>
    have hp : ∀ i : Nat, a.pv.length ≤ i := fun i => by rw [h0]; exact Nat.zero_le i
    have hps : ∀ ws : List Nat, ∀ v ∈ ws, a.pv.length ≤ v := fun ws v _ => hp v
    (jb_cons (js_set 2 sc.nd (hp _) (je_callB call_lenA cad_len rfl T.z_len (by rfl) (ja_cons (je_var 0) ja_nil)))
    (jb_cons (js_for (passes_of rfl) rfl (ji_range2 rfl T.z_range (ja_cons je_int (ja_cons (je_bin op_addA opd_add (je_var 2) je_int) ja_nil))) (jg_name 3 sc.nd (hp _)) (jb_one (js_if (jt_cmp (op_eqA hr.units) opd_eq (je_ix rfl (je_ix rfl (je_var 0) (je_bin op_mod opd_mod (je_bin op_addA opd_add (je_var 1) (je_var 3)) (je_var 2))) je_int) je_int (nomark _)) (jb_one (js_ret (je_bin op_mod opd_mod (je_bin op_addA opd_add (je_var 1) (je_var 3)) (je_var 2)))) jb_nil)))
    (jb_one (js_ret (je_un un_neg und_neg je_int)))))
theorem nk_turns_dealer_deal (T : Tx G mg base) : NokD nd_turns_dealer_deal G P w mg base 2 S.F_turns_dealer_deal :=
  have sc := sc_turns_dealer_deal
  nfnA (N := ["cabins", "waiting", "rider", "last", "lift"]) (d := nd_turns_dealer_deal) (fm := S.b_turns_dealer_deal) rfl sc (fun _ _ _ _ _ us hl => match us, hl with | [_, _, _, _], _ => rfl) fun f c A outer s H E a hr h0 =>
    have hp : ∀ i : Nat, a.pv.length ≤ i := fun i => by rw [h0]; exact Nat.zero_le i
    have hps : ∀ ws : List Nat, ∀ v ∈ ws, a.pv.length ≤ v := fun ws v _ => hp v
    have tk := L2N.takes_of rfl rfl rfl rfl
    (jb_cons (js_set 4 sc.nd (hp _) (je_call (ok_behind T) rfl hr (by decide) tk rfl (ja_cons (je_var 0) (ja_cons (je_var 3) ja_nil))))
    (jb_cons (js_if (jt_cmp (op_eqA hr.units) opd_eq (je_var 4) (je_un un_neg und_neg je_int) (nomark _)) (jb_one (js_ret (je_tup (ja_cons (je_un un_neg und_neg je_int) (ja_cons (je_var 3) ja_nil))))) jb_nil)
    (jb_one (js_ret (je_tup (ja_cons (je_var 4) (ja_cons (je_var 4) ja_nil)))))))
theorem nc_turns_dealer_deal (T : Tx G mg base) : NCal G P w mg base 102 2 4 S.F_turns_dealer_deal := ⟨nd_turns_dealer_deal, rfl, by decide, fun h => T.nf_turns_dealer_deal.iff.mp h, nk_turns_dealer_deal T⟩
theorem ok_turns_dealer (T : Tx G mg base) : Cal G P w mg base "turns_dealer" 1 0 S.F_turns_dealer :=
  cal_mkr (i := 0) (js := []) (n := 102) (d := nd_turns_dealer_deal) T.mk_turns_dealer sc_turns_dealer rfl rfl rfl rfl rfl rfl rfl (fun _ => rfl) (by decide) (by decide +kernel) (by decide +kernel) (by decide +kernel) rfl (by decide) (by decide) (fun h => T.nf_turns_dealer_deal.iff.mpr h)
theorem ok_at_or_behind (T : Tx G mg base) : Cal G P w mg base "at_or_behind" 2 2 S.F_at_or_behind :=
  have sc := sc_at_or_behind
  cal_mk T.d_at_or_behind sc fun fA cdv A outer s H E a hr h0 =>
    have hp : ∀ i : Nat, a.pv.length ≤ i := fun i => by rw [h0]; exact Nat.zero_le i
    have hps : ∀ ws : List Nat, ∀ v ∈ ws, a.pv.length ≤ v := fun ws v _ => hp v
    have tk := L2N.takes_of rfl rfl rfl rfl
    (jb_cons (js_if (jt_cmp (op_eqA hr.units) opd_eq (je_ix rfl (je_ix rfl (je_var 0) (je_var 1)) je_int) je_int (nomark _)) (jb_one (js_ret (je_var 1))) jb_nil)
    (jb_one (js_retO (jo_call (ok_behind T) rfl hr (by decide) tk rfl (ja_cons (je_var 0) (ja_cons (je_var 1) ja_nil))))))
theorem nk_zone_dealer_deal (T : Tx G mg base) : NokD nd_zone_dealer_deal G P w mg base 3 S.F_zone_dealer_deal :=
  have sc := sc_zone_dealer_deal
  nfnB (N := ["cabins", "waiting", "rider", "last", "lifts"]) (d := nd_zone_dealer_deal) (fm := S.b_zone_dealer_deal) sc (fun _ _ _ _ _ us hl => match us, hl with | [_, _, _, _], _ => rfl) fun cl f c A outer s H E a hr h0 =>
    have hp : ∀ i : Nat, a.pv.length ≤ i := fun i => by rw [h0]; exact Nat.zero_le i
    have hps : ∀ ws : List Nat, ∀ v ∈ ws, a.pv.length ≤ v := fun ws v _ => hp v
    have tk := L2N.takes_of rfl rfl rfl rfl
    (jb_one (js_ret (je_tup (ja_cons (je_call (ok_at_or_behind T) rfl hr (by decide) tk rfl (ja_cons (je_var 0) (ja_cons (je_ix rfl (je_var 4) (je_ix rfl (je_var 2) je_int)) ja_nil))) (ja_cons (je_var 3) ja_nil)))))
theorem nc_zone_dealer_deal (T : Tx G mg base) : NCal G P w mg base 103 3 4 S.F_zone_dealer_deal := ⟨nd_zone_dealer_deal, rfl, by decide, fun h => T.nf_zone_dealer_deal.iff.mp h, nk_zone_dealer_deal T⟩
theorem ok_zone_dealer (T : Tx G mg base) : Cal G P w mg base "zone_dealer" 1 1 S.F_zone_dealer :=
  cal_mkr (i := 1) (js := [0]) (n := 103) (d := nd_zone_dealer_deal) T.mk_zone_dealer sc_zone_dealer rfl rfl rfl rfl rfl rfl rfl (fun _ => rfl) (by decide) (by decide +kernel) (by decide +kernel) (by decide +kernel) rfl (by decide) (by decide) (fun h => T.nf_zone_dealer_deal.iff.mpr h)
theorem ok_number_of (T : Tx G mg base) : Cal G P w mg base "number_of" 1 1 S.F_number_of :=
  have sc := sc_number_of
  cal_mk T.d_number_of sc fun fA cdv A outer s H E a hr h0 =>
    have hp : ∀ i : Nat, a.pv.length ≤ i := fun i => by rw [h0]; exact Nat.zero_le i
    have hps : ∀ ws : List Nat, ∀ v ∈ ws, a.pv.length ≤ v := fun ws v _ => hp v
    (jb_cons (js_if (jt_w (jw_or (jt_cmp op_lt opd_lt (je_callB call_lenA cad_len rfl T.z_len (by rfl) (ja_cons (je_var 0) ja_nil)) je_int (nomark _)) (jw_or1 (jt_cmp op_gt opd_gt (je_callB call_lenA cad_len rfl T.z_len (by rfl) (ja_cons (je_var 0) ja_nil)) (je_glob T.c_MOST_FIGURES rfl) (nomark _))))) (jb_one (js_ret je_non)) jb_nil)
    (jb_cons (js_for (passes_of rfl) rfl (ji_items rfl (je_var 0)) (jg_name 1 sc.nd (hp _)) (jb_one (js_if (jt_cmp (op_notInA (u65 hr)) opd_notIn (je_var 1) (je_glob T.c_FIGURES rfl) (by rfl)) (jb_one (js_ret je_non)) jb_nil)))
    (jb_cons (js_if (jt_w (jw_and (jt_cmp (op_eqA hr.units) opd_eq (je_ix rfl (je_var 0) je_int) je_str (nomark _)) (jw_and1 (jt_cmp op_gt opd_gt (je_callB call_lenA cad_len rfl T.z_len (by rfl) (ja_cons (je_var 0) ja_nil)) je_int (nomark _))))) (jb_one (js_ret je_non)) jb_nil)
    (jb_one (js_ret (je_callTy call_intA cad_int rfl T.z_int (by rfl) (ja_cons (je_var 0) ja_nil)))))))
theorem ok_lifts_of (T : Tx G mg base) : Cal G P w mg base "lifts_of" 2 2 S.F_lifts_of_v2 :=
  have sc := sc_lifts_of
  cal_mk T.d_lifts_of sc fun fA cdv A outer s H E a hr h0 =>
    have hp : ∀ i : Nat, a.pv.length ≤ i := fun i => by rw [h0]; exact Nat.zero_le i
    have hps : ∀ ws : List Nat, ∀ v ∈ ws, a.pv.length ≤ v := fun ws v _ => hp v
    have tk := L2N.takes_of rfl rfl rfl rfl
    (jb_cons (js_setLcF (own := [("word", 3)]) 2 (hp _) (hps _) rfl sc.nd (ji_items rfl (je_var 0)) (blkOk_by (by with_unfolding_all rfl)) (fun _ _ _ _ _ => (jg_name 3 sc.nd (hp _))) (fun _ _ _ _ _ => jts_nil) (fun _ _ _ _ _ => (je_call (ok_number_of T) rfl hr (by decide) takesF rfl (ja_cons (je_var 3) ja_nil))))
    (jb_cons (js_for (passes_of rfl) rfl (ji_items rfl (je_var 2)) (jg_name 4 sc.nd (hp _)) (jb_one (js_if (jt_w (jw_or (jt_cmp op_isA opd_is (je_var 4) je_non (nomark _)) (jw_or1 (jt_cmp op_ge opd_ge (je_var 4) (je_callB call_lenA cad_len rfl T.z_len (by rfl) (ja_cons (je_ix rfl (je_var 1) je_int) ja_nil)) (nomark _))))) (jb_one (js_raise T.xc_NoDeal rfl (by rfl) tk rfl)) jb_nil)))
    (jb_one (js_ret (je_var 2)))))
theorem nk_fixed_dealer_deal (T : Tx G mg base) : NokD nd_fixed_dealer_deal G P w mg base 3 S.F_fixed_dealer_deal :=
  have sc := sc_fixed_dealer_deal
  nfnB (N := ["cabins", "waiting", "rider", "last", "lifts"]) (d := nd_fixed_dealer_deal) (fm := S.b_fixed_dealer_deal) sc (fun _ _ _ _ _ us hl => match us, hl with | [_, _, _, _], _ => rfl) fun cl f c A outer s H E a hr h0 =>
    have hp : ∀ i : Nat, a.pv.length ≤ i := fun i => by rw [h0]; exact Nat.zero_le i
    have hps : ∀ ws : List Nat, ∀ v ∈ ws, a.pv.length ≤ v := fun ws v _ => hp v
    have tk := L2N.takes_of rfl rfl rfl rfl
    (jb_one (js_ret (je_tup (ja_cons (je_call (ok_at_or_behind T) rfl hr (by decide) tk rfl (ja_cons (je_var 0) (ja_cons (je_ix rfl (je_var 4) (je_bin op_mod opd_mod (je_ix rfl (je_var 2) je_int) (je_callB call_lenA cad_len rfl T.z_len (by rfl) (ja_cons (je_var 4) ja_nil)))) ja_nil))) (ja_cons (je_var 3) ja_nil)))))
theorem nc_fixed_dealer_deal (T : Tx G mg base) : NCal G P w mg base 104 3 4 S.F_fixed_dealer_deal := ⟨nd_fixed_dealer_deal, rfl, by decide, fun h => T.nf_fixed_dealer_deal.iff.mp h, nk_fixed_dealer_deal T⟩
theorem ok_fixed_dealer (T : Tx G mg base) : Cal G P w mg base "fixed_dealer" 1 1 S.F_fixed_dealer :=
  cal_mkr (i := 1) (js := [0]) (n := 104) (d := nd_fixed_dealer_deal) T.mk_fixed_dealer sc_fixed_dealer rfl rfl rfl rfl rfl rfl rfl (fun _ => rfl) (by decide) (by decide +kernel) (by decide +kernel) (by decide +kernel) rfl (by decide) (by decide) (fun h => T.nf_fixed_dealer_deal.iff.mpr h)
theorem ok_dealer_of (T : Tx G mg base) : Cal G P w mg base "dealer_of" 3 2 S.F_dealer_of_v2 :=
  have sc := sc_dealer_of
  cal_mk T.d_dealer_of sc fun fA cdv A outer s H E a hr h0 =>
    have hp : ∀ i : Nat, a.pv.length ≤ i := fun i => by rw [h0]; exact Nat.zero_le i
    have hps : ∀ ws : List Nat, ∀ v ∈ ws, a.pv.length ≤ v := fun ws v _ => hp v
    have tk := L2N.takes_of rfl rfl rfl rfl
    (jb_cons (js_set 2 sc.nd (hp _) (je_m1 mtd_split PySem.F.slot_str_split PySem.F.type_str_split mt_split (je_var 0) je_str))
    (jb_cons (js_if (jt_cmp (op_eqA hr.units) opd_eq (je_var 0) je_str (nomark _)) (jb_one (js_retO (jo_call0 (ok_near_dealer T) rfl hr (by decide) tk rfl))) jb_nil)
    (jb_cons (js_if (jt_cmp (op_eqA hr.units) opd_eq (je_var 0) je_str (nomark _)) (jb_one (js_retO (jo_call0 (ok_least_dealer T) rfl hr (by decide) tk rfl))) jb_nil)
    (jb_cons (js_if (jt_cmp (op_eqA hr.units) opd_eq (je_var 0) je_str (nomark _)) (jb_one (js_retO (jo_call0 (ok_turns_dealer T) rfl hr (by decide) tk rfl))) jb_nil)
    (jb_cons (js_if (jt_w (jw_and (jt_cmp (op_eqA hr.units) opd_eq (je_ix rfl (je_var 2) je_int) je_str (nomark _)) (jw_and1 (jt_cmp (op_eqA hr.units) opd_eq (je_callB call_lenA cad_len rfl T.z_len (by rfl) (ja_cons (je_var 2) ja_nil)) (je_bin op_addA opd_add (je_ix rfl (je_var 1) je_int) je_int) (nomark _))))) (jb_one (js_retO (jo_call (ok_zone_dealer T) rfl hr (by decide) tk rfl (ja_cons (je_call (ok_lifts_of T) rfl hr (by decide) tk rfl (ja_cons (je_sl rfl (je_var 2) (jp_some je_int) jp_none) (ja_cons (je_var 1) ja_nil))) ja_nil)))) jb_nil)
    (jb_cons (js_if (jt_w (jw_and (jt_cmp (op_eqA hr.units) opd_eq (je_ix rfl (je_var 2) je_int) je_str (nomark _)) (jw_and1 (jt_chain op_lt opd_lt op_le opd_le je_int (je_callB call_lenA cad_len rfl T.z_len (by rfl) (ja_cons (je_var 2) ja_nil)) (je_bin op_addA opd_add (je_glob T.c_MOST_FIXED rfl) je_int))))) (jb_one (js_retO (jo_call (ok_fixed_dealer T) rfl hr (by decide) tk rfl (ja_cons (je_call (ok_lifts_of T) rfl hr (by decide) tk rfl (ja_cons (je_sl rfl (je_var 2) (jp_some je_int) jp_none) (ja_cons (je_var 1) ja_nil))) ja_nil)))) jb_nil)
    (jb_one (js_raise T.xc_NoDeal rfl (by rfl) tk rfl))))))))
theorem ok_cabin_of (T : Tx G mg base) : Cal G P w mg base "cabin_of" 1 1 S.F_cabin_of :=
  have sc := sc_cabin_of
  cal_mk T.d_cabin_of sc fun fA cdv A outer s H E a hr h0 =>
    have hp : ∀ i : Nat, a.pv.length ≤ i := fun i => by rw [h0]; exact Nat.zero_le i
    have hps : ∀ ws : List Nat, ∀ v ∈ ws, a.pv.length ≤ v := fun ws v _ => hp v
    (jb_one (js_ret (je_tup (ja_cons (je_bin op_mulA opd_mul je_int (je_ix rfl (je_var 0) je_int)) (ja_cons je_int (ja_cons je_int (ja_cons je_int (ja_cons (je_tup ja_nil) ja_nil))))))))
theorem ok__law_whole (T : Tx G mg base) : Cal G P w mg base "_law_whole" 1 1 S.F__law_whole :=
  have sc := sc__law_whole
  cal_mk T.d__law_whole sc fun fA cdv A outer s H E a hr h0 =>
    have hp : ∀ i : Nat, a.pv.length ≤ i := fun i => by rw [h0]; exact Nat.zero_le i
    have hps : ∀ ws : List Nat, ∀ v ∈ ws, a.pv.length ≤ v := fun ws v _ => hp v
    (jb_one (js_ret (je_and (je_callB call_isi cad_isi rfl T.z_isinstance (by rfl) (ja_cons (je_var 0) (ja_cons (je_ty rfl T.z_int (by rfl)) ja_nil))) (je_one (je_not (je_callB call_isi cad_isi rfl T.z_isinstance (by rfl) (ja_cons (je_var 0) (ja_cons (je_ty rfl T.z_bool (by rfl)) ja_nil))))))))
theorem ok__law_pair_is (T : Tx G mg base) : Cal G P w mg base "_law_pair_is" 2 2 S.F__law_pair_is :=
  have sc := sc__law_pair_is
  cal_mk T.d__law_pair_is sc fun fA cdv A outer s H E a hr h0 =>
    have hp : ∀ i : Nat, a.pv.length ≤ i := fun i => by rw [h0]; exact Nat.zero_le i
    have hps : ∀ ws : List Nat, ∀ v ∈ ws, a.pv.length ≤ v := fun ws v _ => hp v
    have tk := L2N.takes_of rfl rfl rfl rfl
    (jb_cons (js_if (jt_w (jw_or (jt_not (jt_val (je_callB call_isi cad_isi rfl T.z_isinstance (by rfl) (ja_cons (je_var 0) (ja_cons (je_ty rfl T.z_tuple (by rfl)) ja_nil))))) (jw_or1 (jt_cmp (op_neA hr.units) opd_ne (je_callB call_lenA cad_len rfl T.z_len (by rfl) (ja_cons (je_var 0) ja_nil)) je_int (nomark _))))) (jb_one (js_ret je_bl)) jb_nil)
    (jb_one (js_ret (je_and (je_call (ok__law_whole T) rfl hr (by decide) tk rfl (ja_cons (je_ix rfl (je_var 0) je_int) ja_nil)) (je_and (je_call (ok__law_whole T) rfl hr (by decide) tk rfl (ja_cons (je_ix rfl (je_var 0) je_int) ja_nil)) (je_one (je_cmp (op_eqA hr.units) opd_eq (je_var 0) (je_var 1) (nomark _))))))))
theorem ok__law_best (T : Tx G mg base) : Cal G P w mg base "_law_best" 1 2 S.F__law_best :=
  have sc := sc__law_best
  cal_mk T.d__law_best sc fun fA cdv A outer s H E a hr h0 =>
    have hp : ∀ i : Nat, a.pv.length ≤ i := fun i => by rw [h0]; exact Nat.zero_le i
    have hps : ∀ ws : List Nat, ∀ v ∈ ws, a.pv.length ≤ v := fun ws v _ => hp v
    (jb_cons (js_set 2 sc.nd (hp _) (je_un un_neg und_neg je_int))
    (jb_cons (js_for (passes_of rfl) rfl (ji_range1 rfl T.z_range (ja_cons (je_callB call_lenA cad_len rfl T.z_len (by rfl) (ja_cons (je_var 0) ja_nil)) ja_nil)) (jg_name 3 sc.nd (hp _)) (jb_one (js_if (jt_w (jw_and (jt_cmp (op_eqA hr.units) opd_eq (je_ix rfl (je_ix rfl (je_var 0) (je_var 3)) je_int) je_int (nomark _)) (jw_and1 (jt_w (jw_or (jt_cmp (op_eqA hr.units) opd_eq (je_var 2) (je_un un_neg und_neg je_int) (nomark _)) (jw_or1 (jt_cmp op_lt opd_lt (je_ix rfl (je_var 1) (je_var 3)) (je_ix rfl (je_var 1) (je_var 2)) (nomark _)))))))) (jb_one (js_set 2 sc.nd (hp _) (je_var 3))) jb_nil)))
    (jb_one (js_ret (je_var 2)))))
theorem ok__law_near (T : Tx G mg base) : Cal G P w mg base "_law_near" 2 2 S.F__law_near_v2 :=
  have sc := sc__law_near
  cal_mk T.d__law_near sc fun fA cdv A outer s H E a hr h0 =>
    have hp : ∀ i : Nat, a.pv.length ≤ i := fun i => by rw [h0]; exact Nat.zero_le i
    have hps : ∀ ws : List Nat, ∀ v ∈ ws, a.pv.length ≤ v := fun ws v _ => hp v
    have tk := L2N.takes_of rfl rfl rfl rfl
    (jb_one (js_retO (jo_call (ok__law_best T) rfl hr (by decide) tk rfl (ja_cons (je_var 0) (ja_cons (je_fr (jo_lc (own := [("_law_cabin", 2)]) (hps _) rfl sc.nd (ji_items rfl (je_var 0)) (blkOk_by (by with_unfolding_all rfl)) (fun _ _ _ _ _ => (jg_name 2 sc.nd (hp _))) (fun _ _ _ _ _ => jts_nil) (fun _ _ _ _ _ => (je_callB call_abs cad_abs rfl T.z_abs (by rfl) (ja_cons (je_bin op_sub opd_sub (je_ix rfl (je_var 2) je_int) (je_bin op_mulA opd_mul je_int (je_var 1))) ja_nil))))) ja_nil)))))
theorem ok__law_least (T : Tx G mg base) : Cal G P w mg base "_law_least" 2 2 S.F__law_least :=
  have sc := sc__law_least
  cal_mk T.d__law_least sc fun fA cdv A outer s H E a hr h0 =>
    have hp : ∀ i : Nat, a.pv.length ≤ i := fun i => by rw [h0]; exact Nat.zero_le i
    have hps : ∀ ws : List Nat, ∀ v ∈ ws, a.pv.length ≤ v := fun ws v _ => hp v
    have tk := L2N.takes_of rfl rfl rfl rfl
    (jb_cons (js_set 2 sc.nd (hp _) (je_fr (jo_lc (own := [("_law_one", 3)]) (hps _) rfl sc.nd (ji_items rfl (je_var 1)) (blkOk_by (by with_unfolding_all rfl)) (fun _ _ _ _ _ => (jg_name 3 sc.nd (hp _))) (fun _ _ _ _ _ => jts_nil) (fun _ _ _ _ _ => (je_ix rfl (je_var 3) je_int)))))
    (jb_one (js_retO (jo_call (ok__law_best T) rfl hr (by decide) tk rfl (ja_cons (je_var 0) (ja_cons (je_fr (jo_lc (own := [("_law_k", 4)]) (hps _) rfl sc.nd (ji_range1 rfl T.z_range (ja_cons (je_callB call_lenA cad_len rfl T.z_len (by rfl) (ja_cons (je_var 0) ja_nil)) ja_nil)) (blkOk_by (by with_unfolding_all rfl)) (fun _ _ _ _ _ => (jg_name 4 sc.nd (hp _))) (fun _ _ _ _ _ => jts_nil) (fun _ _ _ _ _ => (je_bin op_addA opd_add (je_callB call_lenA cad_len rfl T.z_len (by rfl) (ja_cons (je_ix rfl (je_ix rfl (je_var 0) (je_var 4)) je_int) ja_nil)) (je_lcount rfl (je_var 2) (je_var 4)))))) ja_nil))))))
theorem ok__law_behind (T : Tx G mg base) : Cal G P w mg base "_law_behind" 1 2 S.F__law_behind :=
  have sc := sc__law_behind
  cal_mk T.d__law_behind sc fun fA cdv A outer s H E a hr h0 =>
    have hp : ∀ i : Nat, a.pv.length ≤ i := fun i => by rw [h0]; exact Nat.zero_le i
    have hps : ∀ ws : List Nat, ∀ v ∈ ws, a.pv.length ≤ v := fun ws v _ => hp v
    (jb_cons (js_set 2 sc.nd (hp _) (je_callB call_lenA cad_len rfl T.z_len (by rfl) (ja_cons (je_var 0) ja_nil)))
    (jb_cons (js_for (passes_of rfl) rfl (ji_range2 rfl T.z_range (ja_cons je_int (ja_cons (je_bin op_addA opd_add (je_var 2) je_int) ja_nil))) (jg_name 3 sc.nd (hp _)) (jb_one (js_if (jt_cmp (op_eqA hr.units) opd_eq (je_ix rfl (je_ix rfl (je_var 0) (je_bin op_mod opd_mod (je_bin op_addA opd_add (je_var 1) (je_var 3)) (je_var 2))) je_int) je_int (nomark _)) (jb_one (js_ret (je_bin op_mod opd_mod (je_bin op_addA opd_add (je_var 1) (je_var 3)) (je_var 2)))) jb_nil)))
    (jb_one (js_ret (je_un un_neg und_neg je_int)))))
theorem ok__law_at (T : Tx G mg base) : Cal G P w mg base "_law_at" 2 2 S.F__law_at :=
  have sc := sc__law_at
  cal_mk T.d__law_at sc fun fA cdv A outer s H E a hr h0 =>
    have hp : ∀ i : Nat, a.pv.length ≤ i := fun i => by rw [h0]; exact Nat.zero_le i
    have hps : ∀ ws : List Nat, ∀ v ∈ ws, a.pv.length ≤ v := fun ws v _ => hp v
    have tk := L2N.takes_of rfl rfl rfl rfl
    (jb_cons (js_if (jt_cmp (op_eqA hr.units) opd_eq (je_ix rfl (je_ix rfl (je_var 0) (je_var 1)) je_int) je_int (nomark _)) (jb_one (js_ret (je_var 1))) jb_nil)
    (jb_one (js_retO (jo_call (ok__law_behind T) rfl hr (by decide) tk rfl (ja_cons (je_var 0) (ja_cons (je_var 1) ja_nil))))))
theorem ok__law_due (T : Tx G mg base) : Cal G P w mg base "_law_due" 3 4 S.F__law_due_v10 :=
  have sc := sc__law_due
  cal_mk T.d__law_due sc fun fA cdv A outer s H E a hr h0 =>
    have hp : ∀ i : Nat, a.pv.length ≤ i := fun i => by rw [h0]; exact Nat.zero_le i
    have hps : ∀ ws : List Nat, ∀ v ∈ ws, a.pv.length ≤ v := fun ws v _ => hp v
    have tk := L2N.takes_of rfl rfl rfl rfl
    (jb_cons (js_set 4 sc.nd (hp _) (je_ix rfl (je_var 2) je_int))
    (jb_cons (js_if (jt_cmp (op_eqA hr.units) opd_eq (je_ix rfl (je_var 0) je_int) je_str (nomark _)) (jb_one (js_ret (je_tup (ja_cons (je_call (ok__law_near T) rfl hr (by decide) tk rfl (ja_cons (je_var 1) (ja_cons (je_ix rfl (je_var 4) je_int) ja_nil))) (ja_cons (je_var 3) ja_nil))))) jb_nil)
    (jb_cons (js_if (jt_cmp (op_eqA hr.units) opd_eq (je_ix rfl (je_var 0) je_int) je_str (nomark _)) (jb_one (js_ret (je_tup (ja_cons (je_call (ok__law_least T) rfl hr (by decide) tk rfl (ja_cons (je_var 1) (ja_cons (je_var 2) ja_nil))) (ja_cons (je_var 3) ja_nil))))) jb_nil)
    (jb_cons (js_set 5 sc.nd (hp _) (je_call (ok__law_behind T) rfl hr (by decide) tk rfl (ja_cons (je_var 1) (ja_cons (je_var 3) ja_nil))))
    (jb_cons (js_if (jt_w (jw_and (jt_cmp (op_eqA hr.units) opd_eq (je_ix rfl (je_var 0) je_int) je_str (nomark _)) (jw_and1 (jt_cmp (op_eqA hr.units) opd_eq (je_var 5) (je_un un_neg und_neg je_int) (nomark _))))) (jb_one (js_ret (je_tup (ja_cons (je_un un_neg und_neg je_int) (ja_cons (je_var 3) ja_nil))))) jb_nil)
    (jb_cons (js_if (jt_cmp (op_eqA hr.units) opd_eq (je_ix rfl (je_var 0) je_int) je_str (nomark _)) (jb_one (js_ret (je_tup (ja_cons (je_var 5) (ja_cons (je_var 5) ja_nil))))) jb_nil)
    (jb_cons (js_if (jt_cmp (op_eqA hr.units) opd_eq (je_ix rfl (je_var 0) je_int) je_str (nomark _)) (jb_one (js_ret (je_tup (ja_cons (je_call (ok__law_at T) rfl hr (by decide) tk rfl (ja_cons (je_var 1) (ja_cons (je_ix rfl (je_ix rfl (je_var 0) je_int) (je_ix rfl (je_var 4) je_int)) ja_nil))) (ja_cons (je_var 3) ja_nil))))) jb_nil)
    (jb_one (js_ret (je_tup (ja_cons (je_call (ok__law_at T) rfl hr (by decide) tk rfl (ja_cons (je_var 1) (ja_cons (je_ix rfl (je_ix rfl (je_var 0) je_int) (je_bin op_mod opd_mod (je_ix rfl (je_var 4) je_int) (je_callB call_lenA cad_len rfl T.z_len (by rfl) (ja_cons (je_ix rfl (je_var 0) je_int) ja_nil)))) ja_nil))) (ja_cons (je_var 3) ja_nil))))))))))))
theorem ok__law_deals (T : Tx G mg base) : Cal G P w mg base "_law_deals" 4 4 S.F__law_deals :=
  have sc := sc__law_deals
  cal_mk T.d__law_deals sc fun fA cdv A outer s H E a hr h0 =>
    have hp : ∀ i : Nat, a.pv.length ≤ i := fun i => by rw [h0]; exact Nat.zero_le i
    have hps : ∀ ws : List Nat, ∀ v ∈ ws, a.pv.length ≤ v := fun ws v _ => hp v
    have tk := L2N.takes_of rfl rfl rfl rfl
    (jb_cons (js_set 4 sc.nd (hp _) (je_call (ok_dealer_of T) rfl hr (by decide) tk rfl (ja_cons (je_var 0) (ja_cons (je_var 2) ja_nil))))
    (jb_cons (js_setLcF (own := [("_law_lift_here", 6)]) 5 (hp _) (hps _) rfl sc.nd (ji_items rfl (je_ix rfl (je_var 2) je_int)) (blkOk_by (by with_unfolding_all rfl)) (fun _ _ _ _ _ => (jg_name 6 sc.nd (hp _))) (fun _ _ _ _ _ => jts_nil) (fun _ _ _ _ _ => (je_call (ok_cabin_of T) rfl hr (by decide) takesF rfl (ja_cons (je_var 6) ja_nil))))
    (jb_cons (js_set 7 sc.nd (hp _) (je_bin op_addA opd_add (je_lst (ja_cons (je_bin op_addA opd_add (je_bin op_addA opd_add (je_sl rfl (je_ix rfl (je_var 5) je_int) jp_none (jp_some je_int)) (je_tup (ja_cons je_int ja_nil))) (je_sl rfl (je_ix rfl (je_var 5) je_int) (jp_some je_int) jp_none)) ja_nil)) (je_sl rfl (je_var 5) (jp_some je_int) jp_none)))
    (jb_cons (js_for (passes_of rfl) rfl (ji_range1 rfl T.z_range (ja_cons (je_ix rfl (je_var 2) je_int) ja_nil)) (jg_name 8 sc.nd (hp _)) (jb_cons (js_set 9 sc.nd (hp _) (je_lst (ja_cons (je_tup (ja_cons (je_bin op_addA opd_add (je_var 8) (je_bin op_mulA opd_mul je_int (je_var 3))) (ja_cons (je_var 8) (ja_cons (je_bin op_mod opd_mod (je_bin op_addA opd_add (je_var 8) je_int) (je_ix rfl (je_var 2) je_int)) (ja_cons (je_un un_neg und_neg je_int) ja_nil))))) ja_nil)))
    (jb_one (js_for (passes_of rfl) rfl (ji_items rfl (je_lst (ja_cons (je_var 5) (ja_cons (je_var 7) ja_nil)))) (jg_name 10 sc.nd (hp _)) (jb_one (js_if (jt_not (jt_val (je_call (ok__law_pair_is T) rfl hr (by decide) tk rfl (ja_cons (je_fr (jo_callN (tab := (tabL [(100, S.F_near_dealer_deal), (101, S.F_least_dealer_deal), (102, S.F_turns_dealer_deal), (103, S.F_zone_dealer_deal), (104, S.F_fixed_dealer_deal)])) (tab_cons ⟨_, by decide, nc_near_dealer_deal T⟩ (tab_cons ⟨_, by decide, nc_least_dealer_deal T⟩ (tab_cons ⟨_, by decide, nc_turns_dealer_deal T⟩ (tab_cons ⟨_, by decide, nc_zone_dealer_deal T⟩ (tab_cons ⟨_, by decide, nc_fixed_dealer_deal T⟩ tab_nil))))) rfl hr tk 4 (ja_cons (je_var 10) (ja_cons (je_var 9) (ja_cons (je_ix rfl (je_var 9) je_int) (ja_cons (je_var 3) ja_nil)))))) (ja_cons (je_call (ok__law_due T) rfl hr (by decide) tk rfl (ja_cons (je_var 1) (ja_cons (je_var 10) (ja_cons (je_var 9) (ja_cons (je_var 3) ja_nil))))) ja_nil))))) (jb_one (js_ret je_bl)) jb_nil))))))
    (jb_one (js_ret je_bl))))))
theorem ok__law_name (T : Tx G mg base) : Cal G P w mg base "_law_name" 2 1 S.F__law_name_v3 :=
  have sc := sc__law_name
  cal_mk T.d__law_name sc fun fA cdv A outer s H E a hr h0 =>
    have hp : ∀ i : Nat, a.pv.length ≤ i := fun i => by rw [h0]; exact Nat.zero_le i
    have hps : ∀ ws : List Nat, ∀ v ∈ ws, a.pv.length ≤ v := fun ws v _ => hp v
    have tk := L2N.takes_of rfl rfl rfl rfl
    (jb_cons (js_setO 1 sc.nd (hp _) (jo_lst ja_nil))
    (jb_cons (js_if (jt_val (je_isV T.ie_NoFloor T.xf T.eg rfl (je_var 0) (by rfl) T.z_isinstance (by rfl))) (jb_one (js_exprM (jm_lm (pl_slot 1) lmd_app rfl PySem.F.plainAttrs_list PySem.F.slot_list_append PySem.F.type_list_append mt_append (ja_cons (je_tup (ja_cons je_str (ja_cons (je_xf T.xv_NoFloor T.eg rfl (je_var 0)) ja_nil))) ja_nil)))) jb_nil)
    (jb_cons (js_if (jt_val (je_isV T.ie_NoLift T.xf T.eg rfl (je_var 0) (by rfl) T.z_isinstance (by rfl))) (jb_one (js_exprM (jm_lm (pl_slot 1) lmd_app rfl PySem.F.plainAttrs_list PySem.F.slot_list_append PySem.F.type_list_append mt_append (ja_cons (je_tup (ja_cons je_str (ja_cons (je_xf T.xv_NoLift T.eg rfl (je_var 0)) ja_nil))) ja_nil)))) jb_nil)
    (jb_cons (js_if (jt_val (je_isV T.ie_Twice T.xf T.eg rfl (je_var 0) (by rfl) T.z_isinstance (by rfl))) (jb_one (js_exprM (jm_lm (pl_slot 1) lmd_app rfl PySem.F.plainAttrs_list PySem.F.slot_list_append PySem.F.type_list_append mt_append (ja_cons (je_tup (ja_cons je_str (ja_cons (je_xf T.xv_Twice T.eg rfl (je_var 0)) ja_nil))) ja_nil)))) jb_nil)
    (jb_cons (js_if (jt_val (je_isV T.ie_NoRide T.xf T.eg rfl (je_var 0) (by rfl) T.z_isinstance (by rfl))) (jb_one (js_exprM (jm_lm (pl_slot 1) lmd_app rfl PySem.F.plainAttrs_list PySem.F.slot_list_append PySem.F.type_list_append mt_append (ja_cons (je_tup (ja_cons je_str (ja_cons je_int ja_nil))) ja_nil)))) jb_nil)
    (jb_cons (js_if (jt_val (je_isV T.ie_NoDeed T.xf T.eg rfl (je_var 0) (by rfl) T.z_isinstance (by rfl))) (jb_one (js_exprM (jm_lm (pl_slot 1) lmd_app rfl PySem.F.plainAttrs_list PySem.F.slot_list_append PySem.F.type_list_append mt_append (ja_cons (je_tup (ja_cons je_str (ja_cons je_int ja_nil))) ja_nil)))) jb_nil)
    (jb_cons (js_if (jt_val (je_isV T.ie_NoDeal T.xf T.eg rfl (je_var 0) (by rfl) T.z_isinstance (by rfl))) (jb_one (js_exprM (jm_lm (pl_slot 1) lmd_app rfl PySem.F.plainAttrs_list PySem.F.slot_list_append PySem.F.type_list_append mt_append (ja_cons (je_tup (ja_cons je_str (ja_cons je_int ja_nil))) ja_nil)))) jb_nil)
    (jb_cons (js_if (jt_w (jw_or (jt_val (je_isV T.ie_NoHouse T.xf T.eg rfl (je_var 0) (by rfl) T.z_isinstance (by rfl))) (jw_or (jt_val (je_isV T.ie_NoRule T.xf T.eg rfl (je_var 0) (by rfl) T.z_isinstance (by rfl))) (jw_or1 (jt_val (je_isV T.ie_NoIll T.xf T.eg rfl (je_var 0) (by rfl) T.z_isinstance (by rfl))))))) (jb_one (js_exprM (jm_lm (pl_slot 1) lmd_app rfl PySem.F.plainAttrs_list PySem.F.slot_list_append PySem.F.type_list_append mt_append (ja_cons (je_tup (ja_cons je_str (ja_cons je_int ja_nil))) ja_nil)))) jb_nil)
    (jb_cons (js_if (jt_w (jw_or (jt_val (je_isV T.ie_NoLine T.xf T.eg rfl (je_var 0) (by rfl) T.z_isinstance (by rfl))) (jw_or (jt_val (je_isV T.ie_Empty T.xf T.eg rfl (je_var 0) (by rfl) T.z_isinstance (by rfl))) (jw_or1 (jt_val (je_isV T.ie_TooMany T.xf T.eg rfl (je_var 0) (by rfl) T.z_isinstance (by rfl))))))) (jb_one (js_exprM (jm_lm (pl_slot 1) lmd_app rfl PySem.F.plainAttrs_list PySem.F.slot_list_append PySem.F.type_list_append mt_append (ja_cons (je_tup (ja_cons je_str (ja_cons je_int ja_nil))) ja_nil)))) jb_nil)
    (jb_cons (js_if (jt_bor fun a hp hps => (jt_w (jw_or (jt_cmp (op_neA hr.units) opd_ne (je_callB call_lenA cad_len rfl T.z_len (by rfl) (ja_cons (je_var 1) ja_nil)) je_int (nomark _)) (jw_or (jt_not (jt_val (je_isVT T.it_ValueError T.xf T.eg rfl (je_var 0) (by rfl) T.z_isinstance (by rfl) T.z_ValueError (by rfl)))) (jw_or1 (jt_not (jt_val (je_call (ok__law_whole T) rfl hr (by decide) tk rfl (ja_cons (je_ix rfl (je_ix rfl (je_var 1) je_int) je_int) ja_nil))))))))) (jb_one (js_ret (je_tup (ja_cons je_str (ja_cons je_int ja_nil))))) jb_nil)
    (jb_one (js_ret (je_bor fun a hp hps => (je_ix rfl (je_var 1) je_int))))))))))))))
theorem ok__law_refused (T : Tx G mg base) : Cal G P w mg base "_law_refused" 4 2 S.F__law_refused_v2 :=
  have sc := sc__law_refused
  cal_mk T.d__law_refused sc fun fA cdv A outer s H E a hr h0 =>
    have hp : ∀ i : Nat, a.pv.length ≤ i := fun i => by rw [h0]; exact Nat.zero_le i
    have hps : ∀ ws : List Nat, ∀ v ∈ ws, a.pv.length ≤ v := fun ws v _ => hp v
    have tk := L2N.takes_of rfl rfl rfl rfl
    (jb_cons (js_set 2 sc.nd (hp _) je_non)
    (jb_cons (js_tryV 3 2 T.ct_CourtError T.eg rfl rfl rfl rfl sc.nd rfl tk (hp _) (hp _) (fun W pn xe h tk ps => (jb_one (js_expr (je_call (ok_dealer_of T) rfl hr (by decide) tk rfl (ja_cons (je_var 0) (ja_cons (je_var 1) ja_nil)))))))
    (jb_one (js_ret (je_and (je_cmp op_isNA opd_isN (je_var 2) je_non (nomark _)) (je_one (je_cmp (op_eqA hr.units) opd_eq (je_call (ok__law_name T) rfl hr (by decide) tk rfl (ja_cons (je_var 2) ja_nil)) (je_tup (ja_cons je_str (ja_cons je_int ja_nil))) (nomark _))))))))
theorem fn_law (T : Tx G mg base) {fA : Addr} {fd : FuncData} (F : Fun G.K "law" "law" s_law fA fd) : FnOk P w G.K mg base (L2N.CX P w) 5 fA fd ["_law_script"] (SpF G 1 0 S.F_law_k32) :=
  have sc := sc_law
  fn_def F sc (Nat.zero_le _) fun cdv A outer s H E a hr h0 =>
    have hp : ∀ i : Nat, a.pv.length ≤ i := fun i => by rw [h0]; exact Nat.zero_le i
    have hps : ∀ ws : List Nat, ∀ v ∈ ws, a.pv.length ≤ v := fun ws v _ => hp v
    have tk := L2N.takes_of rfl rfl rfl rfl
    (jb_cons (js_set 1 sc.nd (hp _) (je_call (ok__law_house T) rfl hr (by decide) tk rfl (ja_cons (je_var 0) (ja_cons je_int ja_nil))))
    (jb_cons (js_set 2 sc.nd (hp _) (je_call (ok__law_bent T) rfl hr (by decide) tk rfl (ja_cons (je_var 0) (ja_cons (je_call (ok__law_drawn_text T) rfl hr (by decide) tk rfl (ja_cons (je_var 0) (ja_cons (je_var 1) ja_nil))) ja_nil))))
    (jb_cons (js_set 3 sc.nd (hp _) (je_call (ok__law_read T) rfl hr (by decide) tk rfl (ja_cons (je_var 2) (ja_cons (je_var 1) ja_nil))))
    (jb_cons (js_set 4 sc.nd (hp _) (je_call (ok__law_draw T) rfl hr (by decide) tk rfl (ja_cons (je_var 0) (ja_cons je_int (ja_cons je_int (ja_cons (je_callB call_lenA cad_len rfl T.z_len (by rfl) (ja_cons (je_ix rfl (je_var 1) je_int) ja_nil)) ja_nil))))))
    (jb_cons (js_if (jt_cmp op_isNA opd_isN (je_var 3) je_non (nomark _)) (jb_one (js_ret (je_and (je_call (ok__law_deals T) rfl hr (by decide) tk rfl (ja_cons (je_var 2) (ja_cons (je_var 3) (ja_cons (je_var 1) (ja_cons (je_var 4) ja_nil))))) (je_one (je_call (ok__law_deals T) rfl hr (by decide) tk rfl (ja_cons (je_var 2) (ja_cons (je_var 3) (ja_cons (je_var 1) (ja_cons je_int ja_nil))))))))) jb_nil)
    (jb_cons (js_if (jt_w (jw_or (jt_not (jt_val (je_call (ok__law_refused T) rfl hr (by decide) tk rfl (ja_cons (je_var 2) (ja_cons (je_var 1) ja_nil))))) (jw_or1 (jt_not (jt_val (je_call (ok__law_deals T) rfl hr (by decide) tk rfl (ja_cons je_str (ja_cons (je_tup (ja_cons je_str (ja_cons (je_lst ja_nil) ja_nil))) (ja_cons (je_var 1) (ja_cons (je_var 4) ja_nil)))))))))) (jb_one (js_ret je_bl)) jb_nil)
    (jb_one (js_retO (jo_call (ok__law_refused T) rfl hr (by decide) tk rfl (ja_cons (je_var 2) (ja_cons (je_var 1) ja_nil)))))))))))
end
theorem tx_mk {G : Glob} {h : Heap} {mg : Str → Option Value} {base : Heap} {f0 f1 f2 f3 f4 f5 f6 f7 f8 f9 f10 f12 f14 f15 f17 f18 f20 f21 f22 f24 f25 f26 f27 f28 f29 f30 f31 f32 f33 f34 f35 f36 f37 C_CourtError C_NoDeal C_NoFloor C_NoLift C_Twice C_NoHouse C_NoRule C_NoDeed C_NoRide C_NoIll C_NoLine C_Empty C_TooMany mc8 mP8 mc12 mP12 mc14 mP14 mc17 mP17 mc22 mP22 : Addr} {od0 an0 od1 an1 od2 an2 od3 an3 od4 an4 od5 an5 od6 an6 od7 an7 od8 an8 od9 an9 od10 an10 od12 an12 od14 an14 od15 an15 od17 an17 od18 an18 od20 an20 od21 an21 od22 an22 od24 an24 od25 an25 od26 an26 od27 an27 od28 an28 od29 an29 od30 an30 od31 an31 od32 an32 od33 an33 od34 an34 od35 an35 od36 an36 od37 an37 : Option Addr} {sl0 sl1 sl2 sl3 sl4 sl5 sl6 sl7 sl8 sl9 sl10 sl12 sl14 sl15 sl17 sl18 sl20 sl21 sl22 sl24 sl25 sl26 sl27 sl28 sl29 sl30 sl31 sl32 sl33 sl34 sl35 sl36 sl37 : Array (Option Value)} {oc0 kV0 dc0 pm0 cd0 ct0 oc1 kV1 dc1 pm1 cd1 ct1 oc2 kV2 dc2 pm2 cd2 ct2 oc3 kV3 dc3 pm3 cd3 ct3 oc4 kV4 dc4 pm4 cd4 ct4 oc5 kV5 dc5 pm5 cd5 ct5 oc6 kV6 dc6 pm6 cd6 ct6 oc7 kV7 dc7 pm7 cd7 ct7 oc8 kV8 dc8 pm8 ct8 oc9 kV9 dc9 pm9 cd9 ct9 oc10 kV10 dc10 pm10 cd10 ct10 oc12 kV12 dc12 pm12 ct12 oc14 kV14 dc14 pm14 ct14 oc15 kV15 dc15 pm15 cd15 ct15 oc17 kV17 dc17 pm17 ct17 oc18 kV18 dc18 pm18 cd18 ct18 oc20 kV20 dc20 pm20 cd20 ct20 oc21 kV21 dc21 pm21 cd21 ct21 oc22 kV22 dc22 pm22 ct22 oc24 kV24 dc24 pm24 cd24 ct24 oc25 kV25 dc25 pm25 cd25 ct25 oc26 kV26 dc26 pm26 cd26 ct26 oc27 kV27 dc27 pm27 cd27 ct27 oc28 kV28 dc28 pm28 cd28 ct28 oc29 kV29 dc29 pm29 cd29 ct29 oc30 kV30 dc30 pm30 cd30 ct30 oc31 kV31 dc31 pm31 cd31 ct31 oc32 kV32 dc32 pm32 cd32 ct32 oc33 kV33 dc33 pm33 cd33 ct33 oc34 kV34 dc34 pm34 cd34 ct34 oc35 kV35 dc35 pm35 cd35 ct35 oc36 kV36 dc36 pm36 cd36 ct36 oc37 kV37 dc37 pm37 cd37 ct37 : Value} {tk_FIGURES tk_MOST_FIGURES tk_MOST_FIXED : Tok} {ts : List Addr} {no8 : Value} {nd8 : Option Addr} {nv8 : Array Value} {ns8 : Array (Option Value)} {no12 : Value} {nd12 : Option Addr} {nv12 : Array Value} {ns12 : Array (Option Value)} {no14 : Value} {nd14 : Option Addr} {nv14 : Array Value} {ns14 : Array (Option Value)} {no17 : Value} {nd17 : Option Addr} {nv17 : Array Value} {ns17 : Array (Option Value)} {no22 : Value} {nd22 : Option Addr} {nv22 : Array Value} {ns22 : Array (Option Value)} (KX : G.K.In h) (N : h.Ns mainGlobals mg)
    (at_NoDeal : G.cls 4 = some C_NoDeal)
    (at_NoFloor : G.cls 10 = some C_NoFloor) (fl_NoFloor : G.flds 10 = (["floor"] : List Str))
    (at_NoLift : G.cls 11 = some C_NoLift) (fl_NoLift : G.flds 11 = (["lift"] : List Str))
    (at_Twice : G.cls 12 = some C_Twice) (fl_Twice : G.flds 12 = (["tag"] : List Str))
    (hEG : ExG G)
    (hu : (G.tabs.map (·.1)).Nodup)
    (TB8 : LamX.TabB base mg mc8 mP8)
    (hm8 : (mP8, fun _ _ => ("near_dealer.<locals>.deal" : Str)) ∈ G.tabs)
    (hf8 : NdF G 100 nd_near_dealer_deal)
    (TB12 : LamX.TabB base mg mc12 mP12)
    (hm12 : (mP12, fun _ _ => ("least_dealer.<locals>.deal" : Str)) ∈ G.tabs)
    (hf12 : NdF G 101 nd_least_dealer_deal)
    (TB14 : LamX.TabB base mg mc14 mP14)
    (hm14 : (mP14, fun _ _ => ("turns_dealer.<locals>.deal" : Str)) ∈ G.tabs)
    (hf14 : NdF G 102 nd_turns_dealer_deal)
    (TB17 : LamX.TabB base mg mc17 mP17)
    (hm17 : (mP17, fun _ _ => ("zone_dealer.<locals>.deal" : Str)) ∈ G.tabs)
    (hf17 : NdF G 103 nd_zone_dealer_deal)
    (TB22 : LamX.TabB base mg mc22 mP22)
    (hm22 : (mP22, fun _ _ => ("fixed_dealer.<locals>.deal" : Str)) ∈ G.tabs)
    (hf22 : NdF G 104 nd_fixed_dealer_deal)
    (eC_CourtError : PySem.W.nsIn G.K mainGlobals "CourtError" = some (some (.ref C_CourtError)))
    (eb_CourtError : PySem.W.subIn G.K (.ref C_CourtError) (.type "BaseException") = some true)
    (et_CourtError : PySem.W.typeIn G.K (.ref C_CourtError) = some (.type "type"))
    (eC_NoDeal : PySem.W.nsIn G.K mainGlobals "NoDeal" = some (some (.ref C_NoDeal)))
    (eb_NoDeal : PySem.W.subIn G.K (.ref C_NoDeal) (.type "BaseException") = some true)
    (et_NoDeal : PySem.W.typeIn G.K (.ref C_NoDeal) = some (.type "type"))
    (eC_NoFloor : PySem.W.nsIn G.K mainGlobals "NoFloor" = some (some (.ref C_NoFloor)))
    (eb_NoFloor : PySem.W.subIn G.K (.ref C_NoFloor) (.type "BaseException") = some true)
    (et_NoFloor : PySem.W.typeIn G.K (.ref C_NoFloor) = some (.type "type"))
    (eC_NoLift : PySem.W.nsIn G.K mainGlobals "NoLift" = some (some (.ref C_NoLift)))
    (eb_NoLift : PySem.W.subIn G.K (.ref C_NoLift) (.type "BaseException") = some true)
    (et_NoLift : PySem.W.typeIn G.K (.ref C_NoLift) = some (.type "type"))
    (eC_Twice : PySem.W.nsIn G.K mainGlobals "Twice" = some (some (.ref C_Twice)))
    (eb_Twice : PySem.W.subIn G.K (.ref C_Twice) (.type "BaseException") = some true)
    (et_Twice : PySem.W.typeIn G.K (.ref C_Twice) = some (.type "type"))
    (eh_CourtError : PySem.W.hasDictIn G.K C_CourtError = true)
    (es_CourtError_NoDeal : PySem.W.subIn G.K (.ref C_NoDeal) (.ref C_CourtError) = some true)
    (eq_NoDeal : PySem.W.excIn G.K C_NoDeal [.type "ValueError", .type "Exception", .type "BaseException", .type "object"] "ValueError.__new__" = true)
    (ek_NoDeal : PySem.W.keepIn G.K (.ref C_NoDeal) = true)
    (xg_NoFloor : PySem.W.findIn G.K (.ref C_NoFloor) "__getattribute__" = some (some (.builtin "BaseException.__getattribute__")))
    (xk_NoFloor : PySem.W.findIn G.K (.ref C_NoFloor) "__getattr__" = some none)
    (eh_NoFloor : PySem.W.hasDictIn G.K C_NoFloor = true)
    (nf_NoFloor_floor : PySem.W.findIn G.K (.ref C_NoFloor) "floor" = some none)
    (xg_NoLift : PySem.W.findIn G.K (.ref C_NoLift) "__getattribute__" = some (some (.builtin "BaseException.__getattribute__")))
    (xk_NoLift : PySem.W.findIn G.K (.ref C_NoLift) "__getattr__" = some none)
    (eh_NoLift : PySem.W.hasDictIn G.K C_NoLift = true)
    (nf_NoLift_lift : PySem.W.findIn G.K (.ref C_NoLift) "lift" = some none)
    (xg_Twice : PySem.W.findIn G.K (.ref C_Twice) "__getattribute__" = some (some (.builtin "BaseException.__getattribute__")))
    (xk_Twice : PySem.W.findIn G.K (.ref C_Twice) "__getattr__" = some none)
    (eh_Twice : PySem.W.hasDictIn G.K C_Twice = true)
    (nf_Twice_tag : PySem.W.findIn G.K (.ref C_Twice) "tag" = some none)
    (eC_NoHouse : PySem.W.nsIn G.K mainGlobals "NoHouse" = some (some (.ref C_NoHouse)))
    (et_NoHouse : PySem.W.typeIn G.K (.ref C_NoHouse) = some (.type "type"))
    (eh_NoHouse : PySem.W.hasDictIn G.K C_NoHouse = true)
    (es_NoHouse_NoHouse : PySem.W.subIn G.K (.ref C_NoHouse) (.ref C_NoHouse) = some true)
    (eC_NoRule : PySem.W.nsIn G.K mainGlobals "NoRule" = some (some (.ref C_NoRule)))
    (et_NoRule : PySem.W.typeIn G.K (.ref C_NoRule) = some (.type "type"))
    (eh_NoRule : PySem.W.hasDictIn G.K C_NoRule = true)
    (es_NoRule_NoRule : PySem.W.subIn G.K (.ref C_NoRule) (.ref C_NoRule) = some true)
    (eh_NoDeal : PySem.W.hasDictIn G.K C_NoDeal = true)
    (es_NoDeal_NoDeal : PySem.W.subIn G.K (.ref C_NoDeal) (.ref C_NoDeal) = some true)
    (eC_NoDeed : PySem.W.nsIn G.K mainGlobals "NoDeed" = some (some (.ref C_NoDeed)))
    (et_NoDeed : PySem.W.typeIn G.K (.ref C_NoDeed) = some (.type "type"))
    (eh_NoDeed : PySem.W.hasDictIn G.K C_NoDeed = true)
    (es_NoDeed_NoDeed : PySem.W.subIn G.K (.ref C_NoDeed) (.ref C_NoDeed) = some true)
    (eC_NoRide : PySem.W.nsIn G.K mainGlobals "NoRide" = some (some (.ref C_NoRide)))
    (et_NoRide : PySem.W.typeIn G.K (.ref C_NoRide) = some (.type "type"))
    (eh_NoRide : PySem.W.hasDictIn G.K C_NoRide = true)
    (es_NoRide_NoRide : PySem.W.subIn G.K (.ref C_NoRide) (.ref C_NoRide) = some true)
    (eC_NoIll : PySem.W.nsIn G.K mainGlobals "NoIll" = some (some (.ref C_NoIll)))
    (et_NoIll : PySem.W.typeIn G.K (.ref C_NoIll) = some (.type "type"))
    (eh_NoIll : PySem.W.hasDictIn G.K C_NoIll = true)
    (es_NoIll_NoIll : PySem.W.subIn G.K (.ref C_NoIll) (.ref C_NoIll) = some true)
    (eC_NoLine : PySem.W.nsIn G.K mainGlobals "NoLine" = some (some (.ref C_NoLine)))
    (et_NoLine : PySem.W.typeIn G.K (.ref C_NoLine) = some (.type "type"))
    (eh_NoLine : PySem.W.hasDictIn G.K C_NoLine = true)
    (es_NoLine_NoLine : PySem.W.subIn G.K (.ref C_NoLine) (.ref C_NoLine) = some true)
    (eC_Empty : PySem.W.nsIn G.K mainGlobals "Empty" = some (some (.ref C_Empty)))
    (et_Empty : PySem.W.typeIn G.K (.ref C_Empty) = some (.type "type"))
    (eh_Empty : PySem.W.hasDictIn G.K C_Empty = true)
    (es_Empty_Empty : PySem.W.subIn G.K (.ref C_Empty) (.ref C_Empty) = some true)
    (es_NoFloor_NoFloor : PySem.W.subIn G.K (.ref C_NoFloor) (.ref C_NoFloor) = some true)
    (es_NoLift_NoLift : PySem.W.subIn G.K (.ref C_NoLift) (.ref C_NoLift) = some true)
    (es_Twice_Twice : PySem.W.subIn G.K (.ref C_Twice) (.ref C_Twice) = some true)
    (eC_TooMany : PySem.W.nsIn G.K mainGlobals "TooMany" = some (some (.ref C_TooMany)))
    (et_TooMany : PySem.W.typeIn G.K (.ref C_TooMany) = some (.type "type"))
    (eh_TooMany : PySem.W.hasDictIn G.K C_TooMany = true)
    (es_TooMany_TooMany : PySem.W.subIn G.K (.ref C_TooMany) (.ref C_TooMany) = some true)
    (i_n : PySem.W.specialIn G.K (.builtin "object.__class__") "__get__" = some (some (.builtin "getset_descriptor.__get__")))
    (i_t : PySem.W.takesIn G.K (.builtin "object.__class__") = some true)
    (xg_NoDeal : PySem.W.findIn G.K (.ref C_NoDeal) "__getattribute__" = some (some (.builtin "BaseException.__getattribute__")))
    (xk_NoDeal : PySem.W.findIn G.K (.ref C_NoDeal) "__getattr__" = some none)
    (xa_NoDeal : PySem.W.findIn G.K (.ref C_NoDeal) "__class__" = some (some (.builtin "object.__class__")))
    (xm_NoDeal : PySem.W.mroIn G.K C_NoDeal (.type "object") = some true)
    (es_NoHouse_NoDeal : PySem.W.subIn G.K (.ref C_NoDeal) (.ref C_NoHouse) = some false)
    (es_NoRule_NoDeal : PySem.W.subIn G.K (.ref C_NoDeal) (.ref C_NoRule) = some false)
    (es_NoDeed_NoDeal : PySem.W.subIn G.K (.ref C_NoDeal) (.ref C_NoDeed) = some false)
    (es_NoRide_NoDeal : PySem.W.subIn G.K (.ref C_NoDeal) (.ref C_NoRide) = some false)
    (es_NoIll_NoDeal : PySem.W.subIn G.K (.ref C_NoDeal) (.ref C_NoIll) = some false)
    (es_NoLine_NoDeal : PySem.W.subIn G.K (.ref C_NoDeal) (.ref C_NoLine) = some false)
    (es_Empty_NoDeal : PySem.W.subIn G.K (.ref C_NoDeal) (.ref C_Empty) = some false)
    (es_NoFloor_NoDeal : PySem.W.subIn G.K (.ref C_NoDeal) (.ref C_NoFloor) = some false)
    (es_NoLift_NoDeal : PySem.W.subIn G.K (.ref C_NoDeal) (.ref C_NoLift) = some false)
    (es_Twice_NoDeal : PySem.W.subIn G.K (.ref C_NoDeal) (.ref C_Twice) = some false)
    (es_TooMany_NoDeal : PySem.W.subIn G.K (.ref C_NoDeal) (.ref C_TooMany) = some false)
    (ev_ValueError_NoDeal : PySem.W.subIn G.K (.ref C_NoDeal) (.type "ValueError") = some true)
    (a0 : PySem.W.nsIn G.K mainGlobals "_law_cell" = some (some (.ref f0)))
    (l0 : G.K.lookup f0 = some ⟨oc0, od0, .func (PySem.W.fnOf "_law_cell" "_law_cell" (defArgs s__law_cell) (defBody s__law_cell) (defScope s__law_cell) .none kV0 dc0 pm0 an0 cd0 ct0), sl0⟩)
    (c0 : PySem.W.codeIn G.K cd0 "_law_cell" = true)
    (k0 : PySem.W.keepIn G.K (.ref f0) = true)
    (a1 : PySem.W.nsIn G.K mainGlobals "_law_draw" = some (some (.ref f1)))
    (l1 : G.K.lookup f1 = some ⟨oc1, od1, .func (PySem.W.fnOf "_law_draw" "_law_draw" (defArgs s__law_draw) (defBody s__law_draw) (defScope s__law_draw) .none kV1 dc1 pm1 an1 cd1 ct1), sl1⟩)
    (c1 : PySem.W.codeIn G.K cd1 "_law_draw" = true)
    (k1 : PySem.W.keepIn G.K (.ref f1) = true)
    (a2 : PySem.W.nsIn G.K mainGlobals "_law_lift" = some (some (.ref f2)))
    (l2 : G.K.lookup f2 = some ⟨oc2, od2, .func (PySem.W.fnOf "_law_lift" "_law_lift" (defArgs s__law_lift) (defBody s__law_lift) (defScope s__law_lift) .none kV2 dc2 pm2 an2 cd2 ct2), sl2⟩)
    (c2 : PySem.W.codeIn G.K cd2 "_law_lift" = true)
    (k2 : PySem.W.keepIn G.K (.ref f2) = true)
    (a3 : PySem.W.nsIn G.K mainGlobals "_law_house" = some (some (.ref f3)))
    (l3 : G.K.lookup f3 = some ⟨oc3, od3, .func (PySem.W.fnOf "_law_house" "_law_house" (defArgs s__law_house) (defBody s__law_house) (defScope s__law_house) .none kV3 dc3 pm3 an3 cd3 ct3), sl3⟩)
    (c3 : PySem.W.codeIn G.K cd3 "_law_house" = true)
    (k3 : PySem.W.keepIn G.K (.ref f3) = true)
    (a4 : PySem.W.nsIn G.K mainGlobals "_law_bent" = some (some (.ref f4)))
    (l4 : G.K.lookup f4 = some ⟨oc4, od4, .func (PySem.W.fnOf "_law_bent" "_law_bent" (defArgs s__law_bent) (defBody s__law_bent) (defScope s__law_bent) .none kV4 dc4 pm4 an4 cd4 ct4), sl4⟩)
    (c4 : PySem.W.codeIn G.K cd4 "_law_bent" = true)
    (k4 : PySem.W.keepIn G.K (.ref f4) = true)
    (a5 : PySem.W.nsIn G.K mainGlobals "_law_great" = some (some (.ref f5)))
    (l5 : G.K.lookup f5 = some ⟨oc5, od5, .func (PySem.W.fnOf "_law_great" "_law_great" (defArgs s__law_great) (defBody s__law_great) (defScope s__law_great) .none kV5 dc5 pm5 an5 cd5 ct5), sl5⟩)
    (c5 : PySem.W.codeIn G.K cd5 "_law_great" = true)
    (k5 : PySem.W.keepIn G.K (.ref f5) = true)
    (a6 : PySem.W.nsIn G.K mainGlobals "_law_drawn_text" = some (some (.ref f6)))
    (l6 : G.K.lookup f6 = some ⟨oc6, od6, .func (PySem.W.fnOf "_law_drawn_text" "_law_drawn_text" (defArgs s__law_drawn_text) (defBody s__law_drawn_text) (defScope s__law_drawn_text) .none kV6 dc6 pm6 an6 cd6 ct6), sl6⟩)
    (c6 : PySem.W.codeIn G.K cd6 "_law_drawn_text" = true)
    (k6 : PySem.W.keepIn G.K (.ref f6) = true)
    (a7 : PySem.W.nsIn G.K mainGlobals "_law_read" = some (some (.ref f7)))
    (l7 : G.K.lookup f7 = some ⟨oc7, od7, .func (PySem.W.fnOf "_law_read" "_law_read" (defArgs s__law_read) (defBody s__law_read) (defScope s__law_read) .none kV7 dc7 pm7 an7 cd7 ct7), sl7⟩)
    (c7 : PySem.W.codeIn G.K cd7 "_law_read" = true)
    (k7 : PySem.W.keepIn G.K (.ref f7) = true)
    (a8 : PySem.W.nsIn G.K mainGlobals "near_dealer" = some (some (.ref f8)))
    (l8 : G.K.lookup f8 = some ⟨oc8, od8, .func (PySem.W.fnOf "near_dealer" "near_dealer" (defArgs s_near_dealer) (defBody s_near_dealer) (defScope s_near_dealer) .none kV8 dc8 pm8 an8 (.ref mc8) ct8), sl8⟩)
    (c8 : PySem.W.codeIn G.K (.ref mc8) "near_dealer" = true)
    (k8 : PySem.W.keepIn G.K (.ref f8) = true)
    (nlc_8 : G.K.lookup mc8 = some ⟨no8, nd8, .fields nv8, ns8⟩)
    (nlv_8 : nv8[11]? = some (.ref mP8))
    (nhc_8 : PySem.W.codeHdIn G.K mc8 mP8 = true)
    (ntm_8 : mP8 ∈ ts)
    (ntn_8 : G.K.lookup mP8 = none)
    (a9 : PySem.W.nsIn G.K mainGlobals "serving" = some (some (.ref f9)))
    (l9 : G.K.lookup f9 = some ⟨oc9, od9, .func (PySem.W.fnOf "serving" "serving" (defArgs s_serving) (defBody s_serving) (defScope s_serving) .none kV9 dc9 pm9 an9 cd9 ct9), sl9⟩)
    (c9 : PySem.W.codeIn G.K cd9 "serving" = true)
    (k9 : PySem.W.keepIn G.K (.ref f9) = true)
    (a10 : PySem.W.nsIn G.K mainGlobals "first_least" = some (some (.ref f10)))
    (l10 : G.K.lookup f10 = some ⟨oc10, od10, .func (PySem.W.fnOf "first_least" "first_least" (defArgs s_first_least) (defBody s_first_least) (defScope s_first_least) .none kV10 dc10 pm10 an10 cd10 ct10), sl10⟩)
    (c10 : PySem.W.codeIn G.K cd10 "first_least" = true)
    (k10 : PySem.W.keepIn G.K (.ref f10) = true)
    (a12 : PySem.W.nsIn G.K mainGlobals "least_dealer" = some (some (.ref f12)))
    (l12 : G.K.lookup f12 = some ⟨oc12, od12, .func (PySem.W.fnOf "least_dealer" "least_dealer" (defArgs s_least_dealer) (defBody s_least_dealer) (defScope s_least_dealer) .none kV12 dc12 pm12 an12 (.ref mc12) ct12), sl12⟩)
    (c12 : PySem.W.codeIn G.K (.ref mc12) "least_dealer" = true)
    (k12 : PySem.W.keepIn G.K (.ref f12) = true)
    (nlc_12 : G.K.lookup mc12 = some ⟨no12, nd12, .fields nv12, ns12⟩)
    (nlv_12 : nv12[11]? = some (.ref mP12))
    (nhc_12 : PySem.W.codeHdIn G.K mc12 mP12 = true)
    (ntm_12 : mP12 ∈ ts)
    (ntn_12 : G.K.lookup mP12 = none)
    (a14 : PySem.W.nsIn G.K mainGlobals "turns_dealer" = some (some (.ref f14)))
    (l14 : G.K.lookup f14 = some ⟨oc14, od14, .func (PySem.W.fnOf "turns_dealer" "turns_dealer" (defArgs s_turns_dealer) (defBody s_turns_dealer) (defScope s_turns_dealer) .none kV14 dc14 pm14 an14 (.ref mc14) ct14), sl14⟩)
    (c14 : PySem.W.codeIn G.K (.ref mc14) "turns_dealer" = true)
    (k14 : PySem.W.keepIn G.K (.ref f14) = true)
    (nlc_14 : G.K.lookup mc14 = some ⟨no14, nd14, .fields nv14, ns14⟩)
    (nlv_14 : nv14[11]? = some (.ref mP14))
    (nhc_14 : PySem.W.codeHdIn G.K mc14 mP14 = true)
    (ntm_14 : mP14 ∈ ts)
    (ntn_14 : G.K.lookup mP14 = none)
    (a15 : PySem.W.nsIn G.K mainGlobals "behind" = some (some (.ref f15)))
    (l15 : G.K.lookup f15 = some ⟨oc15, od15, .func (PySem.W.fnOf "behind" "behind" (defArgs s_behind) (defBody s_behind) (defScope s_behind) .none kV15 dc15 pm15 an15 cd15 ct15), sl15⟩)
    (c15 : PySem.W.codeIn G.K cd15 "behind" = true)
    (k15 : PySem.W.keepIn G.K (.ref f15) = true)
    (a17 : PySem.W.nsIn G.K mainGlobals "zone_dealer" = some (some (.ref f17)))
    (l17 : G.K.lookup f17 = some ⟨oc17, od17, .func (PySem.W.fnOf "zone_dealer" "zone_dealer" (defArgs s_zone_dealer) (defBody s_zone_dealer) (defScope s_zone_dealer) .none kV17 dc17 pm17 an17 (.ref mc17) ct17), sl17⟩)
    (c17 : PySem.W.codeIn G.K (.ref mc17) "zone_dealer" = true)
    (k17 : PySem.W.keepIn G.K (.ref f17) = true)
    (nlc_17 : G.K.lookup mc17 = some ⟨no17, nd17, .fields nv17, ns17⟩)
    (nlv_17 : nv17[11]? = some (.ref mP17))
    (nhc_17 : PySem.W.codeHdIn G.K mc17 mP17 = true)
    (ntm_17 : mP17 ∈ ts)
    (ntn_17 : G.K.lookup mP17 = none)
    (a18 : PySem.W.nsIn G.K mainGlobals "at_or_behind" = some (some (.ref f18)))
    (l18 : G.K.lookup f18 = some ⟨oc18, od18, .func (PySem.W.fnOf "at_or_behind" "at_or_behind" (defArgs s_at_or_behind) (defBody s_at_or_behind) (defScope s_at_or_behind) .none kV18 dc18 pm18 an18 cd18 ct18), sl18⟩)
    (c18 : PySem.W.codeIn G.K cd18 "at_or_behind" = true)
    (k18 : PySem.W.keepIn G.K (.ref f18) = true)
    (a20 : PySem.W.nsIn G.K mainGlobals "number_of" = some (some (.ref f20)))
    (l20 : G.K.lookup f20 = some ⟨oc20, od20, .func (PySem.W.fnOf "number_of" "number_of" (defArgs s_number_of) (defBody s_number_of) (defScope s_number_of) .none kV20 dc20 pm20 an20 cd20 ct20), sl20⟩)
    (c20 : PySem.W.codeIn G.K cd20 "number_of" = true)
    (k20 : PySem.W.keepIn G.K (.ref f20) = true)
    (a21 : PySem.W.nsIn G.K mainGlobals "lifts_of" = some (some (.ref f21)))
    (l21 : G.K.lookup f21 = some ⟨oc21, od21, .func (PySem.W.fnOf "lifts_of" "lifts_of" (defArgs s_lifts_of) (defBody s_lifts_of) (defScope s_lifts_of) .none kV21 dc21 pm21 an21 cd21 ct21), sl21⟩)
    (c21 : PySem.W.codeIn G.K cd21 "lifts_of" = true)
    (k21 : PySem.W.keepIn G.K (.ref f21) = true)
    (a22 : PySem.W.nsIn G.K mainGlobals "fixed_dealer" = some (some (.ref f22)))
    (l22 : G.K.lookup f22 = some ⟨oc22, od22, .func (PySem.W.fnOf "fixed_dealer" "fixed_dealer" (defArgs s_fixed_dealer) (defBody s_fixed_dealer) (defScope s_fixed_dealer) .none kV22 dc22 pm22 an22 (.ref mc22) ct22), sl22⟩)
    (c22 : PySem.W.codeIn G.K (.ref mc22) "fixed_dealer" = true)
    (k22 : PySem.W.keepIn G.K (.ref f22) = true)
    (nlc_22 : G.K.lookup mc22 = some ⟨no22, nd22, .fields nv22, ns22⟩)
    (nlv_22 : nv22[11]? = some (.ref mP22))
    (nhc_22 : PySem.W.codeHdIn G.K mc22 mP22 = true)
    (ntm_22 : mP22 ∈ ts)
    (ntn_22 : G.K.lookup mP22 = none)
    (a24 : PySem.W.nsIn G.K mainGlobals "dealer_of" = some (some (.ref f24)))
    (l24 : G.K.lookup f24 = some ⟨oc24, od24, .func (PySem.W.fnOf "dealer_of" "dealer_of" (defArgs s_dealer_of) (defBody s_dealer_of) (defScope s_dealer_of) .none kV24 dc24 pm24 an24 cd24 ct24), sl24⟩)
    (c24 : PySem.W.codeIn G.K cd24 "dealer_of" = true)
    (k24 : PySem.W.keepIn G.K (.ref f24) = true)
    (a25 : PySem.W.nsIn G.K mainGlobals "cabin_of" = some (some (.ref f25)))
    (l25 : G.K.lookup f25 = some ⟨oc25, od25, .func (PySem.W.fnOf "cabin_of" "cabin_of" (defArgs s_cabin_of) (defBody s_cabin_of) (defScope s_cabin_of) .none kV25 dc25 pm25 an25 cd25 ct25), sl25⟩)
    (c25 : PySem.W.codeIn G.K cd25 "cabin_of" = true)
    (k25 : PySem.W.keepIn G.K (.ref f25) = true)
    (a26 : PySem.W.nsIn G.K mainGlobals "_law_whole" = some (some (.ref f26)))
    (l26 : G.K.lookup f26 = some ⟨oc26, od26, .func (PySem.W.fnOf "_law_whole" "_law_whole" (defArgs s__law_whole) (defBody s__law_whole) (defScope s__law_whole) .none kV26 dc26 pm26 an26 cd26 ct26), sl26⟩)
    (c26 : PySem.W.codeIn G.K cd26 "_law_whole" = true)
    (k26 : PySem.W.keepIn G.K (.ref f26) = true)
    (a27 : PySem.W.nsIn G.K mainGlobals "_law_pair_is" = some (some (.ref f27)))
    (l27 : G.K.lookup f27 = some ⟨oc27, od27, .func (PySem.W.fnOf "_law_pair_is" "_law_pair_is" (defArgs s__law_pair_is) (defBody s__law_pair_is) (defScope s__law_pair_is) .none kV27 dc27 pm27 an27 cd27 ct27), sl27⟩)
    (c27 : PySem.W.codeIn G.K cd27 "_law_pair_is" = true)
    (k27 : PySem.W.keepIn G.K (.ref f27) = true)
    (a28 : PySem.W.nsIn G.K mainGlobals "_law_best" = some (some (.ref f28)))
    (l28 : G.K.lookup f28 = some ⟨oc28, od28, .func (PySem.W.fnOf "_law_best" "_law_best" (defArgs s__law_best) (defBody s__law_best) (defScope s__law_best) .none kV28 dc28 pm28 an28 cd28 ct28), sl28⟩)
    (c28 : PySem.W.codeIn G.K cd28 "_law_best" = true)
    (k28 : PySem.W.keepIn G.K (.ref f28) = true)
    (a29 : PySem.W.nsIn G.K mainGlobals "_law_near" = some (some (.ref f29)))
    (l29 : G.K.lookup f29 = some ⟨oc29, od29, .func (PySem.W.fnOf "_law_near" "_law_near" (defArgs s__law_near) (defBody s__law_near) (defScope s__law_near) .none kV29 dc29 pm29 an29 cd29 ct29), sl29⟩)
    (c29 : PySem.W.codeIn G.K cd29 "_law_near" = true)
    (k29 : PySem.W.keepIn G.K (.ref f29) = true)
    (a30 : PySem.W.nsIn G.K mainGlobals "_law_least" = some (some (.ref f30)))
    (l30 : G.K.lookup f30 = some ⟨oc30, od30, .func (PySem.W.fnOf "_law_least" "_law_least" (defArgs s__law_least) (defBody s__law_least) (defScope s__law_least) .none kV30 dc30 pm30 an30 cd30 ct30), sl30⟩)
    (c30 : PySem.W.codeIn G.K cd30 "_law_least" = true)
    (k30 : PySem.W.keepIn G.K (.ref f30) = true)
    (a31 : PySem.W.nsIn G.K mainGlobals "_law_behind" = some (some (.ref f31)))
    (l31 : G.K.lookup f31 = some ⟨oc31, od31, .func (PySem.W.fnOf "_law_behind" "_law_behind" (defArgs s__law_behind) (defBody s__law_behind) (defScope s__law_behind) .none kV31 dc31 pm31 an31 cd31 ct31), sl31⟩)
    (c31 : PySem.W.codeIn G.K cd31 "_law_behind" = true)
    (k31 : PySem.W.keepIn G.K (.ref f31) = true)
    (a32 : PySem.W.nsIn G.K mainGlobals "_law_at" = some (some (.ref f32)))
    (l32 : G.K.lookup f32 = some ⟨oc32, od32, .func (PySem.W.fnOf "_law_at" "_law_at" (defArgs s__law_at) (defBody s__law_at) (defScope s__law_at) .none kV32 dc32 pm32 an32 cd32 ct32), sl32⟩)
    (c32 : PySem.W.codeIn G.K cd32 "_law_at" = true)
    (k32 : PySem.W.keepIn G.K (.ref f32) = true)
    (a33 : PySem.W.nsIn G.K mainGlobals "_law_due" = some (some (.ref f33)))
    (l33 : G.K.lookup f33 = some ⟨oc33, od33, .func (PySem.W.fnOf "_law_due" "_law_due" (defArgs s__law_due) (defBody s__law_due) (defScope s__law_due) .none kV33 dc33 pm33 an33 cd33 ct33), sl33⟩)
    (c33 : PySem.W.codeIn G.K cd33 "_law_due" = true)
    (k33 : PySem.W.keepIn G.K (.ref f33) = true)
    (a34 : PySem.W.nsIn G.K mainGlobals "_law_deals" = some (some (.ref f34)))
    (l34 : G.K.lookup f34 = some ⟨oc34, od34, .func (PySem.W.fnOf "_law_deals" "_law_deals" (defArgs s__law_deals) (defBody s__law_deals) (defScope s__law_deals) .none kV34 dc34 pm34 an34 cd34 ct34), sl34⟩)
    (c34 : PySem.W.codeIn G.K cd34 "_law_deals" = true)
    (k34 : PySem.W.keepIn G.K (.ref f34) = true)
    (a35 : PySem.W.nsIn G.K mainGlobals "_law_name" = some (some (.ref f35)))
    (l35 : G.K.lookup f35 = some ⟨oc35, od35, .func (PySem.W.fnOf "_law_name" "_law_name" (defArgs s__law_name) (defBody s__law_name) (defScope s__law_name) .none kV35 dc35 pm35 an35 cd35 ct35), sl35⟩)
    (c35 : PySem.W.codeIn G.K cd35 "_law_name" = true)
    (k35 : PySem.W.keepIn G.K (.ref f35) = true)
    (a36 : PySem.W.nsIn G.K mainGlobals "_law_refused" = some (some (.ref f36)))
    (l36 : G.K.lookup f36 = some ⟨oc36, od36, .func (PySem.W.fnOf "_law_refused" "_law_refused" (defArgs s__law_refused) (defBody s__law_refused) (defScope s__law_refused) .none kV36 dc36 pm36 an36 cd36 ct36), sl36⟩)
    (c36 : PySem.W.codeIn G.K cd36 "_law_refused" = true)
    (k36 : PySem.W.keepIn G.K (.ref f36) = true)
    (a37 : PySem.W.nsIn G.K mainGlobals "law" = some (some (.ref f37)))
    (l37 : G.K.lookup f37 = some ⟨oc37, od37, .func (PySem.W.fnOf "law" "law" (defArgs s_law) (defBody s_law) (defScope s_law) .none kV37 dc37 pm37 an37 cd37 ct37), sl37⟩)
    (c37 : PySem.W.codeIn G.K cd37 "law" = true)
    (k37 : PySem.W.keepIn G.K (.ref f37) = true)
    (z_ValueError : PySem.W.nsIn G.K mainGlobals "ValueError" = some none)
    (z_abs : PySem.W.nsIn G.K mainGlobals "abs" = some none)
    (z_bool : PySem.W.nsIn G.K mainGlobals "bool" = some none)
    (z_int : PySem.W.nsIn G.K mainGlobals "int" = some none)
    (z_isinstance : PySem.W.nsIn G.K mainGlobals "isinstance" = some none)
    (z_len : PySem.W.nsIn G.K mainGlobals "len" = some none)
    (z_range : PySem.W.nsIn G.K mainGlobals "range" = some none)
    (z_str : PySem.W.nsIn G.K mainGlobals "str" = some none)
    (z_tuple : PySem.W.nsIn G.K mainGlobals "tuple" = some none)
    (c_FIGURES : PySem.W.nsIn G.K mainGlobals "FIGURES" = some (some (.str "0123456789" tk_FIGURES)))
    (c_MOST_FIGURES : PySem.W.nsIn G.K mainGlobals "MOST_FIGURES" = some (some (.int 9 tk_MOST_FIGURES)))
    (c_MOST_FIXED : PySem.W.nsIn G.K mainGlobals "MOST_FIXED" = some (some (.int 9 tk_MOST_FIXED)))
    (tnd : [mP8, mP12, mP14, mP17, mP22].Nodup)
    : Tx G mg base where
  ct_CourtError := ⟨C_CourtError, PySem.W.mg_of KX N eC_CourtError, (all_cons ⟨C_NoDeal, at_NoDeal, PySem.W.exm_ref eb_CourtError eh_CourtError et_CourtError es_CourtError_NoDeal⟩ all_nil), all_nil⟩
  xc_NoDeal := ⟨C_NoDeal, at_NoDeal, PySem.W.mg_of KX N eC_NoDeal, eq_NoDeal, ek_NoDeal, eb_NoDeal, et_NoDeal⟩
  eg := hEG
  xv_NoFloor := ⟨fl_NoFloor, C_NoFloor, at_NoFloor, xg_NoFloor, xk_NoFloor, eb_NoFloor, eh_NoFloor, nf_NoFloor_floor⟩
  xv_NoLift := ⟨fl_NoLift, C_NoLift, at_NoLift, xg_NoLift, xk_NoLift, eb_NoLift, eh_NoLift, nf_NoLift_lift⟩
  xv_Twice := ⟨fl_Twice, C_Twice, at_Twice, xg_Twice, xk_Twice, eb_Twice, eh_Twice, nf_Twice_tag⟩
  xf := ⟨(all_cons ⟨C_NoDeal, at_NoDeal, ⟨xg_NoDeal, xk_NoDeal, eb_NoDeal, eh_NoDeal, xa_NoDeal, i_n, i_t, xm_NoDeal⟩⟩ all_nil)⟩
  ie_NoHouse := ⟨C_NoHouse, PySem.W.mg_of KX N eC_NoHouse, (all_cons ⟨C_NoDeal, at_NoDeal, kit_own eh_NoHouse et_NoHouse es_NoHouse_NoHouse es_NoHouse_NoDeal⟩ all_nil)⟩
  ie_NoRule := ⟨C_NoRule, PySem.W.mg_of KX N eC_NoRule, (all_cons ⟨C_NoDeal, at_NoDeal, kit_own eh_NoRule et_NoRule es_NoRule_NoRule es_NoRule_NoDeal⟩ all_nil)⟩
  ie_NoDeal := ⟨C_NoDeal, PySem.W.mg_of KX N eC_NoDeal, (all_cons ⟨C_NoDeal, at_NoDeal, kit_own eh_NoDeal et_NoDeal es_NoDeal_NoDeal es_NoDeal_NoDeal⟩ all_nil)⟩
  ie_NoDeed := ⟨C_NoDeed, PySem.W.mg_of KX N eC_NoDeed, (all_cons ⟨C_NoDeal, at_NoDeal, kit_own eh_NoDeed et_NoDeed es_NoDeed_NoDeed es_NoDeed_NoDeal⟩ all_nil)⟩
  ie_NoRide := ⟨C_NoRide, PySem.W.mg_of KX N eC_NoRide, (all_cons ⟨C_NoDeal, at_NoDeal, kit_own eh_NoRide et_NoRide es_NoRide_NoRide es_NoRide_NoDeal⟩ all_nil)⟩
  ie_NoIll := ⟨C_NoIll, PySem.W.mg_of KX N eC_NoIll, (all_cons ⟨C_NoDeal, at_NoDeal, kit_own eh_NoIll et_NoIll es_NoIll_NoIll es_NoIll_NoDeal⟩ all_nil)⟩
  ie_NoLine := ⟨C_NoLine, PySem.W.mg_of KX N eC_NoLine, (all_cons ⟨C_NoDeal, at_NoDeal, kit_own eh_NoLine et_NoLine es_NoLine_NoLine es_NoLine_NoDeal⟩ all_nil)⟩
  ie_Empty := ⟨C_Empty, PySem.W.mg_of KX N eC_Empty, (all_cons ⟨C_NoDeal, at_NoDeal, kit_own eh_Empty et_Empty es_Empty_Empty es_Empty_NoDeal⟩ all_nil)⟩
  ie_NoFloor := ⟨C_NoFloor, PySem.W.mg_of KX N eC_NoFloor, (all_cons ⟨C_NoDeal, at_NoDeal, kit_own eh_NoFloor et_NoFloor es_NoFloor_NoFloor es_NoFloor_NoDeal⟩ all_nil)⟩
  ie_NoLift := ⟨C_NoLift, PySem.W.mg_of KX N eC_NoLift, (all_cons ⟨C_NoDeal, at_NoDeal, kit_own eh_NoLift et_NoLift es_NoLift_NoLift es_NoLift_NoDeal⟩ all_nil)⟩
  ie_Twice := ⟨C_Twice, PySem.W.mg_of KX N eC_Twice, (all_cons ⟨C_NoDeal, at_NoDeal, kit_own eh_Twice et_Twice es_Twice_Twice es_Twice_NoDeal⟩ all_nil)⟩
  ie_TooMany := ⟨C_TooMany, PySem.W.mg_of KX N eC_TooMany, (all_cons ⟨C_NoDeal, at_NoDeal, kit_own eh_TooMany et_TooMany es_TooMany_TooMany es_TooMany_NoDeal⟩ all_nil)⟩
  it_ValueError := ⟨(all_cons ⟨C_NoDeal, at_NoDeal, kit_blt (by decide +kernel) ev_ValueError_NoDeal⟩ all_nil)⟩
  d__law_cell := defok_mk KX N a0 l0 c0 k0 fun _ _ _ _ _ _ us hl => match us, hl with | [_, _], _ => rfl
  d__law_draw := defok_mk KX N a1 l1 c1 k1 fun _ _ _ _ _ _ us hl => match us, hl with | [_, _, _, _], _ => rfl
  d__law_lift := defok_mk KX N a2 l2 c2 k2 fun _ _ _ _ _ _ us hl => match us, hl with | [_, _, _], _ => rfl
  d__law_house := defok_mk KX N a3 l3 c3 k3 fun _ _ _ _ _ _ us hl => match us, hl with | [_, _], _ => rfl
  d__law_bent := defok_mk KX N a4 l4 c4 k4 fun _ _ _ _ _ _ us hl => match us, hl with | [_, _], _ => rfl
  d__law_great := defok_mk KX N a5 l5 c5 k5 fun _ _ _ _ _ _ us hl => match us, hl with | [_, _, _], _ => rfl
  d__law_drawn_text := defok_mk KX N a6 l6 c6 k6 fun _ _ _ _ _ _ us hl => match us, hl with | [_, _], _ => rfl
  d__law_read := defok_mk KX N a7 l7 c7 k7 fun _ _ _ _ _ _ us hl => match us, hl with | [_, _], _ => rfl
  mk_near_dealer := mkd_mk KX N a8 l8 c8 k8 (fun _ _ _ _ _ _ us hl => match us, hl with | [], _ => rfl) TB8 hm8 hu
  nf_near_dealer_deal := hf8
  d_serving := defok_mk KX N a9 l9 c9 k9 fun _ _ _ _ _ _ us hl => match us, hl with | [_], _ => rfl
  d_first_least := defok_mk KX N a10 l10 c10 k10 fun _ _ _ _ _ _ us hl => match us, hl with | [_, _], _ => rfl
  mk_least_dealer := mkd_mk KX N a12 l12 c12 k12 (fun _ _ _ _ _ _ us hl => match us, hl with | [], _ => rfl) TB12 hm12 hu
  nf_least_dealer_deal := hf12
  mk_turns_dealer := mkd_mk KX N a14 l14 c14 k14 (fun _ _ _ _ _ _ us hl => match us, hl with | [], _ => rfl) TB14 hm14 hu
  nf_turns_dealer_deal := hf14
  d_behind := defok_mk KX N a15 l15 c15 k15 fun _ _ _ _ _ _ us hl => match us, hl with | [_, _], _ => rfl
  mk_zone_dealer := mkd_mk KX N a17 l17 c17 k17 (fun _ _ _ _ _ _ us hl => match us, hl with | [_], _ => rfl) TB17 hm17 hu
  nf_zone_dealer_deal := hf17
  d_at_or_behind := defok_mk KX N a18 l18 c18 k18 fun _ _ _ _ _ _ us hl => match us, hl with | [_, _], _ => rfl
  d_number_of := defok_mk KX N a20 l20 c20 k20 fun _ _ _ _ _ _ us hl => match us, hl with | [_], _ => rfl
  d_lifts_of := defok_mk KX N a21 l21 c21 k21 fun _ _ _ _ _ _ us hl => match us, hl with | [_, _], _ => rfl
  mk_fixed_dealer := mkd_mk KX N a22 l22 c22 k22 (fun _ _ _ _ _ _ us hl => match us, hl with | [_], _ => rfl) TB22 hm22 hu
  nf_fixed_dealer_deal := hf22
  d_dealer_of := defok_mk KX N a24 l24 c24 k24 fun _ _ _ _ _ _ us hl => match us, hl with | [_, _], _ => rfl
  d_cabin_of := defok_mk KX N a25 l25 c25 k25 fun _ _ _ _ _ _ us hl => match us, hl with | [_], _ => rfl
  d__law_whole := defok_mk KX N a26 l26 c26 k26 fun _ _ _ _ _ _ us hl => match us, hl with | [_], _ => rfl
  d__law_pair_is := defok_mk KX N a27 l27 c27 k27 fun _ _ _ _ _ _ us hl => match us, hl with | [_, _], _ => rfl
  d__law_best := defok_mk KX N a28 l28 c28 k28 fun _ _ _ _ _ _ us hl => match us, hl with | [_, _], _ => rfl
  d__law_near := defok_mk KX N a29 l29 c29 k29 fun _ _ _ _ _ _ us hl => match us, hl with | [_, _], _ => rfl
  d__law_least := defok_mk KX N a30 l30 c30 k30 fun _ _ _ _ _ _ us hl => match us, hl with | [_, _], _ => rfl
  d__law_behind := defok_mk KX N a31 l31 c31 k31 fun _ _ _ _ _ _ us hl => match us, hl with | [_, _], _ => rfl
  d__law_at := defok_mk KX N a32 l32 c32 k32 fun _ _ _ _ _ _ us hl => match us, hl with | [_, _], _ => rfl
  d__law_due := defok_mk KX N a33 l33 c33 k33 fun _ _ _ _ _ _ us hl => match us, hl with | [_, _, _, _], _ => rfl
  d__law_deals := defok_mk KX N a34 l34 c34 k34 fun _ _ _ _ _ _ us hl => match us, hl with | [_, _, _, _], _ => rfl
  d__law_name := defok_mk KX N a35 l35 c35 k35 fun _ _ _ _ _ _ us hl => match us, hl with | [_], _ => rfl
  d__law_refused := defok_mk KX N a36 l36 c36 k36 fun _ _ _ _ _ _ us hl => match us, hl with | [_, _], _ => rfl
  d_law := defok_mk KX N a37 l37 c37 k37 fun _ _ _ _ _ _ us hl => match us, hl with | [_], _ => rfl
  z_ValueError := none_of KX N z_ValueError
  z_abs := none_of KX N z_abs
  z_bool := none_of KX N z_bool
  z_int := none_of KX N z_int
  z_isinstance := none_of KX N z_isinstance
  z_len := none_of KX N z_len
  z_range := none_of KX N z_range
  z_str := none_of KX N z_str
  z_tuple := none_of KX N z_tuple
  c_FIGURES := ⟨.str "0123456789", _, PySem.W.mg_of KX N c_FIGURES, ⟨_, rfl⟩, fun Hs => by rw [Rp]⟩
  c_MOST_FIGURES := ⟨.int 9, _, PySem.W.mg_of KX N c_MOST_FIGURES, ⟨_, rfl⟩, fun Hs => by rw [Rp]⟩
  c_MOST_FIXED := ⟨.int 9, _, PySem.W.mg_of KX N c_MOST_FIXED, ⟨_, rfl⟩, fun Hs => by rw [Rp]⟩
def flds : List (Nat × List Str) := [(10, ["floor"]), (11, ["lift"]), (12, ["tag"])]
theorem all_mk {l : PySem.W.OpenLaw} {w : World} {fa : Addr} {K : PySem.W.Frag} {h : Heap} {mg : Str → Option Value} {f0 f1 f2 f3 f4 f5 f6 f7 f8 f9 f10 f12 f14 f15 f17 f18 f20 f21 f22 f24 f25 f26 f27 f28 f29 f30 f31 f32 f33 f34 f35 f36 f37 C_CourtError C_NoDeal C_NoFloor C_NoLift C_Twice C_NoHouse C_NoRule C_NoDeed C_NoRide C_NoIll C_NoLine C_Empty C_TooMany mc8 mP8 mc12 mP12 mc14 mP14 mc17 mP17 mc22 mP22 : Addr} {od0 an0 od1 an1 od2 an2 od3 an3 od4 an4 od5 an5 od6 an6 od7 an7 od8 an8 od9 an9 od10 an10 od12 an12 od14 an14 od15 an15 od17 an17 od18 an18 od20 an20 od21 an21 od22 an22 od24 an24 od25 an25 od26 an26 od27 an27 od28 an28 od29 an29 od30 an30 od31 an31 od32 an32 od33 an33 od34 an34 od35 an35 od36 an36 od37 an37 : Option Addr} {sl0 sl1 sl2 sl3 sl4 sl5 sl6 sl7 sl8 sl9 sl10 sl12 sl14 sl15 sl17 sl18 sl20 sl21 sl22 sl24 sl25 sl26 sl27 sl28 sl29 sl30 sl31 sl32 sl33 sl34 sl35 sl36 sl37 : Array (Option Value)} {oc0 kV0 dc0 pm0 cd0 ct0 oc1 kV1 dc1 pm1 cd1 ct1 oc2 kV2 dc2 pm2 cd2 ct2 oc3 kV3 dc3 pm3 cd3 ct3 oc4 kV4 dc4 pm4 cd4 ct4 oc5 kV5 dc5 pm5 cd5 ct5 oc6 kV6 dc6 pm6 cd6 ct6 oc7 kV7 dc7 pm7 cd7 ct7 oc8 kV8 dc8 pm8 ct8 oc9 kV9 dc9 pm9 cd9 ct9 oc10 kV10 dc10 pm10 cd10 ct10 oc12 kV12 dc12 pm12 ct12 oc14 kV14 dc14 pm14 ct14 oc15 kV15 dc15 pm15 cd15 ct15 oc17 kV17 dc17 pm17 ct17 oc18 kV18 dc18 pm18 cd18 ct18 oc20 kV20 dc20 pm20 cd20 ct20 oc21 kV21 dc21 pm21 cd21 ct21 oc22 kV22 dc22 pm22 ct22 oc24 kV24 dc24 pm24 cd24 ct24 oc25 kV25 dc25 pm25 cd25 ct25 oc26 kV26 dc26 pm26 cd26 ct26 oc27 kV27 dc27 pm27 cd27 ct27 oc28 kV28 dc28 pm28 cd28 ct28 oc29 kV29 dc29 pm29 cd29 ct29 oc30 kV30 dc30 pm30 cd30 ct30 oc31 kV31 dc31 pm31 cd31 ct31 oc32 kV32 dc32 pm32 cd32 ct32 oc33 kV33 dc33 pm33 cd33 ct33 oc34 kV34 dc34 pm34 cd34 ct34 oc35 kV35 dc35 pm35 cd35 ct35 oc36 kV36 dc36 pm36 cd36 ct36 oc37 kV37 dc37 pm37 cd37 ct37 : Value} {tk_FIGURES tk_MOST_FIGURES tk_MOST_FIXED : Tok} {ts : List Addr} {no8 : Value} {nd8 : Option Addr} {nv8 : Array Value} {ns8 : Array (Option Value)} {no12 : Value} {nd12 : Option Addr} {nv12 : Array Value} {ns12 : Array (Option Value)} {no14 : Value} {nd14 : Option Addr} {nv14 : Array Value} {ns14 : Array (Option Value)} {no17 : Value} {nd17 : Option Addr} {nv17 : Array Value} {ns17 : Array (Option Value)} {no22 : Value} {nd22 : Option Addr} {nv22 : Array Value} {ns22 : Array (Option Value)} (KX : K.In h) (N : h.Ns mainGlobals mg) (hfa : mg "law" = some (.ref fa)) (TS : ∀ P ∈ ts, h.get? P = some (PySem.W.tabObj #[]))
    (eC_CourtError : PySem.W.nsIn K mainGlobals "CourtError" = some (some (.ref C_CourtError)))
    (eb_CourtError : PySem.W.subIn K (.ref C_CourtError) (.type "BaseException") = some true)
    (et_CourtError : PySem.W.typeIn K (.ref C_CourtError) = some (.type "type"))
    (eC_NoDeal : PySem.W.nsIn K mainGlobals "NoDeal" = some (some (.ref C_NoDeal)))
    (eb_NoDeal : PySem.W.subIn K (.ref C_NoDeal) (.type "BaseException") = some true)
    (et_NoDeal : PySem.W.typeIn K (.ref C_NoDeal) = some (.type "type"))
    (eC_NoFloor : PySem.W.nsIn K mainGlobals "NoFloor" = some (some (.ref C_NoFloor)))
    (eb_NoFloor : PySem.W.subIn K (.ref C_NoFloor) (.type "BaseException") = some true)
    (et_NoFloor : PySem.W.typeIn K (.ref C_NoFloor) = some (.type "type"))
    (eC_NoLift : PySem.W.nsIn K mainGlobals "NoLift" = some (some (.ref C_NoLift)))
    (eb_NoLift : PySem.W.subIn K (.ref C_NoLift) (.type "BaseException") = some true)
    (et_NoLift : PySem.W.typeIn K (.ref C_NoLift) = some (.type "type"))
    (eC_Twice : PySem.W.nsIn K mainGlobals "Twice" = some (some (.ref C_Twice)))
    (eb_Twice : PySem.W.subIn K (.ref C_Twice) (.type "BaseException") = some true)
    (et_Twice : PySem.W.typeIn K (.ref C_Twice) = some (.type "type"))
    (eh_CourtError : PySem.W.hasDictIn K C_CourtError = true)
    (es_CourtError_NoDeal : PySem.W.subIn K (.ref C_NoDeal) (.ref C_CourtError) = some true)
    (eq_NoDeal : PySem.W.excIn K C_NoDeal [.type "ValueError", .type "Exception", .type "BaseException", .type "object"] "ValueError.__new__" = true)
    (ek_NoDeal : PySem.W.keepIn K (.ref C_NoDeal) = true)
    (xg_NoFloor : PySem.W.findIn K (.ref C_NoFloor) "__getattribute__" = some (some (.builtin "BaseException.__getattribute__")))
    (xk_NoFloor : PySem.W.findIn K (.ref C_NoFloor) "__getattr__" = some none)
    (eh_NoFloor : PySem.W.hasDictIn K C_NoFloor = true)
    (nf_NoFloor_floor : PySem.W.findIn K (.ref C_NoFloor) "floor" = some none)
    (xg_NoLift : PySem.W.findIn K (.ref C_NoLift) "__getattribute__" = some (some (.builtin "BaseException.__getattribute__")))
    (xk_NoLift : PySem.W.findIn K (.ref C_NoLift) "__getattr__" = some none)
    (eh_NoLift : PySem.W.hasDictIn K C_NoLift = true)
    (nf_NoLift_lift : PySem.W.findIn K (.ref C_NoLift) "lift" = some none)
    (xg_Twice : PySem.W.findIn K (.ref C_Twice) "__getattribute__" = some (some (.builtin "BaseException.__getattribute__")))
    (xk_Twice : PySem.W.findIn K (.ref C_Twice) "__getattr__" = some none)
    (eh_Twice : PySem.W.hasDictIn K C_Twice = true)
    (nf_Twice_tag : PySem.W.findIn K (.ref C_Twice) "tag" = some none)
    (eC_NoHouse : PySem.W.nsIn K mainGlobals "NoHouse" = some (some (.ref C_NoHouse)))
    (et_NoHouse : PySem.W.typeIn K (.ref C_NoHouse) = some (.type "type"))
    (eh_NoHouse : PySem.W.hasDictIn K C_NoHouse = true)
    (es_NoHouse_NoHouse : PySem.W.subIn K (.ref C_NoHouse) (.ref C_NoHouse) = some true)
    (eC_NoRule : PySem.W.nsIn K mainGlobals "NoRule" = some (some (.ref C_NoRule)))
    (et_NoRule : PySem.W.typeIn K (.ref C_NoRule) = some (.type "type"))
    (eh_NoRule : PySem.W.hasDictIn K C_NoRule = true)
    (es_NoRule_NoRule : PySem.W.subIn K (.ref C_NoRule) (.ref C_NoRule) = some true)
    (eh_NoDeal : PySem.W.hasDictIn K C_NoDeal = true)
    (es_NoDeal_NoDeal : PySem.W.subIn K (.ref C_NoDeal) (.ref C_NoDeal) = some true)
    (eC_NoDeed : PySem.W.nsIn K mainGlobals "NoDeed" = some (some (.ref C_NoDeed)))
    (et_NoDeed : PySem.W.typeIn K (.ref C_NoDeed) = some (.type "type"))
    (eh_NoDeed : PySem.W.hasDictIn K C_NoDeed = true)
    (es_NoDeed_NoDeed : PySem.W.subIn K (.ref C_NoDeed) (.ref C_NoDeed) = some true)
    (eC_NoRide : PySem.W.nsIn K mainGlobals "NoRide" = some (some (.ref C_NoRide)))
    (et_NoRide : PySem.W.typeIn K (.ref C_NoRide) = some (.type "type"))
    (eh_NoRide : PySem.W.hasDictIn K C_NoRide = true)
    (es_NoRide_NoRide : PySem.W.subIn K (.ref C_NoRide) (.ref C_NoRide) = some true)
    (eC_NoIll : PySem.W.nsIn K mainGlobals "NoIll" = some (some (.ref C_NoIll)))
    (et_NoIll : PySem.W.typeIn K (.ref C_NoIll) = some (.type "type"))
    (eh_NoIll : PySem.W.hasDictIn K C_NoIll = true)
    (es_NoIll_NoIll : PySem.W.subIn K (.ref C_NoIll) (.ref C_NoIll) = some true)
    (eC_NoLine : PySem.W.nsIn K mainGlobals "NoLine" = some (some (.ref C_NoLine)))
    (et_NoLine : PySem.W.typeIn K (.ref C_NoLine) = some (.type "type"))
    (eh_NoLine : PySem.W.hasDictIn K C_NoLine = true)
    (es_NoLine_NoLine : PySem.W.subIn K (.ref C_NoLine) (.ref C_NoLine) = some true)
    (eC_Empty : PySem.W.nsIn K mainGlobals "Empty" = some (some (.ref C_Empty)))
    (et_Empty : PySem.W.typeIn K (.ref C_Empty) = some (.type "type"))
    (eh_Empty : PySem.W.hasDictIn K C_Empty = true)
    (es_Empty_Empty : PySem.W.subIn K (.ref C_Empty) (.ref C_Empty) = some true)
    (es_NoFloor_NoFloor : PySem.W.subIn K (.ref C_NoFloor) (.ref C_NoFloor) = some true)
    (es_NoLift_NoLift : PySem.W.subIn K (.ref C_NoLift) (.ref C_NoLift) = some true)
    (es_Twice_Twice : PySem.W.subIn K (.ref C_Twice) (.ref C_Twice) = some true)
    (eC_TooMany : PySem.W.nsIn K mainGlobals "TooMany" = some (some (.ref C_TooMany)))
    (et_TooMany : PySem.W.typeIn K (.ref C_TooMany) = some (.type "type"))
    (eh_TooMany : PySem.W.hasDictIn K C_TooMany = true)
    (es_TooMany_TooMany : PySem.W.subIn K (.ref C_TooMany) (.ref C_TooMany) = some true)
    (i_n : PySem.W.specialIn K (.builtin "object.__class__") "__get__" = some (some (.builtin "getset_descriptor.__get__")))
    (i_t : PySem.W.takesIn K (.builtin "object.__class__") = some true)
    (xg_NoDeal : PySem.W.findIn K (.ref C_NoDeal) "__getattribute__" = some (some (.builtin "BaseException.__getattribute__")))
    (xk_NoDeal : PySem.W.findIn K (.ref C_NoDeal) "__getattr__" = some none)
    (xa_NoDeal : PySem.W.findIn K (.ref C_NoDeal) "__class__" = some (some (.builtin "object.__class__")))
    (xm_NoDeal : PySem.W.mroIn K C_NoDeal (.type "object") = some true)
    (es_NoHouse_NoDeal : PySem.W.subIn K (.ref C_NoDeal) (.ref C_NoHouse) = some false)
    (es_NoRule_NoDeal : PySem.W.subIn K (.ref C_NoDeal) (.ref C_NoRule) = some false)
    (es_NoDeed_NoDeal : PySem.W.subIn K (.ref C_NoDeal) (.ref C_NoDeed) = some false)
    (es_NoRide_NoDeal : PySem.W.subIn K (.ref C_NoDeal) (.ref C_NoRide) = some false)
    (es_NoIll_NoDeal : PySem.W.subIn K (.ref C_NoDeal) (.ref C_NoIll) = some false)
    (es_NoLine_NoDeal : PySem.W.subIn K (.ref C_NoDeal) (.ref C_NoLine) = some false)
    (es_Empty_NoDeal : PySem.W.subIn K (.ref C_NoDeal) (.ref C_Empty) = some false)
    (es_NoFloor_NoDeal : PySem.W.subIn K (.ref C_NoDeal) (.ref C_NoFloor) = some false)
    (es_NoLift_NoDeal : PySem.W.subIn K (.ref C_NoDeal) (.ref C_NoLift) = some false)
    (es_Twice_NoDeal : PySem.W.subIn K (.ref C_NoDeal) (.ref C_Twice) = some false)
    (es_TooMany_NoDeal : PySem.W.subIn K (.ref C_NoDeal) (.ref C_TooMany) = some false)
    (ev_ValueError_NoDeal : PySem.W.subIn K (.ref C_NoDeal) (.type "ValueError") = some true)
    (a0 : PySem.W.nsIn K mainGlobals "_law_cell" = some (some (.ref f0)))
    (l0 : K.lookup f0 = some ⟨oc0, od0, .func (PySem.W.fnOf "_law_cell" "_law_cell" (defArgs s__law_cell) (defBody s__law_cell) (defScope s__law_cell) .none kV0 dc0 pm0 an0 cd0 ct0), sl0⟩)
    (c0 : PySem.W.codeIn K cd0 "_law_cell" = true)
    (k0 : PySem.W.keepIn K (.ref f0) = true)
    (a1 : PySem.W.nsIn K mainGlobals "_law_draw" = some (some (.ref f1)))
    (l1 : K.lookup f1 = some ⟨oc1, od1, .func (PySem.W.fnOf "_law_draw" "_law_draw" (defArgs s__law_draw) (defBody s__law_draw) (defScope s__law_draw) .none kV1 dc1 pm1 an1 cd1 ct1), sl1⟩)
    (c1 : PySem.W.codeIn K cd1 "_law_draw" = true)
    (k1 : PySem.W.keepIn K (.ref f1) = true)
    (a2 : PySem.W.nsIn K mainGlobals "_law_lift" = some (some (.ref f2)))
    (l2 : K.lookup f2 = some ⟨oc2, od2, .func (PySem.W.fnOf "_law_lift" "_law_lift" (defArgs s__law_lift) (defBody s__law_lift) (defScope s__law_lift) .none kV2 dc2 pm2 an2 cd2 ct2), sl2⟩)
    (c2 : PySem.W.codeIn K cd2 "_law_lift" = true)
    (k2 : PySem.W.keepIn K (.ref f2) = true)
    (a3 : PySem.W.nsIn K mainGlobals "_law_house" = some (some (.ref f3)))
    (l3 : K.lookup f3 = some ⟨oc3, od3, .func (PySem.W.fnOf "_law_house" "_law_house" (defArgs s__law_house) (defBody s__law_house) (defScope s__law_house) .none kV3 dc3 pm3 an3 cd3 ct3), sl3⟩)
    (c3 : PySem.W.codeIn K cd3 "_law_house" = true)
    (k3 : PySem.W.keepIn K (.ref f3) = true)
    (a4 : PySem.W.nsIn K mainGlobals "_law_bent" = some (some (.ref f4)))
    (l4 : K.lookup f4 = some ⟨oc4, od4, .func (PySem.W.fnOf "_law_bent" "_law_bent" (defArgs s__law_bent) (defBody s__law_bent) (defScope s__law_bent) .none kV4 dc4 pm4 an4 cd4 ct4), sl4⟩)
    (c4 : PySem.W.codeIn K cd4 "_law_bent" = true)
    (k4 : PySem.W.keepIn K (.ref f4) = true)
    (a5 : PySem.W.nsIn K mainGlobals "_law_great" = some (some (.ref f5)))
    (l5 : K.lookup f5 = some ⟨oc5, od5, .func (PySem.W.fnOf "_law_great" "_law_great" (defArgs s__law_great) (defBody s__law_great) (defScope s__law_great) .none kV5 dc5 pm5 an5 cd5 ct5), sl5⟩)
    (c5 : PySem.W.codeIn K cd5 "_law_great" = true)
    (k5 : PySem.W.keepIn K (.ref f5) = true)
    (a6 : PySem.W.nsIn K mainGlobals "_law_drawn_text" = some (some (.ref f6)))
    (l6 : K.lookup f6 = some ⟨oc6, od6, .func (PySem.W.fnOf "_law_drawn_text" "_law_drawn_text" (defArgs s__law_drawn_text) (defBody s__law_drawn_text) (defScope s__law_drawn_text) .none kV6 dc6 pm6 an6 cd6 ct6), sl6⟩)
    (c6 : PySem.W.codeIn K cd6 "_law_drawn_text" = true)
    (k6 : PySem.W.keepIn K (.ref f6) = true)
    (a7 : PySem.W.nsIn K mainGlobals "_law_read" = some (some (.ref f7)))
    (l7 : K.lookup f7 = some ⟨oc7, od7, .func (PySem.W.fnOf "_law_read" "_law_read" (defArgs s__law_read) (defBody s__law_read) (defScope s__law_read) .none kV7 dc7 pm7 an7 cd7 ct7), sl7⟩)
    (c7 : PySem.W.codeIn K cd7 "_law_read" = true)
    (k7 : PySem.W.keepIn K (.ref f7) = true)
    (a8 : PySem.W.nsIn K mainGlobals "near_dealer" = some (some (.ref f8)))
    (l8 : K.lookup f8 = some ⟨oc8, od8, .func (PySem.W.fnOf "near_dealer" "near_dealer" (defArgs s_near_dealer) (defBody s_near_dealer) (defScope s_near_dealer) .none kV8 dc8 pm8 an8 (.ref mc8) ct8), sl8⟩)
    (c8 : PySem.W.codeIn K (.ref mc8) "near_dealer" = true)
    (k8 : PySem.W.keepIn K (.ref f8) = true)
    (nlc_8 : K.lookup mc8 = some ⟨no8, nd8, .fields nv8, ns8⟩)
    (nlv_8 : nv8[11]? = some (.ref mP8))
    (nhc_8 : PySem.W.codeHdIn K mc8 mP8 = true)
    (ntm_8 : mP8 ∈ ts)
    (ntn_8 : K.lookup mP8 = none)
    (a9 : PySem.W.nsIn K mainGlobals "serving" = some (some (.ref f9)))
    (l9 : K.lookup f9 = some ⟨oc9, od9, .func (PySem.W.fnOf "serving" "serving" (defArgs s_serving) (defBody s_serving) (defScope s_serving) .none kV9 dc9 pm9 an9 cd9 ct9), sl9⟩)
    (c9 : PySem.W.codeIn K cd9 "serving" = true)
    (k9 : PySem.W.keepIn K (.ref f9) = true)
    (a10 : PySem.W.nsIn K mainGlobals "first_least" = some (some (.ref f10)))
    (l10 : K.lookup f10 = some ⟨oc10, od10, .func (PySem.W.fnOf "first_least" "first_least" (defArgs s_first_least) (defBody s_first_least) (defScope s_first_least) .none kV10 dc10 pm10 an10 cd10 ct10), sl10⟩)
    (c10 : PySem.W.codeIn K cd10 "first_least" = true)
    (k10 : PySem.W.keepIn K (.ref f10) = true)
    (a12 : PySem.W.nsIn K mainGlobals "least_dealer" = some (some (.ref f12)))
    (l12 : K.lookup f12 = some ⟨oc12, od12, .func (PySem.W.fnOf "least_dealer" "least_dealer" (defArgs s_least_dealer) (defBody s_least_dealer) (defScope s_least_dealer) .none kV12 dc12 pm12 an12 (.ref mc12) ct12), sl12⟩)
    (c12 : PySem.W.codeIn K (.ref mc12) "least_dealer" = true)
    (k12 : PySem.W.keepIn K (.ref f12) = true)
    (nlc_12 : K.lookup mc12 = some ⟨no12, nd12, .fields nv12, ns12⟩)
    (nlv_12 : nv12[11]? = some (.ref mP12))
    (nhc_12 : PySem.W.codeHdIn K mc12 mP12 = true)
    (ntm_12 : mP12 ∈ ts)
    (ntn_12 : K.lookup mP12 = none)
    (a14 : PySem.W.nsIn K mainGlobals "turns_dealer" = some (some (.ref f14)))
    (l14 : K.lookup f14 = some ⟨oc14, od14, .func (PySem.W.fnOf "turns_dealer" "turns_dealer" (defArgs s_turns_dealer) (defBody s_turns_dealer) (defScope s_turns_dealer) .none kV14 dc14 pm14 an14 (.ref mc14) ct14), sl14⟩)
    (c14 : PySem.W.codeIn K (.ref mc14) "turns_dealer" = true)
    (k14 : PySem.W.keepIn K (.ref f14) = true)
    (nlc_14 : K.lookup mc14 = some ⟨no14, nd14, .fields nv14, ns14⟩)
    (nlv_14 : nv14[11]? = some (.ref mP14))
    (nhc_14 : PySem.W.codeHdIn K mc14 mP14 = true)
    (ntm_14 : mP14 ∈ ts)
    (ntn_14 : K.lookup mP14 = none)
    (a15 : PySem.W.nsIn K mainGlobals "behind" = some (some (.ref f15)))
    (l15 : K.lookup f15 = some ⟨oc15, od15, .func (PySem.W.fnOf "behind" "behind" (defArgs s_behind) (defBody s_behind) (defScope s_behind) .none kV15 dc15 pm15 an15 cd15 ct15), sl15⟩)
    (c15 : PySem.W.codeIn K cd15 "behind" = true)
    (k15 : PySem.W.keepIn K (.ref f15) = true)
    (a17 : PySem.W.nsIn K mainGlobals "zone_dealer" = some (some (.ref f17)))
    (l17 : K.lookup f17 = some ⟨oc17, od17, .func (PySem.W.fnOf "zone_dealer" "zone_dealer" (defArgs s_zone_dealer) (defBody s_zone_dealer) (defScope s_zone_dealer) .none kV17 dc17 pm17 an17 (.ref mc17) ct17), sl17⟩)
    (c17 : PySem.W.codeIn K (.ref mc17) "zone_dealer" = true)
    (k17 : PySem.W.keepIn K (.ref f17) = true)
    (nlc_17 : K.lookup mc17 = some ⟨no17, nd17, .fields nv17, ns17⟩)
    (nlv_17 : nv17[11]? = some (.ref mP17))
    (nhc_17 : PySem.W.codeHdIn K mc17 mP17 = true)
    (ntm_17 : mP17 ∈ ts)
    (ntn_17 : K.lookup mP17 = none)
    (a18 : PySem.W.nsIn K mainGlobals "at_or_behind" = some (some (.ref f18)))
    (l18 : K.lookup f18 = some ⟨oc18, od18, .func (PySem.W.fnOf "at_or_behind" "at_or_behind" (defArgs s_at_or_behind) (defBody s_at_or_behind) (defScope s_at_or_behind) .none kV18 dc18 pm18 an18 cd18 ct18), sl18⟩)
    (c18 : PySem.W.codeIn K cd18 "at_or_behind" = true)
    (k18 : PySem.W.keepIn K (.ref f18) = true)
    (a20 : PySem.W.nsIn K mainGlobals "number_of" = some (some (.ref f20)))
    (l20 : K.lookup f20 = some ⟨oc20, od20, .func (PySem.W.fnOf "number_of" "number_of" (defArgs s_number_of) (defBody s_number_of) (defScope s_number_of) .none kV20 dc20 pm20 an20 cd20 ct20), sl20⟩)
    (c20 : PySem.W.codeIn K cd20 "number_of" = true)
    (k20 : PySem.W.keepIn K (.ref f20) = true)
    (a21 : PySem.W.nsIn K mainGlobals "lifts_of" = some (some (.ref f21)))
    (l21 : K.lookup f21 = some ⟨oc21, od21, .func (PySem.W.fnOf "lifts_of" "lifts_of" (defArgs s_lifts_of) (defBody s_lifts_of) (defScope s_lifts_of) .none kV21 dc21 pm21 an21 cd21 ct21), sl21⟩)
    (c21 : PySem.W.codeIn K cd21 "lifts_of" = true)
    (k21 : PySem.W.keepIn K (.ref f21) = true)
    (a22 : PySem.W.nsIn K mainGlobals "fixed_dealer" = some (some (.ref f22)))
    (l22 : K.lookup f22 = some ⟨oc22, od22, .func (PySem.W.fnOf "fixed_dealer" "fixed_dealer" (defArgs s_fixed_dealer) (defBody s_fixed_dealer) (defScope s_fixed_dealer) .none kV22 dc22 pm22 an22 (.ref mc22) ct22), sl22⟩)
    (c22 : PySem.W.codeIn K (.ref mc22) "fixed_dealer" = true)
    (k22 : PySem.W.keepIn K (.ref f22) = true)
    (nlc_22 : K.lookup mc22 = some ⟨no22, nd22, .fields nv22, ns22⟩)
    (nlv_22 : nv22[11]? = some (.ref mP22))
    (nhc_22 : PySem.W.codeHdIn K mc22 mP22 = true)
    (ntm_22 : mP22 ∈ ts)
    (ntn_22 : K.lookup mP22 = none)
    (a24 : PySem.W.nsIn K mainGlobals "dealer_of" = some (some (.ref f24)))
    (l24 : K.lookup f24 = some ⟨oc24, od24, .func (PySem.W.fnOf "dealer_of" "dealer_of" (defArgs s_dealer_of) (defBody s_dealer_of) (defScope s_dealer_of) .none kV24 dc24 pm24 an24 cd24 ct24), sl24⟩)
    (c24 : PySem.W.codeIn K cd24 "dealer_of" = true)
    (k24 : PySem.W.keepIn K (.ref f24) = true)
    (a25 : PySem.W.nsIn K mainGlobals "cabin_of" = some (some (.ref f25)))
    (l25 : K.lookup f25 = some ⟨oc25, od25, .func (PySem.W.fnOf "cabin_of" "cabin_of" (defArgs s_cabin_of) (defBody s_cabin_of) (defScope s_cabin_of) .none kV25 dc25 pm25 an25 cd25 ct25), sl25⟩)
    (c25 : PySem.W.codeIn K cd25 "cabin_of" = true)
    (k25 : PySem.W.keepIn K (.ref f25) = true)
    (a26 : PySem.W.nsIn K mainGlobals "_law_whole" = some (some (.ref f26)))
    (l26 : K.lookup f26 = some ⟨oc26, od26, .func (PySem.W.fnOf "_law_whole" "_law_whole" (defArgs s__law_whole) (defBody s__law_whole) (defScope s__law_whole) .none kV26 dc26 pm26 an26 cd26 ct26), sl26⟩)
    (c26 : PySem.W.codeIn K cd26 "_law_whole" = true)
    (k26 : PySem.W.keepIn K (.ref f26) = true)
    (a27 : PySem.W.nsIn K mainGlobals "_law_pair_is" = some (some (.ref f27)))
    (l27 : K.lookup f27 = some ⟨oc27, od27, .func (PySem.W.fnOf "_law_pair_is" "_law_pair_is" (defArgs s__law_pair_is) (defBody s__law_pair_is) (defScope s__law_pair_is) .none kV27 dc27 pm27 an27 cd27 ct27), sl27⟩)
    (c27 : PySem.W.codeIn K cd27 "_law_pair_is" = true)
    (k27 : PySem.W.keepIn K (.ref f27) = true)
    (a28 : PySem.W.nsIn K mainGlobals "_law_best" = some (some (.ref f28)))
    (l28 : K.lookup f28 = some ⟨oc28, od28, .func (PySem.W.fnOf "_law_best" "_law_best" (defArgs s__law_best) (defBody s__law_best) (defScope s__law_best) .none kV28 dc28 pm28 an28 cd28 ct28), sl28⟩)
    (c28 : PySem.W.codeIn K cd28 "_law_best" = true)
    (k28 : PySem.W.keepIn K (.ref f28) = true)
    (a29 : PySem.W.nsIn K mainGlobals "_law_near" = some (some (.ref f29)))
    (l29 : K.lookup f29 = some ⟨oc29, od29, .func (PySem.W.fnOf "_law_near" "_law_near" (defArgs s__law_near) (defBody s__law_near) (defScope s__law_near) .none kV29 dc29 pm29 an29 cd29 ct29), sl29⟩)
    (c29 : PySem.W.codeIn K cd29 "_law_near" = true)
    (k29 : PySem.W.keepIn K (.ref f29) = true)
    (a30 : PySem.W.nsIn K mainGlobals "_law_least" = some (some (.ref f30)))
    (l30 : K.lookup f30 = some ⟨oc30, od30, .func (PySem.W.fnOf "_law_least" "_law_least" (defArgs s__law_least) (defBody s__law_least) (defScope s__law_least) .none kV30 dc30 pm30 an30 cd30 ct30), sl30⟩)
    (c30 : PySem.W.codeIn K cd30 "_law_least" = true)
    (k30 : PySem.W.keepIn K (.ref f30) = true)
    (a31 : PySem.W.nsIn K mainGlobals "_law_behind" = some (some (.ref f31)))
    (l31 : K.lookup f31 = some ⟨oc31, od31, .func (PySem.W.fnOf "_law_behind" "_law_behind" (defArgs s__law_behind) (defBody s__law_behind) (defScope s__law_behind) .none kV31 dc31 pm31 an31 cd31 ct31), sl31⟩)
    (c31 : PySem.W.codeIn K cd31 "_law_behind" = true)
    (k31 : PySem.W.keepIn K (.ref f31) = true)
    (a32 : PySem.W.nsIn K mainGlobals "_law_at" = some (some (.ref f32)))
    (l32 : K.lookup f32 = some ⟨oc32, od32, .func (PySem.W.fnOf "_law_at" "_law_at" (defArgs s__law_at) (defBody s__law_at) (defScope s__law_at) .none kV32 dc32 pm32 an32 cd32 ct32), sl32⟩)
    (c32 : PySem.W.codeIn K cd32 "_law_at" = true)
    (k32 : PySem.W.keepIn K (.ref f32) = true)
    (a33 : PySem.W.nsIn K mainGlobals "_law_due" = some (some (.ref f33)))
    (l33 : K.lookup f33 = some ⟨oc33, od33, .func (PySem.W.fnOf "_law_due" "_law_due" (defArgs s__law_due) (defBody s__law_due) (defScope s__law_due) .none kV33 dc33 pm33 an33 cd33 ct33), sl33⟩)
    (c33 : PySem.W.codeIn K cd33 "_law_due" = true)
    (k33 : PySem.W.keepIn K (.ref f33) = true)
    (a34 : PySem.W.nsIn K mainGlobals "_law_deals" = some (some (.ref f34)))
    (l34 : K.lookup f34 = some ⟨oc34, od34, .func (PySem.W.fnOf "_law_deals" "_law_deals" (defArgs s__law_deals) (defBody s__law_deals) (defScope s__law_deals) .none kV34 dc34 pm34 an34 cd34 ct34), sl34⟩)
    (c34 : PySem.W.codeIn K cd34 "_law_deals" = true)
    (k34 : PySem.W.keepIn K (.ref f34) = true)
    (a35 : PySem.W.nsIn K mainGlobals "_law_name" = some (some (.ref f35)))
    (l35 : K.lookup f35 = some ⟨oc35, od35, .func (PySem.W.fnOf "_law_name" "_law_name" (defArgs s__law_name) (defBody s__law_name) (defScope s__law_name) .none kV35 dc35 pm35 an35 cd35 ct35), sl35⟩)
    (c35 : PySem.W.codeIn K cd35 "_law_name" = true)
    (k35 : PySem.W.keepIn K (.ref f35) = true)
    (a36 : PySem.W.nsIn K mainGlobals "_law_refused" = some (some (.ref f36)))
    (l36 : K.lookup f36 = some ⟨oc36, od36, .func (PySem.W.fnOf "_law_refused" "_law_refused" (defArgs s__law_refused) (defBody s__law_refused) (defScope s__law_refused) .none kV36 dc36 pm36 an36 cd36 ct36), sl36⟩)
    (c36 : PySem.W.codeIn K cd36 "_law_refused" = true)
    (k36 : PySem.W.keepIn K (.ref f36) = true)
    (a37 : PySem.W.nsIn K mainGlobals "law" = some (some (.ref f37)))
    (l37 : K.lookup f37 = some ⟨oc37, od37, .func (PySem.W.fnOf "law" "law" (defArgs s_law) (defBody s_law) (defScope s_law) .none kV37 dc37 pm37 an37 cd37 ct37), sl37⟩)
    (c37 : PySem.W.codeIn K cd37 "law" = true)
    (k37 : PySem.W.keepIn K (.ref f37) = true)
    (z_ValueError : PySem.W.nsIn K mainGlobals "ValueError" = some none)
    (z_abs : PySem.W.nsIn K mainGlobals "abs" = some none)
    (z_bool : PySem.W.nsIn K mainGlobals "bool" = some none)
    (z_int : PySem.W.nsIn K mainGlobals "int" = some none)
    (z_isinstance : PySem.W.nsIn K mainGlobals "isinstance" = some none)
    (z_len : PySem.W.nsIn K mainGlobals "len" = some none)
    (z_range : PySem.W.nsIn K mainGlobals "range" = some none)
    (z_str : PySem.W.nsIn K mainGlobals "str" = some none)
    (z_tuple : PySem.W.nsIn K mainGlobals "tuple" = some none)
    (c_FIGURES : PySem.W.nsIn K mainGlobals "FIGURES" = some (some (.str "0123456789" tk_FIGURES)))
    (c_MOST_FIGURES : PySem.W.nsIn K mainGlobals "MOST_FIGURES" = some (some (.int 9 tk_MOST_FIGURES)))
    (c_MOST_FIXED : PySem.W.nsIn K mainGlobals "MOST_FIXED" = some (some (.int 9 tk_MOST_FIXED)))
    (tnd : [mP8, mP12, mP14, mP17, mP22].Nodup)
    (law : ∀ ns : List Int, ns.length ≤ 63 → (∀ z ∈ ns, Builtin.Int.intBits z ≤ 1048576) → S.F_law_k32 [.stb (.scr ns)] = .ok (.stb (.bl true)) [])
    : LamX.LawAtS l w K (L2N.CX l.prog w) 5 63 "_law_script" mg fa h := by
  have e := hfa.symm.trans (PySem.W.mg_of KX N a37)
  cases e
  refine ⟨(PySem.W.fnOf "law" "law" (defArgs s_law) (defBody s_law) (defScope s_law) .none kV37 dc37 pm37 an37 cd37 ct37), [(mc8, mP8), (mc12, mP12), (mc14, mP14), (mc17, mP17), (mc22, mP22)], SpXT K [(mP8, fun _ _ => ("near_dealer.<locals>.deal" : Str)), (mP12, fun _ _ => ("least_dealer.<locals>.deal" : Str)), (mP14, fun _ _ => ("turns_dealer.<locals>.deal" : Str)), (mP17, fun _ _ => ("zone_dealer.<locals>.deal" : Str)), (mP22, fun _ _ => ("fixed_dealer.<locals>.deal" : Str))] 1 S.F_law_k32, (all_cons (TS _ ntm_8) (all_cons (TS _ ntm_12) (all_cons (TS _ ntm_14) (all_cons (TS _ ntm_17) (all_cons (TS _ ntm_22) all_nil))))), (all_cons ntn_8 (all_cons ntn_12 (all_cons ntn_14 (all_cons ntn_17 (all_cons ntn_22 all_nil))))), (all_cons (PySem.W.codeHd_of_K KX nhc_8) (all_cons (PySem.W.codeHd_of_K KX nhc_12) (all_cons (PySem.W.codeHd_of_K KX nhc_14) (all_cons (PySem.W.codeHd_of_K KX nhc_17) (all_cons (PySem.W.codeHd_of_K KX nhc_22) all_nil))))), ?b, fun H a ns hl hb hT hS => law_spxT (law ns hl hb) hS (tabsN_of (all_cons (hT (mc8, mP8) (by simp)) (all_cons (hT (mc12, mP12) (by simp)) (all_cons (hT (mc14, mP14) (by simp)) (all_cons (hT (mc17, mP17) (by simp)) (all_cons (hT (mc22, mP22) (by simp)) all_nil)))))), fun base _ _ TB => ?t⟩
  case t =>
    have T : Tx (glF K [(4, C_NoDeal), (10, C_NoFloor), (11, C_NoLift), (12, C_Twice)] flds [(100, nd_near_dealer_deal), (101, nd_least_dealer_deal), (102, nd_turns_dealer_deal), (103, nd_zone_dealer_deal), (104, nd_fixed_dealer_deal)] [(mP8, fun _ _ => ("near_dealer.<locals>.deal" : Str)), (mP12, fun _ _ => ("least_dealer.<locals>.deal" : Str)), (mP14, fun _ _ => ("turns_dealer.<locals>.deal" : Str)), (mP17, fun _ _ => ("zone_dealer.<locals>.deal" : Str)), (mP22, fun _ _ => ("fixed_dealer.<locals>.deal" : Str))]) mg base := tx_mk (G := (glF K [(4, C_NoDeal), (10, C_NoFloor), (11, C_NoLift), (12, C_Twice)] flds [(100, nd_near_dealer_deal), (101, nd_least_dealer_deal), (102, nd_turns_dealer_deal), (103, nd_zone_dealer_deal), (104, nd_fixed_dealer_deal)] [(mP8, fun _ _ => ("near_dealer.<locals>.deal" : Str)), (mP12, fun _ _ => ("least_dealer.<locals>.deal" : Str)), (mP14, fun _ _ => ("turns_dealer.<locals>.deal" : Str)), (mP17, fun _ _ => ("zone_dealer.<locals>.deal" : Str)), (mP22, fun _ _ => ("fixed_dealer.<locals>.deal" : Str))])) KX N rfl rfl rfl rfl rfl rfl rfl (exG_glF rfl) tnd (TB (mc8, mP8) (by simp)) (by show _ ∈ [(mP8, fun _ _ => ("near_dealer.<locals>.deal" : Str)), (mP12, fun _ _ => ("least_dealer.<locals>.deal" : Str)), (mP14, fun _ _ => ("turns_dealer.<locals>.deal" : Str)), (mP17, fun _ _ => ("zone_dealer.<locals>.deal" : Str)), (mP22, fun _ _ => ("fixed_dealer.<locals>.deal" : Str))]; simp) (ndF_glF rfl (by decide)) (TB (mc12, mP12) (by simp)) (by show _ ∈ [(mP8, fun _ _ => ("near_dealer.<locals>.deal" : Str)), (mP12, fun _ _ => ("least_dealer.<locals>.deal" : Str)), (mP14, fun _ _ => ("turns_dealer.<locals>.deal" : Str)), (mP17, fun _ _ => ("zone_dealer.<locals>.deal" : Str)), (mP22, fun _ _ => ("fixed_dealer.<locals>.deal" : Str))]; simp) (ndF_glF rfl (by decide)) (TB (mc14, mP14) (by simp)) (by show _ ∈ [(mP8, fun _ _ => ("near_dealer.<locals>.deal" : Str)), (mP12, fun _ _ => ("least_dealer.<locals>.deal" : Str)), (mP14, fun _ _ => ("turns_dealer.<locals>.deal" : Str)), (mP17, fun _ _ => ("zone_dealer.<locals>.deal" : Str)), (mP22, fun _ _ => ("fixed_dealer.<locals>.deal" : Str))]; simp) (ndF_glF rfl (by decide)) (TB (mc17, mP17) (by simp)) (by show _ ∈ [(mP8, fun _ _ => ("near_dealer.<locals>.deal" : Str)), (mP12, fun _ _ => ("least_dealer.<locals>.deal" : Str)), (mP14, fun _ _ => ("turns_dealer.<locals>.deal" : Str)), (mP17, fun _ _ => ("zone_dealer.<locals>.deal" : Str)), (mP22, fun _ _ => ("fixed_dealer.<locals>.deal" : Str))]; simp) (ndF_glF rfl (by decide)) (TB (mc22, mP22) (by simp)) (by show _ ∈ [(mP8, fun _ _ => ("near_dealer.<locals>.deal" : Str)), (mP12, fun _ _ => ("least_dealer.<locals>.deal" : Str)), (mP14, fun _ _ => ("turns_dealer.<locals>.deal" : Str)), (mP17, fun _ _ => ("zone_dealer.<locals>.deal" : Str)), (mP22, fun _ _ => ("fixed_dealer.<locals>.deal" : Str))]; simp) (ndF_glF rfl (by decide)) eC_CourtError eb_CourtError et_CourtError eC_NoDeal eb_NoDeal et_NoDeal eC_NoFloor eb_NoFloor et_NoFloor eC_NoLift eb_NoLift et_NoLift eC_Twice eb_Twice et_Twice eh_CourtError es_CourtError_NoDeal eq_NoDeal ek_NoDeal xg_NoFloor xk_NoFloor eh_NoFloor nf_NoFloor_floor xg_NoLift xk_NoLift eh_NoLift nf_NoLift_lift xg_Twice xk_Twice eh_Twice nf_Twice_tag eC_NoHouse et_NoHouse eh_NoHouse es_NoHouse_NoHouse eC_NoRule et_NoRule eh_NoRule es_NoRule_NoRule eh_NoDeal es_NoDeal_NoDeal eC_NoDeed et_NoDeed eh_NoDeed es_NoDeed_NoDeed eC_NoRide et_NoRide eh_NoRide es_NoRide_NoRide eC_NoIll et_NoIll eh_NoIll es_NoIll_NoIll eC_NoLine et_NoLine eh_NoLine es_NoLine_NoLine eC_Empty et_Empty eh_Empty es_Empty_Empty es_NoFloor_NoFloor es_NoLift_NoLift es_Twice_Twice eC_TooMany et_TooMany eh_TooMany es_TooMany_TooMany i_n i_t xg_NoDeal xk_NoDeal xa_NoDeal xm_NoDeal es_NoHouse_NoDeal es_NoRule_NoDeal es_NoDeed_NoDeal es_NoRide_NoDeal es_NoIll_NoDeal es_NoLine_NoDeal es_Empty_NoDeal es_NoFloor_NoDeal es_NoLift_NoDeal es_Twice_NoDeal es_TooMany_NoDeal ev_ValueError_NoDeal a0 l0 c0 k0 a1 l1 c1 k1 a2 l2 c2 k2 a3 l3 c3 k3 a4 l4 c4 k4 a5 l5 c5 k5 a6 l6 c6 k6 a7 l7 c7 k7 a8 l8 c8 k8 nlc_8 nlv_8 nhc_8 ntm_8 ntn_8 a9 l9 c9 k9 a10 l10 c10 k10 a12 l12 c12 k12 nlc_12 nlv_12 nhc_12 ntm_12 ntn_12 a14 l14 c14 k14 nlc_14 nlv_14 nhc_14 ntm_14 ntn_14 a15 l15 c15 k15 a17 l17 c17 k17 nlc_17 nlv_17 nhc_17 ntm_17 ntn_17 a18 l18 c18 k18 a20 l20 c20 k20 a21 l21 c21 k21 a22 l22 c22 k22 nlc_22 nlv_22 nhc_22 ntm_22 ntn_22 a24 l24 c24 k24 a25 l25 c25 k25 a26 l26 c26 k26 a27 l27 c27 k27 a28 l28 c28 k28 a29 l29 c29 k29 a30 l30 c30 k30 a31 l31 c31 k31 a32 l32 c32 k32 a33 l33 c33 k33 a34 l34 c34 k34 a35 l35 c35 k35 a36 l36 c36 k36 a37 l37 c37 k37 z_ValueError z_abs z_bool z_int z_isinstance z_len z_range z_str z_tuple c_FIGURES c_MOST_FIGURES c_MOST_FIXED tnd
    exact (fn_law T (fun_mk (st := s_law) l37 c37 k37)).imp fun vs H Q E h => spx_of rfl h
  case b => exact fun s v => .of_eq rfl

end Lf.k32
namespace Lf.k32
open PySem L2 PyProof.Rows PySem.NumText Lf.S
theorem cutS_len (z : Str) (lo hi : Option Int) : (cutS z lo hi).length ≤ z.length := by
  have e : (cutS z lo hi).length = ((z.cps.toList.drop (HT.sIx z.length 0 lo)).take (HT.sIx z.length z.length hi - HT.sIx z.length 0 lo)).length := by
    show (List.toArray _).size = _
    rw [List.size_toArray]
  rw [e, List.length_take, List.length_drop, ← len_cps]
  omega
theorem cut_ok (z : Str) (lo hi : Option Int) (hz : z.length ≤ 100000) (ho : okS z) : ∃ w : Str, w.length ≤ z.length ∧ okS w ∧ dSl (.str z) lo hi = some (.str w) := by
  have h : z.length ≤ LIM := by have : (16777216 : Nat) = LIM := rfl; omega
  exact ⟨cutS z lo hi, cutS_len z lo hi, okS_cut ho lo hi, if_pos h⟩
theorem bent_ex (ns : List Int) (z : Str) (hz : z.length ≤ 2000) (hz1 : 1 ≤ z.length) (ho : okS z) : ∃ w : Str, w.length ≤ 5000 ∧ okS w ∧ F__law_bent_v2 [.stb (.scr ns), .stb (.str z)] = .ok (.stb (.str w)) [] := by
  have b : ∀ k p m : Int, 0 < m → 0 ≤ drwAt ns k p m ∧ drwAt ns k p m < m := fun k p m h => ⟨drwAt_nn ns k p h, drwAt_lt ns k p h⟩
  have b1 := b 20 60101 z.length (by omega)
  have b2 := b 21 60103 30 (by omega)
  have e0 := drw_eq ns 20 60091 8 (by omega) (by omega) (by omega) (by omega)
  have e1 := drw_eq ns 20 60101 z.length (by omega) (by omega) (by omega) (by omega)
  have e2 := drw_eq ns 21 60103 30 (by omega) (by omega) (by omega) (by omega)
  generalize drwAt ns 20 60091 8 = q at *
  generalize drwAt ns 20 60101 z.length = at_ at *
  generalize drwAt ns 21 60103 30 = sg at *
  have hlen : bLen [.str z] = some (.int z.length) := if_pos (show z.length ≤ LIM by have : (16777216 : Nat) = LIM := rfl; omega)
  obtain ⟨c, c1, c2, ec⟩ := chr_ok (Str.ofString "0123456789 aedfilnorstuxz+-_.\n") sg (by decide +kernel) (by decide +kernel) b2.1 (by
    have : (Str.ofString "0123456789 aedfilnorstuxz+-_.\n").length = 30 := by decide +kernel
    omega)
  obtain ⟨A, A1, A2, eA⟩ := cut_ok z none (some at_) (by omega) ho
  obtain ⟨B, B1, B2, eB⟩ := cut_ok z (some at_) none (by omega) ho
  obtain ⟨C, C1, C2, eC⟩ := cut_ok z (some (at_ + 1)) none (by omega) ho
  obtain ⟨E, E1, E2, eE⟩ := cut_ok z none (some (at_ + 1)) (by omega) ho
  have app : ∀ x y : Str, x.length ≤ 5000 → y.length ≤ 5000 → okS x → okS y → dAdd (.str x) (.str y) = some (.str (x ++ y)) ∧ (x ++ y).length = x.length + y.length ∧ okS (x ++ y) := fun x y hx hy ox oy =>
    ⟨cat x y (by omega), PySem.Str.length_append .., okS_app.mpr ⟨ox, oy⟩⟩
  by_cases h0 : q = 0
  · obtain ⟨a1, a2, a3⟩ := app A c (by omega) (by omega) A2 c2
    obtain ⟨d1, d2, d3⟩ := app (A ++ c) B (by omega) (by omega) a3 B2
    exact ⟨A ++ c ++ B, by omega, d3, by simp [F__law_bent_v2, b__law_bent_v2, e0, hlen, e1, e2, ec, eA, eB, h0, a1, d1]⟩
  by_cases h1 : q = 1
  · obtain ⟨a1, a2, a3⟩ := app A C (by omega) (by omega) A2 C2
    exact ⟨A ++ C, by omega, a3, by simp [F__law_bent_v2, b__law_bent_v2, e0, hlen, e1, e2, ec, eA, eC, h1, a1]⟩
  by_cases h2 : q = 2
  · obtain ⟨a1, a2, a3⟩ := app E B (by omega) (by omega) E2 B2
    exact ⟨E ++ B, by omega, a3, by simp [F__law_bent_v2, b__law_bent_v2, e0, hlen, e1, e2, ec, eB, eE, h2, a1]⟩
  by_cases h3 : q = 3
  · obtain ⟨a1, a2, a3⟩ := app A c (by omega) (by omega) A2 c2
    obtain ⟨d1, d2, d3⟩ := app (A ++ c) C (by omega) (by omega) a3 C2
    exact ⟨A ++ c ++ C, by omega, d3, by simp [F__law_bent_v2, b__law_bent_v2, e0, hlen, e1, e2, ec, eA, eC, h3, a1, d1]⟩
  · exact ⟨z, by omega, ho, by simp [F__law_bent_v2, b__law_bent_v2, e0, hlen, e1, e2, ec, h0, h1, h2, h3]⟩
theorem strbig (i : Int) (h0 : 0 ≤ i) (h1 : i < 10 ^ 12) : ∃ s : Str, s.length ≤ 12 ∧ okS s ∧ bStr [.int i] = some (.str s) := by
  obtain ⟨n, rfl⟩ : ∃ n : Nat, i = (n : Int) := ⟨i.toNat, by omega⟩
  have hn : n < 10 ^ 12 := by omega
  refine ⟨Str.ofString (toString (n : Int)), ?_, ?_, ?_⟩
  · rw [TL.len_tl, TL.tl_num]
    exact TL.numL_len (by omega) hn
  · show PySem.PyData.strOk _ = true
    unfold PySem.PyData.strOk
    rw [← Array.all_toList]
    rw [List.all_eq_true]
    intro c hc
    have h2 : c ∈ TL.tl (Str.ofString (toString (n : Int))) := hc
    rw [TL.tl_num] at h2
    have := TL.numL_digits n c h2
    simp; omega
  · show (if ((n : Int).natAbs.log2 < 1920) then some (D.str (Str.ofString (toString (n : Int)))) else none) = _
    rw [if_pos]
    have : (n : Int).natAbs < 2 ^ 60 := by omega
    by_cases hz : (n : Int).natAbs = 0
    · rw [hz]; decide
    · have := (Nat.log2_lt hz).mpr this
      omega
theorem ix_nat {n i : Nat} (h : i < n) : ixN n (i : Int) = some i := by
  unfold ixN
  simp
  omega
theorem mem_rng {n : Nat} {d : D} (h : d ∈ rngD 0 n) : ∃ j : Nat, j < n ∧ d = .int (j : Int) := by
  unfold rngD at h
  obtain ⟨j, hj, e⟩ := List.mem_map.mp h
  exact ⟨j, List.mem_range.mp hj, by rw [← e, Int.zero_add]⟩
theorem strs_ex (xs : List Int) (hx : ∀ x ∈ xs, 0 ≤ x ∧ x < 10 ^ 12) (hl : xs.length ≤ 100) (ρ : En) (hρ : 8 < ρ.length) : ∃ ss : List Str, ss.length = xs.length ∧ (∀ s ∈ ss, s.length ≤ 12 ∧ okS s) ∧ compL (gN 8) fYes (fCall bStr (fCons (fVar 8) fNil)) [8] (xs.map .int) [] ρ = .ok (.lst (ss.map .str)) (ρ.set 8 none) := by
  obtain ⟨ss, h1, h2, h3⟩ := comp_exi (fe := fCall bStr (fCons (fVar 8) fNil)) (i := 8) (ρ := ρ) D.str (fun s => s.length ≤ 12 ∧ okS s) (xs.map .int) (by simp; omega) (fun d hd => by
    obtain ⟨x, hxm, rfl⟩ := List.mem_map.mp hd
    obtain ⟨s, s1, s2, s3⟩ := strbig x (hx x hxm).1 (hx x hxm).2
    exact ⟨s, ⟨s1, s2⟩, by simp [hρ, s3]⟩)
  exact ⟨ss, by rw [h1]; simp, h2, h3⟩
theorem join_ok (w : Str) (ss : List Str) (hw : w.length ≤ 12) (ow : okS w) (hw1 : 1 ≤ w.length) (hs : ∀ s ∈ ss, s.length ≤ 12 ∧ okS s) (hl : ss.length ≤ 100) : ∃ T : Str, 1 ≤ T.length ∧ T.length ≤ 2000 ∧ okS T ∧ mJoin (Str.ofString " ") (.lst ((w :: ss).map .str)) = some (.str T) := by
  have hp : ∀ p ∈ w :: ss, p.length ≤ 12 := fun p hp => by
    rcases List.mem_cons.mp hp with rfl | hp
    · exact hw
    · exact (hs p hp).1
  have e : (Str.ofString " ").length = 1 := by decide
  have j := mjoin_ok (Str.ofString " ") (w :: ss) 12 hp (by rw [e]; simp; omega)
  have l := len_join (y := Str.ofString " ") (n := 12) (w :: ss) hp
  rw [e, List.length_cons] at l
  have l2 := join_ge (Str.ofString " ") (w :: ss) w (by simp)
  have o := okS_join (y := Str.ofString " ") (by decide +kernel) (w :: ss) (fun p hp => by
    rcases List.mem_cons.mp hp with rfl | hp
    · exact ow
    · exact (hs p hp).2)
  rw [TL.join_eq] at j
  exact ⟨_, by omega, by omega, o, j⟩
theorem word3 (q : Int) (h : 0 ≤ q ∧ q < 3) : ∃ w : Str, 1 ≤ w.length ∧ w.length ≤ 12 ∧ okS w ∧ atI [D.str (Str.ofString "near"), .str (Str.ofString "least"), .str (Str.ofString "turns")] q = some (.str w) := by
  have : q = 0 ∨ q = 1 ∨ q = 2 := by omega
  rcases this with rfl | rfl | rfl
  · exact ⟨Str.ofString "near", by decide +kernel, by decide +kernel, by decide +kernel, rfl⟩
  · exact ⟨Str.ofString "least", by decide +kernel, by decide +kernel, by decide +kernel, rfl⟩
  · exact ⟨Str.ofString "turns", by decide +kernel, by decide +kernel, by decide +kernel, rfl⟩
theorem p10_9 : dPow (.int 10) (.int 9) = some (.int 1000000000) := rfl
/-- from the numbers on -/
theorem drawn_end (ns : List Int) (hh : D) (q cnt : Int) (w : Str) (xs : List Int) (hx : ∀ x ∈ xs, 0 ≤ x ∧ x < 10 ^ 12) (hl : xs.length ≤ 100) (hw : w.length ≤ 12) (ow : okS w) (hw1 : 1 ≤ w.length) (x6 x7 : Option O) :
    ∃ T : Str, 1 ≤ T.length ∧ T.length ≤ 2000 ∧ okS T ∧ (fRet (fBor (fM1 mJoin (fC (.str (Str.ofString " "))) (fBin dAdd (fCall gLstD (fCons (fVar 4) fNil)) (fFr (fLc (fItems (fVar 5)) (gN 8) fYes (fCall bStr (fCons (fVar 8) fNil)) [8])))))) [some (.stb (.scr ns)), some (.stb hh), some (.stb (.int q)), some (.stb (.int cnt)), some (.stb (.str w)), some (.lst (xs.map .int)), x6, x7, none] = .ret (.stb (.str T)) [some (.stb (.scr ns)), some (.stb hh), some (.stb (.int q)), some (.stb (.int cnt)), some (.stb (.str w)), some (.lst (xs.map .int)), x6, x7, none] := by
  obtain ⟨ss, h1, h2, h3⟩ := strs_ex xs hx hl (frE [some (.stb (.scr ns)), some (.stb hh), some (.stb (.int q)), some (.stb (.int cnt)), some (.stb (.str w)), some (.lst (xs.map .int)), x6, x7, none]) (by simp [frE])
  obtain ⟨T, t1, t2, t3, t4⟩ := join_ok w ss hw ow hw1 h2 (by omega)
  have ea : dAdd (.lst [.str w]) (.lst (ss.map .str)) = some (.lst ((w :: ss).map .str)) := by
    have : 1 + ss.length ≤ LIM := by unfold LIM; omega
    simp [dAdd, this]
  refine ⟨T, t1, t2, t3, ?_⟩
  generalize (w :: ss).map D.str = wl at *
  generalize ss.map D.str = sl at *
  generalize xs.map D.int = xl at *
  simp only [frE, List.map_cons, List.map_nil, Option.map_some, Option.map_none, fr] at h3
  simp [h3, ea, t4, imm]
theorem drawn_ex {ns : List Int} (hb : cellBits ns) (fl m : Int) (ls : List LWt) (so : Str) (hf : 2 ≤ fl ∧ fl ≤ 8) (hl : 1 ≤ ls.length ∧ ls.length ≤ 3) :
    ∃ T : Str, 1 ≤ T.length ∧ T.length ≤ 2000 ∧ okS T ∧ F__law_drawn_text [.stb (.scr ns), .stb (houseI fl ls m so)] = .ok (.stb (.str T)) [] := by
  have b : ∀ k p m : Int, 0 < m → 0 ≤ drwAt ns k p m ∧ drwAt ns k p m < m := fun k p m h => ⟨drwAt_nn ns k p h, drwAt_lt ns k p h⟩
  have b0 := b 6 60013 5 (by omega)
  have b1 := b 6 60029 9 (by omega)
  have b2 := b 7 60041 2 (by omega)
  have b3 := b 18 60091 2 (by omega)
  have e0 := drw_eq ns 6 60013 5 (by omega) (by omega) (by omega) (by omega)
  have e1 := drw_eq ns 6 60029 9 (by omega) (by omega) (by omega) (by omega)
  have e2 := drw_eq ns 7 60041 2 (by omega) (by omega) (by omega) (by omega)
  have e3 := drw_eq ns 18 60091 2 (by omega) (by omega) (by omega) (by omega)
  have e4 := drw_eq ns 7 60037 3 (by omega) (by omega) (by omega) (by omega)
  have e5 := drw_eq ns 7 60083 4 (by omega) (by omega) (by omega) (by omega)
  obtain ⟨g, g0, g1, eg⟩ := great_ex hb 18 1000000000 (by omega) (by omega) (by omega)
  generalize drwAt ns 6 60013 5 = q at *
  generalize drwAt ns 6 60029 9 = q1 at *
  generalize drwAt ns 7 60041 2 = q2 at *
  generalize drwAt ns 18 60091 2 = q3 at *
  generalize drwAt ns 7 60037 3 = q4 at *
  generalize drwAt ns 7 60083 4 = q5 at *
  have p9 := p10_9
  have ih0 : dIx (houseI fl ls m so) (.int 0) = some (.int fl) := by have : atI [D.int fl, .tup (ls.map liftD), .int m, .str so] 0 = some (.int fl) := at0; exact this
  have ih1 : dIx (houseI fl ls m so) (.int 1) = some (.tup (ls.map liftD)) := rfl
  have bl : bLen [.tup (ls.map liftD)] = some (.int ls.length) := by simp
  generalize ls.map liftD = lsd at *
  generalize houseI fl ls m so = hh at *
  by_cases c0 : q < 3
  · obtain ⟨w, w1, w2, w3, ew⟩ := word3 q ⟨b0.1, c0⟩
    exact ⟨w, w1, by omega, w3, by simp [F__law_drawn_text, b__law_drawn_text, e0, c0, ew]⟩
  -- the word and the count
  obtain ⟨w, cnt0, w1, w2, w3, hc, ew⟩ : ∃ (w : Str) (cnt0 : Int), 1 ≤ w.length ∧ w.length ≤ 12 ∧ okS w ∧ (1 ≤ cnt0 ∧ cnt0 ≤ 9) ∧ (cnt0, w) = (if q = 4 then (1 + q1, Str.ofString "fixed") else (fl, Str.ofString "zone")) := by
    by_cases c : q = 4
    · exact ⟨Str.ofString "fixed", 1 + q1, by decide +kernel, by decide +kernel, by decide +kernel, by omega, by rw [if_pos c]⟩
    · exact ⟨Str.ofString "zone", fl, by decide +kernel, by decide +kernel, by decide +kernel, by omega, by rw [if_neg c]⟩
  let cnt : Int := if q4 = 0 then cnt0 - 1 + 2 * q2 else cnt0
  have hcnt : 0 ≤ cnt ∧ cnt ≤ 10 := by
    show 0 ≤ (if q4 = 0 then cnt0 - 1 + 2 * q2 else cnt0) ∧ (if q4 = 0 then cnt0 - 1 + 2 * q2 else cnt0) ≤ 10
    split <;> omega
  have hcd : cnt = if q4 = 0 then cnt0 - 1 + 2 * q2 else cnt0 := rfl
  clear_value cnt
  obtain ⟨xs, x1, x2, x3⟩ := comp_exi (fe := E1__law_drawn_text) (i := 6) (ρ := [some (.stb (.scr ns)), some (.stb hh), some (.stb (.int q)), some (.stb (.int cnt)), some (.stb (.str w)), none, none, none, none]) D.int (fun x => 0 ≤ x ∧ x < 10 ^ 12) (rngD 0 cnt.toNat) (by simp [rngD]; omega) (fun d hd => by
    obtain ⟨j, hj, rfl⟩ := mem_rng hd
    have e := drw_eq ns (8 + j) 60077 ls.length (by omega) (by omega) (by omega) (by omega)
    have bb := b (8 + j) 60077 ls.length (by omega)
    exact ⟨drwAt ns (8 + j) 60077 ls.length, by omega, by simp [E1__law_drawn_text, ih1, bl, e]⟩)
  have lx : xs.length = cnt.toNat := by rw [x1]; simp [rngD]
  have gr : gRng1 [.int cnt] = some (rngD 0 cnt.toNat) := gRng1_int (by omega) (by omega)
  have m2 : dMul (.int 2) (.int q2) = some (.int (2 * q2)) := dMul_l (by omega) (by omega)
  have m3 : dMul (.int g) (.int q3) = some (.int (g * q3)) := dMul_r (by omega) (by omega)
  have hg3 : 0 ≤ g * q3 ∧ g * q3 ≤ 1000000000 := by
    have : q3 = 0 ∨ q3 = 1 := by omega
    rcases this with h | h <;> rw [h] <;> omega
  -- with a number put otherwise or not
  have key : ∃ (xs' : List Int) (x7 : Option O), (∀ x ∈ xs', 0 ≤ x ∧ x < 10 ^ 12) ∧ xs'.length ≤ 100 ∧
      (fIf (fAnd (fTest (fBin dGt (fVar 3) (fC (.int 0)))) (fTest (fBin dEq (fFr (fCalO S.F__law_draw_v2 4 (fCons (fVar 0) (fCons (fC (.int 7)) (fCons (fC (.int 60083)) (fCons (fC (.int 4)) fNil)))))) (fC (.int 0))))) (fSeq (fSet 7 (fBin dMul (fFr (fCalO S.F__law_great 3 (fCons (fVar 0) (fCons (fC (.int 18)) (fCons (fBin dPow (fC (.int 10)) (fC (.int 9))) fNil))))) (fFr (fCalO S.F__law_draw_v2 4 (fCons (fVar 0) (fCons (fC (.int 18)) (fCons (fC (.int 60091)) (fCons (fC (.int 2)) fNil))))))))
        (fSetIx (.slot 5) (fFr (fCalO S.F__law_draw_v2 4 (fCons (fVar 0) (fCons (fC (.int 7)) (fCons (fC (.int 60089)) (fCons (fVar 3) fNil)))))) (fBin dAdd (fCall bLen (fCons (fBin dIx (fVar 1) (fC (.int 1))) fNil)) (fVar 7)))) fNxt)
        [some (.stb (.scr ns)), some (.stb hh), some (.stb (.int q)), some (.stb (.int cnt)), some (.stb (.str w)), some (.lst (xs.map .int)), none, none, none] = .nxt [some (.stb (.scr ns)), some (.stb hh), some (.stb (.int q)), some (.stb (.int cnt)), some (.stb (.str w)), some (.lst (xs'.map .int)), none, x7, none] := by
    by_cases c1 : 0 < cnt
    · by_cases c2 : q5 = 0
      · have e6 := drw_eq ns 7 60089 cnt (by omega) (by omega) (by omega) (by omega)
        have b6 := b 7 60089 cnt (by omega)
        generalize drwAt ns 7 60089 cnt = q6 at *
        obtain ⟨n6, rfl⟩ : ∃ n : Nat, q6 = (n : Int) := ⟨q6.toNat, by omega⟩
        have sx := ix_nat (n := (xs.map D.int).length) (i := n6) (by simp; omega)
        have es : (xs.set n6 (ls.length + g * q3)).map D.int = (xs.map D.int).set n6 (.int (ls.length + g * q3)) := by rw [List.map_set]
        refine ⟨xs.set n6 (ls.length + g * q3), some (.stb (.int (g * q3))), fun x hx => ?_, by simp; omega, ?_⟩
        · rcases List.mem_or_eq_of_mem_set hx with h | h
          · exact x2 x h
          · subst h; omega
        · rw [es]
          generalize xs.map D.int = xl at *
          simp [c1, e5, c2, p9, eg, e3, m3, ih1, bl, e6, sx]
      · exact ⟨xs, none, x2, by omega, by simp [c1, e5, c2]⟩
    · exact ⟨xs, none, x2, by omega, by simp [c1]⟩
  obtain ⟨xs', x7, k1, k2, k3⟩ := key
  obtain ⟨T, t1, t2, t3, t4⟩ := drawn_end ns hh q cnt w xs' k1 k2 w2 w3 w1 none x7
  refine ⟨T, t1, t2, t3, ?_⟩
  have x3' : compL (gN 6) fYes E1__law_drawn_text [6] (rngD 0 cnt.toNat) [] [some (.stb (.scr ns)), some (.stb hh), some (.stb (.int q)), some (.stb (.int cnt)), some (.stb (.str w)), none, none, none, none] = .ok (.lst (xs.map .int)) [some (.stb (.scr ns)), some (.stb hh), some (.stb (.int q)), some (.stb (.int cnt)), some (.stb (.str w)), none, none, none, none] := x3
  generalize xs.map D.int = xl at *
  generalize xs'.map D.int = xl' at *
  clear x3 k1 k2
  by_cases c4 : q = 4
  · rw [if_pos c4] at ew
    injection ew with ew1 ew2
    subst ew2
    by_cases c5 : q4 = 0
    · rw [if_pos c5, ew1] at hcd
      subst hcd
      simp only [F__law_drawn_text, b__law_drawn_text]
      simp [mkF, e0, c0, ih0, c4, e1, e4, c5, e2, m2]
      simp [c4] at gr x3' k3 t4
      simp [gr, x3', k3, t4]
    · rw [if_neg c5, ew1] at hcd
      subst hcd
      simp only [F__law_drawn_text, b__law_drawn_text]
      simp [mkF, e0, c0, ih0, c4, e1, e4, c5, e2, m2]
      simp [c4] at gr x3' k3 t4
      simp [gr, x3', k3, t4]
  · rw [if_neg c4] at ew
    injection ew with ew1 ew2
    subst ew2
    by_cases c5 : q4 = 0
    · rw [if_pos c5, ew1] at hcd
      subst hcd
      simp only [F__law_drawn_text, b__law_drawn_text]
      simp [mkF, e0, c0, ih0, c4, e1, e4, c5, e2, m2]
      simp at gr x3' k3 t4
      simp [gr, x3', k3, t4]
    · rw [if_neg c5, ew1] at hcd
      subst hcd
      simp only [F__law_drawn_text, b__law_drawn_text]
      simp [mkF, e0, c0, ih0, c4, e1, e4, c5, e2, m2]
      simp at gr x3' k3 t4
      simp [gr, x3', k3, t4]
theorem fold_ge : ∀ (cs : List Nat) (a : Nat), a ≤ cs.foldl (fun acc c => acc * 10 + (c - 48)) a
  | [], a => Nat.le_refl a
  | c :: cs, a => by
    have := fold_ge cs (a * 10 + (c - 48))
    rw [List.foldl_cons]
    omega
theorem nO_small {w : Str} {v : Int} (h : nO w = some v) (hv : v < 10) : w = numS v.toNat := by
  have hw : w = ⟨w.cps.toList.toArray⟩ := by simp
  unfold nO numO at h
  generalize w.cps.toList = cs at *
  split at h
  · cases h
  · split at h
    · cases h
    · split at h
      · cases h
      · rename_i h1 h2 h3
        have hd : ((digitsVal cs : Nat) : Int) = v := Option.some.inj h
        rcases cs with _ | ⟨c, _ | ⟨d, r⟩⟩
        · simp at h1
        · have hf : isFig c = true := by simpa using h2
          have hf' : 48 ≤ c ∧ c ≤ 57 := by simpa [isFig] using hf
          have e : digitsVal [c] = 0 * 10 + (c - 48) := rfl
          rw [e] at hd
          rw [hw]
          unfold numS
          have : c = 48 + v.toNat := by omega
          rw [this]
        · have hf : isFig c = true := by
            have h2' := h2
            simp at h2'
            exact h2'.1
          have hf' : 48 ≤ c ∧ c ≤ 57 := by simpa [isFig] using hf
          have hc : c ≠ 48 := fun z => h3 ⟨by simp [z], by simp⟩
          have e : digitsVal (c :: d :: r) = r.foldl (fun acc c => acc * 10 + (c - 48)) ((0 * 10 + (c - 48)) * 10 + (d - 48)) := rfl
          have := fold_ge r ((0 * 10 + (c - 48)) * 10 + (d - 48))
          omega
/-- a lift's number, as a word -/
def goodW (n : Nat) (w : Str) : Bool := (List.range n).any fun z => w == numS z
theorem goodW_iff {n : Nat} {w : Str} : goodW n w = true ↔ ∃ z, z < n ∧ w = numS z := by
  unfold goodW
  simp
theorem goodW_num {n : Nat} {w : Str} (hn : n ≤ 3) : goodW n w = true ↔ ∃ v, nO w = some v ∧ v < n := by
  rw [goodW_iff]
  constructor
  · rintro ⟨z, h, rfl⟩
    exact ⟨z, nO_num z (by omega), by omega⟩
  · rintro ⟨v, h, hv⟩
    have := nO_nn h
    exact ⟨v.toNat, by omega, nO_small h (by omega)⟩
theorem notIn012 (n : Nat) (w : Str) (hn : 1 ≤ n ∧ n ≤ 3) (ho : okS w) : dNotIn (.str w) (.lst (cutD [.str (Str.ofString "0"), .str (Str.ofString "1"), .str (Str.ofString "2")] none (some (n : Int)))) = some (.bl (!goodW n w)) := by
  have h : ∀ a : Str, deq (.str a) (.str w) = (w == a) := fun a => by rw [deq, Bool.eq_iff_iff, beq_iff_eq, beq_iff_eq, eq_comm]
  have h1 : okD 59 (.str w) = true := by rw [okD]; exact ho
  have n0 : Str.ofString "0" = numS 0 := by decide +kernel
  have n1 : Str.ofString "1" = numS 1 := by decide +kernel
  have n2 : Str.ofString "2" = numS 2 := by decide +kernel
  have o0 : PySem.PyData.strOk (numS 0) = true := by decide +kernel
  have o1 : PySem.PyData.strOk (numS 1) = true := by decide +kernel
  have o2 : PySem.PyData.strOk (numS 2) = true := by decide +kernel
  rw [n0, n1, n2]
  have : n = 1 ∨ n = 2 ∨ n = 3 := by omega
  have g1 : List.range 1 = [0] := rfl
  have g2 : List.range 2 = [0, 1] := rfl
  have g3 : List.range 3 = [0, 1, 2] := rfl
  rcases this with rfl | rfl | rfl
  · have c : cutD [D.str (numS 0), .str (numS 1), .str (numS 2)] none (some ((1 : Nat) : Int)) = [.str (numS 0)] := rfl
    rw [c]
    simp [dNotIn, inB, okD, okL, ho, o0, h, goodW, g1]
  · have c : cutD [D.str (numS 0), .str (numS 1), .str (numS 2)] none (some ((2 : Nat) : Int)) = [.str (numS 0), .str (numS 1)] := rfl
    rw [c]
    simp [dNotIn, inB, okD, okL, ho, o0, o1, h, goodW, g2]
  · have c : cutD [D.str (numS 0), .str (numS 1), .str (numS 2)] none (some ((3 : Nat) : Int)) = [.str (numS 0), .str (numS 1), .str (numS 2)] := rfl
    rw [c]
    simp [dNotIn, inB, okD, okL, ho, o0, o1, o2, h, goodW, g3, Bool.or_assoc]
theorem bInt_num (z : Nat) (h : z < 3) : bInt [.str (numS z)] = some (.int (z : Int)) := by
  have e : PySem.intText? (numS z) = some ((digitsVal (numS z).cps.toList : Nat) : Int) := intText_digits (by
      intro c hc
      have : c = 48 + z := by simpa [numS] using hc
      omega) (by simp [numS]) (by show (1 : Nat) ≤ _; omega)
  have e2 : digitsVal (numS z).cps.toList = z := by
    show 0 * 10 + (48 + z - 48) = z
    omega
  show (if (numS z).length ≤ 640 then (PySem.intText? (numS z)).map D.int else none) = _
  rw [if_pos (show (numS z).length ≤ 640 from (show (1 : Nat) ≤ 640 by omega)), e, e2]
  rfl
theorem good_zs {n : Nat} : ∀ {ws : List Str}, (∀ w ∈ ws, goodW n w = true) → ∃ zs : List Nat, (∀ z ∈ zs, z < n) ∧ ws = zs.map numS
  | [], _ => ⟨[], by simp, rfl⟩
  | w :: ws, h => by
    obtain ⟨z, hz, e⟩ := goodW_iff.mp (h w (by simp))
    obtain ⟨zs, h1, h2⟩ := good_zs (ws := ws) (fun w' h' => h w' (by simp [h']))
    exact ⟨z :: zs, by simpa using ⟨hz, h1⟩, by rw [h2, e]; rfl⟩
section
variable {fl m : Int} {ls : List LWt} {so : Str}
/-- the reading of the law -/
theorem read_loop (T : Str) (ws : List Str) (hl : 1 ≤ ls.length ∧ ls.length ≤ 3) : ∀ (rest : List Str) (acc : List Nat) (x4 : Option O), acc.length + rest.length ≤ 10000 → (∀ w ∈ rest, okS w) →
    (∀ zs : List Nat, (∀ z ∈ zs, z < ls.length) → rest = zs.map numS → ∃ y4, forL (gN 4) L1__law_read_v2 (rest.map .str) [some (.stb (.str T)), some (.stb (houseI fl ls m so)), some (.stb (.lst (ws.map .str))), some (.lst (nats acc)), x4] = .nxt [some (.stb (.str T)), some (.stb (houseI fl ls m so)), some (.stb (.lst (ws.map .str))), some (.lst (nats (acc ++ zs))), y4]) ∧
    ((∃ w ∈ rest, goodW ls.length w = false) → ∃ ρ, forL (gN 4) L1__law_read_v2 (rest.map .str) [some (.stb (.str T)), some (.stb (houseI fl ls m so)), some (.stb (.lst (ws.map .str))), some (.lst (nats acc)), x4] = .ret (.stb .non) ρ)
  | [], acc, x4, _, _ => ⟨fun zs _ h => by
      cases zs with
      | nil => exact ⟨x4, by simp⟩
      | cons z zs => simp at h, fun ⟨w, h, _⟩ => by simp at h⟩
  | w :: rest, acc, x4, hlen, hok => by
    have ni := notIn012 ls.length w hl (hok w (by simp))
    have ih1 : dIx (houseI fl ls m so) (.int 1) = some (.tup (ls.map liftD)) := rfl
    have bl : bLen [.tup (ls.map liftD)] = some (.int ls.length) := by simp
    rw [List.length_cons] at hlen
    cases hg : goodW ls.length w with
    | true =>
      obtain ⟨z, hz, rfl⟩ := goodW_iff.mp hg
      have bi := bInt_num z (by omega)
      have la : acc.length < 16777216 := by omega
      have ea : nats acc ++ [.int (z : Int)] = nats (acc ++ [z]) := by simp [nats]
      obtain ⟨i1, i2⟩ := read_loop T ws hl rest (acc ++ [z]) (some (.stb (.str (numS z)))) (by simp; omega) (fun w h => hok w (by simp [h]))
      rw [hg] at ni
      have hla : (nats acc).length < 16777216 := by simpa [nats] using la
      generalize houseI fl ls m so = hh at *
      generalize ls.map liftD = lsd at *
      have st : L1__law_read_v2 [some (.stb (.str T)), some (.stb hh), some (.stb (.lst (ws.map .str))), some (.lst (nats acc)), some (.stb (.str (numS z)))] = .nxt [some (.stb (.str T)), some (.stb hh), some (.stb (.lst (ws.map .str))), some (.lst (nats (acc ++ [z]))), some (.stb (.str (numS z)))] := by
        rw [← ea]
        generalize nats acc = al at *
        simp [L1__law_read_v2, ih1, bl, ni, bi, hla]
      have go : ∀ r, forL (gN 4) L1__law_read_v2 ((numS z :: rest).map .str) [some (.stb (.str T)), some (.stb hh), some (.stb (.lst (ws.map .str))), some (.lst (nats acc)), x4] = r ↔ forL (gN 4) L1__law_read_v2 (rest.map .str) [some (.stb (.str T)), some (.stb hh), some (.stb (.lst (ws.map .str))), some (.lst (nats (acc ++ [z]))), some (.stb (.str (numS z)))] = r := fun r => by
        rw [List.map_cons, forL_cons']
        have g : gN 4 (.str (numS z)) [some (.stb (.str T)), some (.stb hh), some (.stb (.lst (ws.map .str))), some (.lst (nats acc)), x4] = some [some (.stb (.str T)), some (.stb hh), some (.stb (.lst (ws.map .str))), some (.lst (nats acc)), some (.stb (.str (numS z)))] := rfl
        rw [g, kGt_some, st]
        exact Iff.rfl
      refine ⟨fun zs hz' e => ?_, fun ⟨w', hw', hb⟩ => ?_⟩
      · cases zs with
        | nil => simp at e
        | cons z' zs =>
          rw [List.map_cons] at e
          injection e with e1 e2
          have hzz : z = z' := by
            have h1 : (#[48 + z] : Array Nat) = #[48 + z'] := congrArg PySem.Str.cps e1
            simpa using h1
          subst hzz
          obtain ⟨y4, e4⟩ := i1 zs (fun x hx => hz' x (by simp [hx])) e2
          exact ⟨y4, (go _).mpr (by rw [e4]; simp)⟩
      · rcases List.mem_cons.mp hw' with rfl | hw'
        · rw [hg] at hb; cases hb
        · obtain ⟨ρ, e⟩ := i2 ⟨w', hw', hb⟩
          exact ⟨ρ, (go _).mpr e⟩
    | false =>
      rw [hg] at ni
      refine ⟨fun zs hz' e => ?_, fun _ => ?_⟩
      · cases zs with
        | nil => simp at e
        | cons z' zs =>
          rw [List.map_cons] at e
          injection e with e1 e2
          have : goodW ls.length w = true := goodW_iff.mpr ⟨z', hz' z' (by simp), e1⟩
          rw [hg] at this; cases this
      · generalize houseI fl ls m so = hh at *
        generalize ls.map liftD = lsd at *
        rw [List.map_cons, forL_cons']
        generalize nats acc = al at *
        exact ⟨_, by simp [L1__law_read_v2, ih1, bl, ni]; rfl⟩
end
/-- a text as it is read -/
inductive Rd (fl : Int) (n : Nat) (T : Str) : D → D → Prop
  | near : T = Str.ofString "near" → Rd fl n T (.tup [.str T, .lst []]) (.fn 100 [])
  | least : T = Str.ofString "least" → Rd fl n T (.tup [.str T, .lst []]) (.fn 101 [])
  | turns : T = Str.ofString "turns" → Rd fl n T (.tup [.str T, .lst []]) (.fn 102 [])
  | zone (zs : List Nat) : (∀ z ∈ zs, z < n) → (zs.length : Int) = fl → Rd fl n T (.tup [.str (Str.ofString "zone"), .lst (nats zs)]) (.fn 103 [.lst (nats zs)])
  | fixed (zs : List Nat) : (∀ z ∈ zs, z < n) → 1 ≤ zs.length ∧ zs.length ≤ 9 → Rd fl n T (.tup [.str (Str.ofString "fixed"), .lst (nats zs)]) (.fn 104 [.lst (nats zs)])
theorem in3 (T : Str) (ho : okS T) : dIn (.str T) (.lst [.str (Str.ofString "near"), .str (Str.ofString "least"), .str (Str.ofString "turns")]) = some (.bl (T == Str.ofString "near" || T == Str.ofString "least" || T == Str.ofString "turns")) := by
  have h : ∀ a : Str, deq (.str a) (.str T) = (T == a) := fun a => by rw [deq, Bool.eq_iff_iff, beq_iff_eq, beq_iff_eq, eq_comm]
  have h1 : okD 59 (.str T) = true := by rw [okD]; exact ho
  have h2 : okL 59 [.str (Str.ofString "near"), .str (Str.ofString "least"), .str (Str.ofString "turns")] = true := by
    simp only [okL, okD]
    decide +kernel
  simp only [dIn, inB, h1, h2, Bool.and_self, if_true, List.any_cons, List.any_nil, h, Option.map_some, Bool.or_false, Bool.or_assoc]
section
variable {fl m : Int} {ls : List LWt} {so : Str}
theorem lifts2_bad (rest : List Str) (hl : ls.length ≤ 3) (hb : ∃ w ∈ rest, goodW ls.length w = false) (hln : rest.length ≤ 10000) (hz : ∀ w ∈ rest, w.length ≤ 100000) : ∃ os, F_lifts_of_v2 [.stb (.lst (rest.map .str)), .stb (houseI fl ls m so)] = .exc ⟨4, []⟩ os := by
  have c := comp_all (fe := fFr (fCalO S.F_number_of 1 (fCons (fVar 3) fNil))) (i := 3) (ρ := [some (.stb (.lst (rest.map .str))), some (.stb (houseI fl ls m so)), none, none, none]) D.str (fun w => optI (nO w)) rest (by omega) (fun w hw => by
    have e := number_eq w (by have := hz w hw; omega)
    have e' : F_number_of [.stb (.str w)] = .ok (.stb (optI (nO w))) [] := e
    simp [e'])
  have ih1 : dIx (houseI fl ls m so) (.int 1) = some (.tup (ls.map liftD)) := rfl
  have bl : bLen [.tup (ls.map liftD)] = some (.int ls.length) := by simp
  have loop : ∀ (vs : List Str) (sl nl : D) (x4 : Option O), (∃ w ∈ vs, goodW ls.length w = false) → ∃ ρ, forL (gN 4) L1_lifts_of_v2 (vs.map fun w => optI (nO w)) [some (.stb sl), some (.stb (houseI fl ls m so)), some (.stb nl), none, x4] = .exc ⟨4, []⟩ ρ := by
    intro vs
    induction vs with
    | nil => rintro sl nl x4 ⟨w, h, _⟩; simp at h
    | cons v vs ih =>
      rintro sl nl x4 ⟨w, hw, hg⟩
      rw [List.map_cons, forL_cons']
      cases hv : goodW ls.length v with
      | true =>
        obtain ⟨i, hi, hin⟩ := (goodW_num hl).mp hv
        have hw' : w ∈ vs := by
          rcases List.mem_cons.mp hw with rfl | h
          · rw [hv] at hg; cases hg
          · exact h
        obtain ⟨ρ, e⟩ := ih sl nl (some (.stb (.int i))) ⟨w, hw', hg⟩
        have hlt : ¬ (ls.length : Int) ≤ i := by omega
        generalize houseI fl ls m so = hh at *
        generalize ls.map liftD = lsd at *
        have st : L1_lifts_of_v2 [some (.stb sl), some (.stb hh), some (.stb nl), none, some (.stb (.int i))] = .nxt [some (.stb sl), some (.stb hh), some (.stb nl), none, some (.stb (.int i))] := by simp [L1_lifts_of_v2, ih1, bl, hlt, dIs, isNon]
        have g : gN 4 (optI (nO v)) [some (.stb sl), some (.stb hh), some (.stb nl), none, x4] = some [some (.stb sl), some (.stb hh), some (.stb nl), none, some (.stb (.int i))] := by rw [hi]; rfl
        refine ⟨ρ, ?_⟩
        rw [g, kGt_some, st]
        exact e
      | false =>
        cases hi : nO v with
        | none =>
          generalize houseI fl ls m so = hh at *
          generalize ls.map liftD = lsd at *
          exact ⟨_, by simp [optI, L1_lifts_of_v2, ih1, bl, dIs, isNon]; rfl⟩
        | some i =>
          have hge : (ls.length : Int) ≤ i := by
            apply Int.not_lt.mp
            intro hlt
            have : goodW ls.length v = true := (goodW_num hl).mpr ⟨i, hi, hlt⟩
            rw [hv] at this; cases this
          generalize houseI fl ls m so = hh at *
          generalize ls.map liftD = lsd at *
          exact ⟨_, by simp [optI, L1_lifts_of_v2, ih1, bl, hge, dIs, isNon]; rfl⟩
  obtain ⟨ρ, e⟩ := loop rest (.lst (rest.map .str)) (.lst (rest.map fun w => optI (nO w))) none hb
  generalize (rest.map fun w => optI (nO w)) = nl at *
  generalize rest.map D.str = sl at *
  generalize houseI fl ls m so = hh at *
  exact ⟨_, by simp [F_lifts_of_v2, b_lifts_of_v2, c, e]; rfl⟩
end
section
variable {fl m : Int} {ls : List LWt} {so : Str}
theorem lifts2_eq (zs : List Nat) (hz : zs.length ≤ 10000) (hl : ls.length ≤ 3) (h9 : ∀ z ∈ zs, z < ls.length) :
    F_lifts_of_v2 [.stb (.lst ((zs.map numS).map .str)), .stb (houseI fl ls m so)] = .ok (.stb (.lst (nats zs))) [] := by
  have c := comp_all (fe := fFr (fCalO S.F_number_of 1 (fCons (fVar 3) fNil))) (i := 3) (ρ := [some (.stb (.lst ((zs.map numS).map .str))), some (.stb (houseI fl ls m so)), none, none, none]) (fun z : Nat => D.str (numS z)) (fun k : Nat => D.int (k : Int)) zs (by omega) (fun w hw => by
    have e := number_num w (by have := h9 w hw; omega)
    simp [e])
  have e0 : (zs.map fun z : Nat => D.str (numS z)) = (zs.map numS).map .str := by simp
  rw [e0, show (zs.map fun k : Nat => D.int (k : Int)) = nats zs from rfl] at c
  obtain ⟨ρ, e, u, hρ⟩ := forL_go (gt := gN 4) (body := L1_lifts_of_v2)
    (fun i ρ => ∃ u : Option O, ρ = [some (.stb (.lst ((zs.map numS).map .str))), some (.stb (houseI fl ls m so)), some (.stb (.lst (nats zs))), none, u])
    (ds := nats zs) (ρ := [some (.stb (.lst ((zs.map numS).map .str))), some (.stb (houseI fl ls m so)), some (.stb (.lst (nats zs))), none, none]) ⟨none, rfl⟩ (by
      rintro j d ρ hj ⟨u, rfl⟩
      obtain ⟨z, hzm, rfl⟩ := List.mem_map.mp (List.mem_of_getElem? hj)
      have hz' := h9 z hzm
      have ih1 : dIx (houseI fl ls m so) (.int 1) = some (.tup (ls.map liftD)) := rfl
      have bl : bLen [.tup (ls.map liftD)] = some (.int ls.length) := by simp
      have hlt : ¬ (ls.length : Int) ≤ (z : Int) := by omega
      generalize (zs.map numS).map D.str = sl at *
      generalize nats zs = nl at *
      generalize ls.map liftD = lsd at *
      generalize houseI fl ls m so = hh at *
      simp [L1_lifts_of_v2, ih1, bl, hlt, dIs, isNon])
  generalize (zs.map numS).map D.str = sl at *
  generalize nats zs = nl at *
  generalize houseI fl ls m so = hh at *
  subst hρ
  simp [F_lifts_of_v2, b_lifts_of_v2, c, e]
theorem both (T : Str) (hT : T.length ≤ 5000) (ho : okS T) (hf : 2 ≤ fl ∧ fl ≤ 8) (hl : 1 ≤ ls.length ∧ ls.length ≤ 3) :
    (∃ r d o, Rd fl ls.length T r d ∧ F__law_read_v2 [.stb (.str T), .stb (houseI fl ls m so)] = .ok o [] ∧ fr o = r ∧ F_dealer_of_v2 [.stb (.str T), .stb (houseI fl ls m so)] = .ok (.stb d) []) ∨
    (F__law_read_v2 [.stb (.str T), .stb (houseI fl ls m so)] = .ok (.stb .non) [] ∧ ∃ os, F_dealer_of_v2 [.stb (.str T), .stb (houseI fl ls m so)] = .exc ⟨4, []⟩ os) := by
  have i3 := in3 T ho
  have n1 := eqStr T (Str.ofString "near")
  have n2 := eqStr T (Str.ofString "least")
  have n3 := eqStr T (Str.ofString "turns")
  have hs := split_some T (by omega)
  have hsl := split_count T (Str.ofString " ")
  have hsn := split_nn T (Str.ofString " ")
  have hso := split_okS T (Str.ofString " ") ho
  have hslen := split_len T (Str.ofString " ")
  cases c1 : (T == Str.ofString "near") with
  | true =>
    rw [c1] at n1 i3
    have eT : T = Str.ofString "near" := by simpa using c1
    generalize houseI fl ls m so = hh at *
    generalize (Txt.split T (Str.ofString " ")).map D.str = wl at *
    exact .inl ⟨_, _, .tup [.stb (.str T), .lst []], .near eT, by simp [F__law_read_v2, b__law_read_v2, i3], rfl, by simp [F_dealer_of_v2, b_dealer_of_v2, hs, n1, F_near_dealer]⟩
  | false =>
  cases c2 : (T == Str.ofString "least") with
  | true =>
    rw [c1] at n1
    rw [c2] at n2
    rw [c1, c2] at i3
    have eT : T = Str.ofString "least" := by simpa using c2
    generalize houseI fl ls m so = hh at *
    generalize (Txt.split T (Str.ofString " ")).map D.str = wl at *
    exact .inl ⟨_, _, .tup [.stb (.str T), .lst []], .least eT, by simp [F__law_read_v2, b__law_read_v2, i3], rfl, by simp [F_dealer_of_v2, b_dealer_of_v2, hs, n1, n2, F_least_dealer]⟩
  | false =>
  cases c3 : (T == Str.ofString "turns") with
  | true =>
    rw [c1] at n1
    rw [c2] at n2
    rw [c3] at n3
    rw [c1, c2, c3] at i3
    have eT : T = Str.ofString "turns" := by simpa using c3
    generalize houseI fl ls m so = hh at *
    generalize (Txt.split T (Str.ofString " ")).map D.str = wl at *
    exact .inl ⟨_, _, .tup [.stb (.str T), .lst []], .turns eT, by simp [F__law_read_v2, b__law_read_v2, i3], rfl, by simp [F_dealer_of_v2, b_dealer_of_v2, hs, n1, n2, n3, F_turns_dealer]⟩
  | false =>
  rw [c1] at n1
  rw [c2] at n2
  rw [c3] at n3
  rw [c1, c2, c3] at i3
  obtain ⟨w0, rest, ew⟩ : ∃ w0 rest, Txt.split T (Str.ofString " ") = w0 :: rest := by
    cases h : Txt.split T (Str.ofString " ") with
    | nil => exact absurd h hsn
    | cons a b => exact ⟨a, b, rfl⟩
  rw [ew] at hs hsl hso hslen
  have ct : cutD ((w0 :: rest).map D.str) (some 1) none = rest.map .str := cut_tail (D.str w0) (rest.map .str)
  have hd : atI ((w0 :: rest).map D.str) 0 = some (.str w0) := at0
  have blw : bLen [.lst ((w0 :: rest).map D.str)] = some (.int (rest.length + 1)) := by simp
  have z1 := eqStr w0 (Str.ofString "zone")
  have z2 := eqStr w0 (Str.ofString "fixed")
  have ih0 : dIx (houseI fl ls m so) (.int 0) = some (.int fl) := by have : atI [D.int fl, .tup (ls.map liftD), .int m, .str so] 0 = some (.int fl) := at0; exact this
  have hrl : rest.length ≤ 9000 := by
    rw [List.length_cons] at hsl
    omega
  obtain ⟨rg, rb⟩ := read_loop (fl := fl) (m := m) (ls := ls) (so := so) T (w0 :: rest) hl rest [] none (by simp; omega) (fun w h => hso w (by simp [h]))
  by_cases hg : ∃ w ∈ rest, goodW ls.length w = false
  · -- some word is no lift's number
    right
    obtain ⟨ρ, er⟩ := rb hg
    obtain ⟨os, el⟩ := lifts2_bad (fl := fl) (m := m) (so := so) rest hl.2 hg (by omega) (fun w h => by have := hslen w (by simp [h]); omega)
    have er' : forL (gN 4) L1__law_read_v2 (rest.map .str) [some (.stb (.str T)), some (.stb (houseI fl ls m so)), some (.stb (.lst ((w0 :: rest).map .str))), some (.lst []), none] = .ret (.stb .non) ρ := er
    generalize (w0 :: rest).map D.str = wl at *
    generalize rest.map D.str = rl at *
    generalize houseI fl ls m so = hh at *
    refine ⟨by simp [F__law_read_v2, b__law_read_v2, i3, hs, ct, er'], ?_⟩
    cases k1 : (w0 == Str.ofString "zone") with
    | true =>
      rw [k1] at z1
      by_cases k2 : (rest.length : Int) + 1 = fl + 1
      · rw [k2] at blw
        exact ⟨_, by simp [F_dealer_of_v2, b_dealer_of_v2, hs, n1, n2, n3, hd, z1, blw, ih0, ct, el]; rfl⟩
      · have k4 : (w0 == Str.ofString "fixed") = false := by
          have e : w0 = Str.ofString "zone" := by simpa using k1
          rw [e]; decide +kernel
        rw [k4] at z2
        have k2' : ¬ (rest.length : Int) = fl := by omega
        exact ⟨_, by simp [F_dealer_of_v2, b_dealer_of_v2, hs, n1, n2, n3, hd, z1, z2, blw, ih0, k2']; rfl⟩
    | false =>
      rw [k1] at z1
      cases k3 : (w0 == Str.ofString "fixed") with
      | true =>
        rw [k3] at z2
        by_cases k4 : 1 < (rest.length : Int) + 1
        · by_cases k5 : (rest.length : Int) + 1 ≤ 10
          · exact ⟨_, by simp [F_dealer_of_v2, b_dealer_of_v2, hs, n1, n2, n3, hd, z1, z2, blw, k4, k5, ct, el]; rfl⟩
          · exact ⟨_, by simp [F_dealer_of_v2, b_dealer_of_v2, hs, n1, n2, n3, hd, z1, z2, blw, k4, k5]; rfl⟩
        · exact ⟨_, by simp [F_dealer_of_v2, b_dealer_of_v2, hs, n1, n2, n3, hd, z1, z2, blw, k4]; rfl⟩
      | false =>
        rw [k3] at z2
        exact ⟨_, by simp [F_dealer_of_v2, b_dealer_of_v2, hs, n1, n2, n3, hd, z1, z2]; rfl⟩
  · obtain ⟨zs, hz, ez⟩ := good_zs (n := ls.length) (ws := rest) (fun w h => by
      cases hw : goodW ls.length w with
      | true => rfl
      | false => exact absurd ⟨w, h, hw⟩ hg)
    obtain ⟨y4, er⟩ := rg zs hz ez
    subst ez
    rw [List.length_map] at blw hrl
    have el := lifts2_eq (fl := fl) (m := m) (so := so) zs (by omega) hl.2 hz
    have bln : bLen [.lst (nats zs)] = some (.int zs.length) := by simp [nats]
    have er' : forL (gN 4) L1__law_read_v2 ((zs.map numS).map .str) [some (.stb (.str T)), some (.stb (houseI fl ls m so)), some (.stb (.lst ((w0 :: zs.map numS).map .str))), some (.lst []), none] = .nxt [some (.stb (.str T)), some (.stb (houseI fl ls m so)), some (.stb (.lst ((w0 :: zs.map numS).map .str))), some (.lst (nats zs)), y4] := er
    clear er rg rb
    have zeq : ∀ r d, Rd fl ls.length T r d = Rd fl ls.length T r d := fun _ _ => rfl
    cases k1 : (w0 == Str.ofString "zone") with
    | true =>
      rw [k1] at z1
      by_cases k2 : (zs.length : Int) = fl
      · left
        refine ⟨_, _, .tup [.stb (.str (Str.ofString "zone")), .lst (nats zs)], .zone zs hz k2, ?_, rfl, ?_⟩
        · generalize (w0 :: zs.map numS).map D.str = wl at *
          generalize (zs.map numS).map D.str = rl at *
          generalize houseI fl ls m so = hh at *
          generalize nats zs = nl at *
          rw [k2] at bln
          simp [F__law_read_v2, b__law_read_v2, i3, hs, ct, er', hd, z1, ih0, bln]
        · generalize (w0 :: zs.map numS).map D.str = wl at *
          generalize (zs.map numS).map D.str = rl at *
          generalize houseI fl ls m so = hh at *
          generalize nats zs = nl at *
          rw [k2] at blw
          simp [F_dealer_of_v2, b_dealer_of_v2, hs, n1, n2, n3, hd, z1, blw, ih0, ct, el, F_zone_dealer]
      · right
        have k4 : (w0 == Str.ofString "fixed") = false := by
          have e : w0 = Str.ofString "zone" := by simpa using k1
          rw [e]; decide +kernel
        rw [k4] at z2
        generalize (w0 :: zs.map numS).map D.str = wl at *
        generalize (zs.map numS).map D.str = rl at *
        generalize houseI fl ls m so = hh at *
        generalize nats zs = nl at *
        refine ⟨?_, ?_⟩
        · simp [F__law_read_v2, b__law_read_v2, i3, hs, ct, er', hd, z1, z2, ih0, bln, k2]
        · exact ⟨_, by simp [F_dealer_of_v2, b_dealer_of_v2, hs, n1, n2, n3, hd, z1, z2, blw, ih0, k2]; rfl⟩
    | false =>
      rw [k1] at z1
      cases k3 : (w0 == Str.ofString "fixed") with
      | true =>
        rw [k3] at z2
        by_cases k5 : 1 ≤ zs.length ∧ zs.length ≤ 9
        · left
          have q1 : (1 : Int) ≤ zs.length := by omega
          have q2 : (zs.length : Int) ≤ 9 := by omega
          have q3 : (1 : Int) < (zs.length : Int) + 1 := by omega
          have q4 : (zs.length : Int) + 1 ≤ 10 := by omega
          refine ⟨_, _, .tup [.stb (.str (Str.ofString "fixed")), .lst (nats zs)], .fixed zs hz k5, ?_, rfl, ?_⟩
          · generalize (w0 :: zs.map numS).map D.str = wl at *
            generalize (zs.map numS).map D.str = rl at *
            generalize houseI fl ls m so = hh at *
            generalize nats zs = nl at *
            simp [F__law_read_v2, b__law_read_v2, i3, hs, ct, er', hd, z1, z2, ih0, bln, q1, q2]
          · generalize (w0 :: zs.map numS).map D.str = wl at *
            generalize (zs.map numS).map D.str = rl at *
            generalize houseI fl ls m so = hh at *
            generalize nats zs = nl at *
            simp [F_dealer_of_v2, b_dealer_of_v2, hs, n1, n2, n3, hd, z1, z2, blw, ih0, ct, el, q3, q4, F_fixed_dealer]
        · right
          generalize (w0 :: zs.map numS).map D.str = wl at *
          generalize (zs.map numS).map D.str = rl at *
          generalize houseI fl ls m so = hh at *
          generalize nats zs = nl at *
          by_cases q1 : (1 : Int) ≤ zs.length
          · have q2 : ¬ (zs.length : Int) ≤ 9 := by omega
            have q3 : (1 : Int) < (zs.length : Int) + 1 := by omega
            have q4 : ¬ (zs.length : Int) + 1 ≤ 10 := by omega
            refine ⟨?_, ?_⟩
            · simp [F__law_read_v2, b__law_read_v2, i3, hs, ct, er', hd, z1, z2, ih0, bln, q1, q2]
            · exact ⟨_, by simp [F_dealer_of_v2, b_dealer_of_v2, hs, n1, n2, n3, hd, z1, z2, blw, ih0, q3, q4]; rfl⟩
          · have q3 : ¬ (1 : Int) < (zs.length : Int) + 1 := by omega
            refine ⟨?_, ?_⟩
            · simp [F__law_read_v2, b__law_read_v2, i3, hs, ct, er', hd, z1, z2, ih0, bln, q1]
            · exact ⟨_, by simp [F_dealer_of_v2, b_dealer_of_v2, hs, n1, n2, n3, hd, z1, z2, blw, ih0, q3]; rfl⟩
      | false =>
        right
        rw [k3] at z2
        generalize (w0 :: zs.map numS).map D.str = wl at *
        generalize (zs.map numS).map D.str = rl at *
        generalize houseI fl ls m so = hh at *
        generalize nats zs = nl at *
        refine ⟨?_, ?_⟩
        · simp [F__law_read_v2, b__law_read_v2, i3, hs, ct, er', hd, z1, z2, ih0, bln]
        · exact ⟨_, by simp [F_dealer_of_v2, b_dealer_of_v2, hs, n1, n2, n3, hd, z1, z2]; rfl⟩
end
theorem cabin_of_eq (x : LWt) (h : -1000 ≤ x.1 ∧ x.1 ≤ 1000) : F_cabin_of [.stb (liftD x)] = .ok (.stb (cabE (2 * x.1, 0, 0, 0, []))) [] := by
  have m2 : dMul (.int 2) (.int x.1) = some (.int (2 * x.1)) := dMul_l (by omega) (by omega)
  have i0 : atI [D.int x.1, .int x.2.1, .int x.2.2.1, .str x.2.2.2] 0 = some (.int x.1) := at0
  simp [F_cabin_of, b_cabin_of, liftD, i0, m2, cabE]
theorem name4 : F__law_name_v3 [.stb (.fn 4 [])] = .ok (.stb (.tup [.str (Str.ofString "deal"), .int 0])) [] := by
  simp [F__law_name_v3, b__law_name_v3, K1__law_name_v3, whole_int, imm]
theorem refused (fl m : Int) (ls : List LWt) (so T : Str) (os : List O) (h : F_dealer_of_v2 [.stb (.str T), .stb (houseI fl ls m so)] = .exc ⟨4, []⟩ os) : F__law_refused_v2 [.stb (.str T), .stb (houseI fl ls m so)] = .ok (.stb (.bl true)) [] := by
  have n4 := name4
  have e : dEq (.tup [.str (Str.ofString "deal"), .int 0]) (.tup [.str (Str.ofString "deal"), .int 0]) = some (.bl true) := dEq_same (by
    have : PySem.PyData.strOk (Str.ofString "deal") = true := by decide +kernel
    simp [okD, okL, this])
  generalize houseI fl ls m so = hh at *
  simp [F__law_refused_v2, b__law_refused_v2, h, n4, e, dIsN, isNon]
theorem pair_turn (cs : List Cab) (l : Nat) : F__law_pair_is [.stb (turnV cs l), .stb (turnV cs l)] = .ok (.stb (.bl true)) [] := by
  unfold turnV
  by_cases c : behV cs l = -1
  · rw [if_pos c]; exact pair_is_eq _ _
  · rw [if_neg c]; exact pair_is_eq _ _
theorem step_ok {fl m : Int} {ls : List LWt} {so T : Str} {r d : D} (h : Rd fl ls.length T r d) (hf : 2 ≤ fl ∧ fl ≤ 8) (cs : List Cab) (hcl : cs.length = ls.length) (hl3 : cs.length ≤ 3) (hab : ∀ c ∈ cs, c.2.2.2.2.length ≤ 1000) (x : Rid) (s last : Nat) (hs : x.2.1 = (s : Int)) (hsf : (s : Int) < fl) (hlast : last < cs.length) (c5 c7 : D) (x6 : Option O) :
    L1__law_deals [some (.stb (.str T)), some (.stb r), some (.stb (houseI fl ls m so)), some (.stb (.int (last : Int))), some (.stb d), some (.stb c5), x6, some (.stb c7), some (.stb (.int (s : Int))), some (.stb (.lst [ridD x])), some (.stb (.lst (cs.map cabE)))] = .nxt [some (.stb (.str T)), some (.stb r), some (.stb (houseI fl ls m so)), some (.stb (.int (last : Int))), some (.stb d), some (.stb c5), x6, some (.stb c7), some (.stb (.int (s : Int))), some (.stb (.lst [ridD x])), some (.stb (.lst (cs.map cabE)))] := by
  have tb : ∀ F1 F2 F3 F4 F5 : List O → Rf, tabL [(100, F1), (101, F2), (102, F3), (103, F4), (104, F5)] 100 = some F1 ∧ tabL [(100, F1), (101, F2), (102, F3), (103, F4), (104, F5)] 101 = some F2 ∧ tabL [(100, F1), (101, F2), (102, F3), (103, F4), (104, F5)] 102 = some F3 ∧ tabL [(100, F1), (101, F2), (102, F3), (103, F4), (104, F5)] 103 = some F4 ∧ tabL [(100, F1), (101, F2), (102, F3), (103, F4), (104, F5)] 104 = some F5 := fun _ _ _ _ _ => ⟨rfl, rfl, rfl, rfl, rfl⟩
  have f1 := noFn_cabs cs
  have f3 := noFn_rid x
  have sf : ∀ xs : List D, seqD false xs = .lst xs := fun _ => rfl
  have rx : dIx (ridD x) (.int 1) = some (.int (s : Int)) := by have := rid_1 x; rw [← hs]; exact this
  have rx0 : dIx (ridD x) (.int 0) = some (.int x.1) := rid_0 x
  have b := behind_eq false cs last hl3 hlast
  have pt := pair_turn cs last
  have en := eqStr (Str.ofString "near") (Str.ofString "near")
  have bl := behind_law
  rw [sf] at b
  have b' := b
  rw [← bl] at b'
  cases h with
  | near e =>
    subst e
    have n1 := near_deal false cs (.lst [ridD x]) x (.int last) hl3 (by omega)
    have l1 := law_near_eq false cs x.2.1 hl3 (by omega)
    have p1 := pair_is_eq (pick (cand cs (nearW cs x.2.1))) last
    rw [show (Str.ofString "near" == Str.ofString "near") = true from by decide +kernel] at en
    rw [sf] at n1 l1
    rw [hs] at n1 l1 p1
    generalize pick (cand cs (nearW cs (s : Int))) = a at *
    generalize cs.map cabE = cl at *
    generalize ridD x = rd at *
    generalize houseI fl ls m so = hh at *
    simp [L1__law_deals, (tb _ _ _ _ _).1, noFnL, noFn, f1, f3, n1, F__law_due_v10, b__law_due_v10, en, rx, l1, p1]
  | least e =>
    subst e
    have n1 := least_deal false false cs [x] (ridD x) (.int last) hl3 (by simp) hab
    have l1 := law_least_eq false false cs [x] hl3 (by simp)
    have p1 := pair_is_eq (pick (cand cs (leastW cs [x.2.2.2]))) last
    have e1 := eqStr (Str.ofString "least") (Str.ofString "near")
    have e2 := eqStr (Str.ofString "least") (Str.ofString "least")
    rw [show (Str.ofString "least" == Str.ofString "near") = false from by decide +kernel] at e1
    rw [show (Str.ofString "least" == Str.ofString "least") = true from by decide +kernel] at e2
    rw [sf] at n1 l1
    rw [sf] at n1 l1
    simp only [List.map_cons, List.map_nil] at n1 l1
    generalize pick (cand cs (leastW cs [x.2.2.2])) = a at *
    generalize cs.map cabE = cl at *
    generalize ridD x = rd at *
    generalize houseI fl ls m so = hh at *
    simp [L1__law_deals, (tb _ _ _ _ _).2.1, noFnL, noFn, f1, f3, n1, F__law_due_v10, b__law_due_v10, e1, e2, l1, p1]
  | turns e =>
    subst e
    have n1 := turns_deal false cs (.lst [ridD x]) (ridD x) last hl3 hlast
    have e1 := eqStr (Str.ofString "turns") (Str.ofString "near")
    have e2 := eqStr (Str.ofString "turns") (Str.ofString "least")
    have e3 := eqStr (Str.ofString "turns") (Str.ofString "turns")
    rw [show (Str.ofString "turns" == Str.ofString "near") = false from by decide +kernel] at e1
    rw [show (Str.ofString "turns" == Str.ofString "least") = false from by decide +kernel] at e2
    rw [show (Str.ofString "turns" == Str.ofString "turns") = true from by decide +kernel] at e3
    rw [sf] at n1
    unfold turnV at n1 pt
    generalize behV cs last = a at *
    generalize cs.map cabE = cl at *
    generalize ridD x = rd at *
    generalize houseI fl ls m so = hh at *
    by_cases c : a = -1
    · rw [if_pos c] at n1 pt
      rw [c] at b'
      simp [L1__law_deals, (tb _ _ _ _ _).2.2.1, noFnL, noFn, f1, f3, n1, F__law_due_v10, b__law_due_v10, e1, e2, e3, b', pt, dNeg]
    · rw [if_neg c] at n1 pt
      simp [L1__law_deals, (tb _ _ _ _ _).2.2.1, noFnL, noFn, f1, f3, n1, F__law_due_v10, b__law_due_v10, e1, e2, e3, b', pt, dNeg, c]
  | zone zs hz hzl =>
    have hsz : s < zs.length := by omega
    have hzz : zs[s]? = some zs[s] := List.getElem?_eq_getElem hsz
    have hzk := hz _ (List.getElem_mem hsz)
    generalize zs[s] = z at *
    have n1 := zone_deal false cs (.lst [ridD x]) (.int last) x zs s z hl3 hs hzz (by omega)
    have a1 := (at_eq false cs z hl3 (by omega)).2
    have i1 := nats_ix zs s z hzz
    have p1 := pair_is_eq (atV cs z) last
    have nn : noFnL (nats zs) = true := noFnL_iff.mpr fun x hx => by
      obtain ⟨k, _, rfl⟩ := List.mem_map.mp hx
      simp [noFn]
    have e1 := eqStr (Str.ofString "zone") (Str.ofString "near")
    have e2 := eqStr (Str.ofString "zone") (Str.ofString "least")
    have e3 := eqStr (Str.ofString "zone") (Str.ofString "turns")
    have e4 := eqStr (Str.ofString "zone") (Str.ofString "zone")
    rw [show (Str.ofString "zone" == Str.ofString "near") = false from by decide +kernel] at e1
    rw [show (Str.ofString "zone" == Str.ofString "least") = false from by decide +kernel] at e2
    rw [show (Str.ofString "zone" == Str.ofString "turns") = false from by decide +kernel] at e3
    rw [show (Str.ofString "zone" == Str.ofString "zone") = true from by decide +kernel] at e4
    rw [sf] at n1 a1
    generalize nats zs = zl at *
    generalize atV cs z = v at *
    generalize behV cs last = a at *
    generalize cs.map cabE = cl at *
    generalize ridD x = rd at *
    generalize houseI fl ls m so = hh at *
    simp [L1__law_deals, (tb _ _ _ _ _).2.2.2.1, noFnL, noFn, f1, f3, nn, n1, F__law_due_v10, b__law_due_v10, e1, e2, e3, e4, b', rx, i1, a1, p1]
  | fixed zs hz hzl =>
    have hm0 := Int.emod_nonneg x.1 (show (zs.length : Int) ≠ 0 by omega)
    have hm1 := Int.emod_lt_of_pos x.1 (show 0 < (zs.length : Int) by omega)
    have hfi : (x.1 % (zs.length : Int)).toNat < zs.length := by omega
    have hff : zs[(x.1 % (zs.length : Int)).toNat]? = some (zs[(x.1 % (zs.length : Int)).toNat]'hfi) := List.getElem?_eq_getElem hfi
    have hzk := hz _ (List.getElem_mem hfi)
    generalize zs[(x.1 % (zs.length : Int)).toNat]'hfi = z at *
    have n1 := fixed_deal false cs (.lst [ridD x]) (.int last) x zs z hl3 (by omega) hff (by omega)
    have a1 := (at_eq false cs z hl3 (by omega)).2
    have i1 := nats_ix zs _ z hff
    have e0 : (((x.1 % (zs.length : Int)).toNat : Nat) : Int) = x.1 % (zs.length : Int) := by omega
    rw [e0] at i1
    have md : dMod (.int x.1) (.int (zs.length : Int)) = some (.int (x.1 % (zs.length : Int))) := dMod_pos (by omega)
    have bln : bLen [.lst (nats zs)] = some (.int zs.length) := by simp [nats]
    have p1 := pair_is_eq (atV cs z) last
    have nn : noFnL (nats zs) = true := noFnL_iff.mpr fun x hx => by
      obtain ⟨k, _, rfl⟩ := List.mem_map.mp hx
      simp [noFn]
    have e1 := eqStr (Str.ofString "fixed") (Str.ofString "near")
    have e2 := eqStr (Str.ofString "fixed") (Str.ofString "least")
    have e3 := eqStr (Str.ofString "fixed") (Str.ofString "turns")
    have e4 := eqStr (Str.ofString "fixed") (Str.ofString "zone")
    rw [show (Str.ofString "fixed" == Str.ofString "near") = false from by decide +kernel] at e1
    rw [show (Str.ofString "fixed" == Str.ofString "least") = false from by decide +kernel] at e2
    rw [show (Str.ofString "fixed" == Str.ofString "turns") = false from by decide +kernel] at e3
    rw [show (Str.ofString "fixed" == Str.ofString "zone") = false from by decide +kernel] at e4
    rw [sf] at n1 a1
    generalize nats zs = zl at *
    generalize atV cs z = v at *
    generalize behV cs last = a at *
    generalize cs.map cabE = cl at *
    generalize ridD x = rd at *
    generalize houseI fl ls m so = hh at *
    simp [L1__law_deals, (tb _ _ _ _ _).2.2.2.2, noFnL, noFn, f1, f3, nn, n1, F__law_due_v10, b__law_due_v10, e1, e2, e3, e4, b', rx0, bln, md, i1, a1, p1]
theorem mark_cut (p : Int) : cutD [D.int p, .int 0, .int 0, .int 0, .tup []] none (some 3) = [.int p, .int 0, .int 0] ∧ cutD [D.int p, .int 0, .int 0, .int 0, .tup []] (some 4) none = [.tup []] := ⟨rfl, rfl⟩
theorem deals_ok {fl m : Int} {ls : List LWt} {so T : Str} {r d : D} (h : Rd fl ls.length T r d) (hf : 2 ≤ fl ∧ fl ≤ 8) (hl : 1 ≤ ls.length ∧ ls.length ≤ 3) (hg : ls.all (goodL fl) = true) (last : Nat) (hlast : last < ls.length)
    (ed : F_dealer_of_v2 [.stb (.str T), .stb (houseI fl ls m so)] = .ok (.stb d) []) : F__law_deals [.stb (.str T), .stb r, .stb (houseI fl ls m so), .stb (.int (last : Int))] = .ok (.stb (.bl true)) [] := by
  obtain ⟨x0, xs, rfl⟩ : ∃ x xs, ls = x :: xs := by
    cases ls with
    | nil => simp at hl
    | cons a b => exact ⟨a, b, rfl⟩
  have hst : ∀ x ∈ x0 :: xs, 0 ≤ x.1 ∧ x.1 < fl := fun x hx => by
    have := List.all_eq_true.mp hg x hx
    unfold goodL at this
    simp at this
    omega
  let g : LWt → Cab := fun x => (2 * x.1, 0, 0, 0, [])
  have c := comp_all (fe := fFr (fCalO S.F_cabin_of 1 (fCons (fVar 6) fNil))) (i := 6) (ρ := [some (.stb (.str T)), some (.stb r), some (.stb (houseI fl (x0 :: xs) m so)), some (.stb (.int (last : Int))), some (.stb d), none, none, none, none, none, none]) liftD (fun x => cabE (g x)) (x0 :: xs) (by simp at hl ⊢; omega) (fun x hx => by
    have := hst x hx
    have e := cabin_of_eq x (by omega)
    generalize houseI fl (x0 :: xs) m so = hh at *
    generalize liftD x = lx at *
    simp [e, g])
  have e1 : ((x0 :: xs).map fun x => cabE (g x)) = ((x0 :: xs).map g).map cabE := by rw [List.map_map]; rfl
  rw [e1] at c
  let cs1 : List Cab := (x0 :: xs).map g
  let cs2 : List Cab := (2 * x0.1, 0, 0, 2, []) :: xs.map g
  have hab1 : ∀ c ∈ cs1, c.2.2.2.2.length ≤ 1000 := fun c hc => by
    obtain ⟨x, _, rfl⟩ := List.mem_map.mp hc
    simp [g]
  have hab2 : ∀ c ∈ cs2, c.2.2.2.2.length ≤ 1000 := fun c hc => by
    rcases List.mem_cons.mp hc with rfl | hc
    · simp
    · obtain ⟨x, _, rfl⟩ := List.mem_map.mp hc
      simp [g]
  have lc1 : cs1.length = (x0 :: xs).length := by simp [cs1]
  have lc2 : cs2.length = (x0 :: xs).length := by simp [cs2]
  -- the loop
  obtain ⟨ρ, e, y8, y9, y10, hρ⟩ := forL_go (gt := gN 8) (body := L2__law_deals)
    (fun i ρ => ∃ y8 y9 y10 : Option O, ρ = [some (.stb (.str T)), some (.stb r), some (.stb (houseI fl (x0 :: xs) m so)), some (.stb (.int (last : Int))), some (.stb d), some (.stb (.lst (cs1.map cabE))), none, some (.stb (.lst (cs2.map cabE))), y8, y9, y10])
    (ds := rngD 0 fl.toNat) (ρ := [some (.stb (.str T)), some (.stb r), some (.stb (houseI fl (x0 :: xs) m so)), some (.stb (.int (last : Int))), some (.stb d), some (.stb (.lst (cs1.map cabE))), none, some (.stb (.lst (cs2.map cabE))), none, none, none]) ⟨none, none, none, rfl⟩ (by
      rintro j dd ρ hj ⟨y8, y9, y10, rfl⟩
      obtain ⟨s, hs, rfl⟩ := mem_rng (List.mem_of_getElem? hj)
      have m3 : dMul (.int 3) (.int (last : Int)) = some (.int (3 * (last : Int))) := dMul_l (by omega) (by omega)
      have ih0 : dIx (houseI fl (x0 :: xs) m so) (.int 0) = some (.int fl) := by have : atI [D.int fl, .tup ((x0 :: xs).map liftD), .int m, .str so] 0 = some (.int fl) := at0; exact this
      have md : dMod (.int ((s : Int) + 1)) (.int fl) = some (.int (((s : Int) + 1) % fl)) := dMod_pos (by omega)
      have s1 := step_ok (m := m) (so := so) h hf cs1 lc1 (by omega) hab1 ((s : Int) + 3 * last, s, ((s : Int) + 1) % fl, -1) s last rfl (by omega) (by omega) (.lst (cs1.map cabE)) (.lst (cs2.map cabE)) none
      have s2 := step_ok (m := m) (so := so) h hf cs2 lc2 (by omega) hab2 ((s : Int) + 3 * last, s, ((s : Int) + 1) % fl, -1) s last rfl (by omega) (by omega) (.lst (cs1.map cabE)) (.lst (cs2.map cabE)) none
      have er : ridD ((s : Int) + 3 * last, (s : Int), ((s : Int) + 1) % fl, -1) = .tup [.int ((s : Int) + 3 * last), .int s, .int (((s : Int) + 1) % fl), .int (-1)] := rfl
      rw [er] at s1 s2
      generalize cs1.map cabE = c1 at *
      generalize cs2.map cabE = c2 at *
      generalize houseI fl (x0 :: xs) m so = hh at *
      simp [L2__law_deals, m3, ih0, md, dNeg, forL_cons', s1, s2])
  have gr : gRng1 [.int fl] = some (rngD 0 fl.toNat) := gRng1_int (by omega) (by omega)
  have ih0 : dIx (houseI fl (x0 :: xs) m so) (.int 0) = some (.int fl) := by have : atI [D.int fl, .tup ((x0 :: xs).map liftD), .int m, .str so] 0 = some (.int fl) := at0; exact this
  have ih1 : dIx (houseI fl (x0 :: xs) m so) (.int 1) = some (.tup ((x0 :: xs).map liftD)) := rfl
  have em : cs1.map cabE = .tup [.int (2 * x0.1), .int 0, .int 0, .int 0, .tup []] :: (xs.map g).map cabE := rfl
  have em2 : cs2.map cabE = .tup [.int (2 * x0.1), .int 0, .int 0, .int 2, .tup []] :: (xs.map g).map cabE := rfl
  have mc := mark_cut (2 * x0.1)
  have ct := cut_tail (.tup [.int (2 * x0.1), .int 0, .int 0, .int 0, .tup []]) ((xs.map g).map cabE)
  have la : 1 + ((xs.map g).map cabE).length ≤ LIM := by
    unfold LIM
    simp at hl ⊢
    omega
  change compL _ _ _ _ _ _ _ = Rs.ok (.lst (cs1.map cabE)) _ at c
  rw [em] at c e
  rw [em, em2] at hρ
  rw [em2] at e
  have ad : dAdd (.lst [.tup [.int (2 * x0.1), .int 0, .int 0, .int 2, .tup []]]) (.lst ((xs.map g).map cabE)) = some (.lst (.tup [.int (2 * x0.1), .int 0, .int 0, .int 2, .tup []] :: (xs.map g).map cabE)) := by
    simp [dAdd] at la ⊢
    exact la
  have i0 : atI (D.tup [.int (2 * x0.1), .int 0, .int 0, .int 0, .tup []] :: (xs.map g).map cabE) 0 = some (.tup [.int (2 * x0.1), .int 0, .int 0, .int 0, .tup []]) := at0
  clear_value g
  generalize (xs.map g).map cabE = rc at *
  generalize (x0 :: xs).map liftD = lsd at *
  generalize houseI fl (x0 :: xs) m so = hh at *
  subst hρ
  simp [F__law_deals, b__law_deals, ed, ih1, c, i0, mc.1, mc.2, ct, ad, ih0, gr, e]
theorem dealer_turns2 (h : D) : F_dealer_of_v2 [.stb (.str (Str.ofString "turns")), .stb h] = .ok (.stb (.fn 102 [])) [] := by
  have e := split_some (Str.ofString "turns") (by decide)
  have e1 := eqStr (Str.ofString "turns") (Str.ofString "near")
  have e2 := eqStr (Str.ofString "turns") (Str.ofString "least")
  have e3 := eqStr (Str.ofString "turns") (Str.ofString "turns")
  rw [show (Str.ofString "turns" == Str.ofString "near") = false from by decide +kernel] at e1
  rw [show (Str.ofString "turns" == Str.ofString "least") = false from by decide +kernel] at e2
  rw [show (Str.ofString "turns" == Str.ofString "turns") = true from by decide +kernel] at e3
  simp [F_dealer_of_v2, b_dealer_of_v2, e, e1, e2, e3, F_turns_dealer]
theorem law_eq (ns : List Int) (hl : ns.length ≤ 63) (hb : ∀ z ∈ ns, Builtin.Int.intBits z ≤ 1048576) : F_law_k32 [.stb (.scr ns)] = .ok (.stb (.bl true)) [] := by
  obtain ⟨fl, ls, m, so, hg, _, _, eh⟩ := house_ex ns 3 (by omega)
  obtain ⟨hf, hl1, hm, hso, hal⟩ := hg
  obtain ⟨T0, t1, t2, t3, et⟩ := drawn_ex hb fl m ls so hf hl1
  obtain ⟨T, u1, u2, eb⟩ := bent_ex ns T0 t2 t1 t3
  have e1 := drw_eq ns 19 60107 ls.length (by omega) (by omega) (by omega) (by omega)
  have b1 : 0 ≤ drwAt ns 19 60107 ls.length ∧ drwAt ns 19 60107 ls.length < ls.length := ⟨drwAt_nn ns _ _ (by omega), drwAt_lt ns _ _ (by omega)⟩
  generalize drwAt ns 19 60107 ls.length = q at *
  obtain ⟨last, rfl⟩ : ∃ n : Nat, q = (n : Int) := ⟨q.toNat, by omega⟩
  have ih1 : dIx (houseI fl ls m so) (.int 1) = some (.tup (ls.map liftD)) := rfl
  have bll : bLen [.tup (ls.map liftD)] = some (.int ls.length) := by simp
  have dt := deals_ok (m := m) (so := so) (ls := ls) (.turns rfl) hf hl1 hal last (by omega) (dealer_turns2 _)
  rcases both (fl := fl) (m := m) (ls := ls) (so := so) T u1 u2 hf hl1 with ⟨r, d, o, hr, er, fo, ed⟩ | ⟨er, os, ed⟩
  · have d1 := deals_ok (m := m) (so := so) hr hf hl1 hal last (by omega) ed
    have d2 := deals_ok (m := m) (so := so) hr hf hl1 hal 0 (by omega) ed
    have hn : dIsN r .non = some (.bl true) := by cases hr <;> rfl
    have d2' : F__law_deals [.stb (.str T), .stb r, .stb (houseI fl ls m so), .stb (.int 0)] = .ok (.stb (.bl true)) [] := d2
    generalize ls.map liftD = lsd at *
    generalize houseI fl ls m so = hh at *
    simp [F_law_k32, b_law_k32, eh, et, eb, er, fo, ih1, bll, e1, hn, d1, d2']
  · have rf := refused fl m ls so T os ed
    have hn : dIsN .non .non = some (.bl false) := rfl
    generalize ls.map liftD = lsd at *
    generalize houseI fl ls m so = hh at *
    simp [F_law_k32, b_law_k32, eh, et, eb, er, ih1, bll, e1, hn, rf, dt]
end Lf.k32

namespace Lf.k32
open PySem L2 PyProof.Rows
theorem walk {l : PySem.W.OpenLaw} {q : Program} {loose : List Str} {XP : (Str → Option Value) → Heap → Prop} {YP : World → Heap → Prop} {d : DefRec} {K : Params → PySem.W.Frag} (hn : l.most = some 63) (hdf : d.params.defaults = [])
    (hY : ∀ (w : World) (h : Heap), YP w h → (K w.params).In h)
    (F : ∀ (w : World) (mg : Str → Option Value) (fa : Addr) (h : Heap), YP w h → (K w.params).In h → h.Ns mainGlobals mg → mg d.name = some (.ref fa) → (∀ ns : List Int, ns.length ≤ 63 → (∀ z ∈ ns, Builtin.Int.intBits z ≤ 1048576) → S.F_law_k32 [.stb (.scr ns)] = .ok (.stb (.bl true)) []) → LamX.LawAtS l w (K w.params) (L2N.CX l.prog w) 5 63 "_law_script" mg fa h) :
    PySem.W.WalkO q loose XP YP l.row.toRowW d [] (fun f vs => PySem.call f vs) :=
  walk_ofMk hn (by decide) hdf ⟨rfl, by decide, by decide⟩ hY (fun w mg fa h Y KX N hmg => F w mg fa h Y KX N hmg fun ns hl hb => law_eq ns hl hb) fun w H s e s' z => no_cx z

end Lf.k32
open PySem PySem.W PyProof.Rows in
set_option maxRecDepth 100000 in
set_option maxHeartbeats 0 in
theorem PySem.Challenge.cw_liftcourt_k32_dealers_read_holds : PySem.Challenge.rw_liftcourt_k32_dealers_read.Holds := by
  w_on; o_law; k_head; (case hw => w_witness2)
  k_fill
  refine Lf.k32.walk (l := PySem.Challenge.rw_liftcourt_k32_dealers_read) rfl rfl (fun w h Y => PySem.W.km_in_of Y) ?F
  case F =>
    intro w mg fa h Y KX N hmg law
    refine' Lf.k32.all_mk KX N hmg (PySem.W.km_tabs_of Y) ?eC_CourtError ?eb_CourtError ?et_CourtError ?eC_NoDeal ?eb_NoDeal ?et_NoDeal ?eC_NoFloor ?eb_NoFloor ?et_NoFloor ?eC_NoLift ?eb_NoLift ?et_NoLift ?eC_Twice ?eb_Twice ?et_Twice ?eh_CourtError ?es_CourtError_NoDeal ?eq_NoDeal ?ek_NoDeal ?xg_NoFloor ?xk_NoFloor ?eh_NoFloor ?nf_NoFloor_floor ?xg_NoLift ?xk_NoLift ?eh_NoLift ?nf_NoLift_lift ?xg_Twice ?xk_Twice ?eh_Twice ?nf_Twice_tag ?eC_NoHouse ?et_NoHouse ?eh_NoHouse ?es_NoHouse_NoHouse ?eC_NoRule ?et_NoRule ?eh_NoRule ?es_NoRule_NoRule ?eh_NoDeal ?es_NoDeal_NoDeal ?eC_NoDeed ?et_NoDeed ?eh_NoDeed ?es_NoDeed_NoDeed ?eC_NoRide ?et_NoRide ?eh_NoRide ?es_NoRide_NoRide ?eC_NoIll ?et_NoIll ?eh_NoIll ?es_NoIll_NoIll ?eC_NoLine ?et_NoLine ?eh_NoLine ?es_NoLine_NoLine ?eC_Empty ?et_Empty ?eh_Empty ?es_Empty_Empty ?es_NoFloor_NoFloor ?es_NoLift_NoLift ?es_Twice_Twice ?eC_TooMany ?et_TooMany ?eh_TooMany ?es_TooMany_TooMany ?i_n ?i_t ?xg_NoDeal ?xk_NoDeal ?xa_NoDeal ?xm_NoDeal ?es_NoHouse_NoDeal ?es_NoRule_NoDeal ?es_NoDeed_NoDeal ?es_NoRide_NoDeal ?es_NoIll_NoDeal ?es_NoLine_NoDeal ?es_Empty_NoDeal ?es_NoFloor_NoDeal ?es_NoLift_NoDeal ?es_Twice_NoDeal ?es_TooMany_NoDeal ?ev_ValueError_NoDeal ?a0 ?l0 ?c0 ?k0 ?a1 ?l1 ?c1 ?k1 ?a2 ?l2 ?c2 ?k2 ?a3 ?l3 ?c3 ?k3 ?a4 ?l4 ?c4 ?k4 ?a5 ?l5 ?c5 ?k5 ?a6 ?l6 ?c6 ?k6 ?a7 ?l7 ?c7 ?k7 ?a8 ?l8 ?c8 ?k8 ?nlc_8 ?nlv_8 ?nhc_8 ?ntm_8 ?ntn_8 ?a9 ?l9 ?c9 ?k9 ?a10 ?l10 ?c10 ?k10 ?a12 ?l12 ?c12 ?k12 ?nlc_12 ?nlv_12 ?nhc_12 ?ntm_12 ?ntn_12 ?a14 ?l14 ?c14 ?k14 ?nlc_14 ?nlv_14 ?nhc_14 ?ntm_14 ?ntn_14 ?a15 ?l15 ?c15 ?k15 ?a17 ?l17 ?c17 ?k17 ?nlc_17 ?nlv_17 ?nhc_17 ?ntm_17 ?ntn_17 ?a18 ?l18 ?c18 ?k18 ?a20 ?l20 ?c20 ?k20 ?a21 ?l21 ?c21 ?k21 ?a22 ?l22 ?c22 ?k22 ?nlc_22 ?nlv_22 ?nhc_22 ?ntm_22 ?ntn_22 ?a24 ?l24 ?c24 ?k24 ?a25 ?l25 ?c25 ?k25 ?a26 ?l26 ?c26 ?k26 ?a27 ?l27 ?c27 ?k27 ?a28 ?l28 ?c28 ?k28 ?a29 ?l29 ?c29 ?k29 ?a30 ?l30 ?c30 ?k30 ?a31 ?l31 ?c31 ?k31 ?a32 ?l32 ?c32 ?k32 ?a33 ?l33 ?c33 ?k33 ?a34 ?l34 ?c34 ?k34 ?a35 ?l35 ?c35 ?k35 ?a36 ?l36 ?c36 ?k36 ?a37 ?l37 ?c37 ?k37 ?z_ValueError ?z_abs ?z_bool ?z_int ?z_isinstance ?z_len ?z_range ?z_str ?z_tuple ?c_FIGURES ?c_MOST_FIGURES ?c_MOST_FIXED ?tnd law
    (case eC_CourtError => k_is)
    (case eb_CourtError => k_is)
    (case et_CourtError => k_is)
    (case eC_NoDeal => k_is)
    (case eb_NoDeal => k_is)
    (case et_NoDeal => k_is)
    (case eC_NoFloor => k_is)
    (case eb_NoFloor => k_is)
    (case et_NoFloor => k_is)
    (case eC_NoLift => k_is)
    (case eb_NoLift => k_is)
    (case et_NoLift => k_is)
    (case eC_Twice => k_is)
    (case eb_Twice => k_is)
    (case et_Twice => k_is)
    (case eh_CourtError => k_is)
    (case es_CourtError_NoDeal => k_is)
    (case eq_NoDeal => k_exc)
    (case ek_NoDeal => k_is)
    (case xg_NoFloor => k_is)
    (case xk_NoFloor => k_is)
    (case eh_NoFloor => k_is)
    (case nf_NoFloor_floor => k_is)
    (case xg_NoLift => k_is)
    (case xk_NoLift => k_is)
    (case eh_NoLift => k_is)
    (case nf_NoLift_lift => k_is)
    (case xg_Twice => k_is)
    (case xk_Twice => k_is)
    (case eh_Twice => k_is)
    (case nf_Twice_tag => k_is)
    (case eC_NoHouse => k_is)
    (case et_NoHouse => k_is)
    (case eh_NoHouse => k_is)
    (case es_NoHouse_NoHouse => k_is)
    (case eC_NoRule => k_is)
    (case et_NoRule => k_is)
    (case eh_NoRule => k_is)
    (case es_NoRule_NoRule => k_is)
    (case eh_NoDeal => k_is)
    (case es_NoDeal_NoDeal => k_is)
    (case eC_NoDeed => k_is)
    (case et_NoDeed => k_is)
    (case eh_NoDeed => k_is)
    (case es_NoDeed_NoDeed => k_is)
    (case eC_NoRide => k_is)
    (case et_NoRide => k_is)
    (case eh_NoRide => k_is)
    (case es_NoRide_NoRide => k_is)
    (case eC_NoIll => k_is)
    (case et_NoIll => k_is)
    (case eh_NoIll => k_is)
    (case es_NoIll_NoIll => k_is)
    (case eC_NoLine => k_is)
    (case et_NoLine => k_is)
    (case eh_NoLine => k_is)
    (case es_NoLine_NoLine => k_is)
    (case eC_Empty => k_is)
    (case et_Empty => k_is)
    (case eh_Empty => k_is)
    (case es_Empty_Empty => k_is)
    (case es_NoFloor_NoFloor => k_is)
    (case es_NoLift_NoLift => k_is)
    (case es_Twice_Twice => k_is)
    (case eC_TooMany => k_is)
    (case et_TooMany => k_is)
    (case eh_TooMany => k_is)
    (case es_TooMany_TooMany => k_is)
    (case i_n => k_is)
    (case i_t => k_is)
    (case xg_NoDeal => k_is)
    (case xk_NoDeal => k_is)
    (case xa_NoDeal => k_is)
    (case xm_NoDeal => k_is)
    (case es_NoHouse_NoDeal => k_is)
    (case es_NoRule_NoDeal => k_is)
    (case es_NoDeed_NoDeal => k_is)
    (case es_NoRide_NoDeal => k_is)
    (case es_NoIll_NoDeal => k_is)
    (case es_NoLine_NoDeal => k_is)
    (case es_Empty_NoDeal => k_is)
    (case es_NoFloor_NoDeal => k_is)
    (case es_NoLift_NoDeal => k_is)
    (case es_Twice_NoDeal => k_is)
    (case es_TooMany_NoDeal => k_is)
    (case ev_ValueError_NoDeal => k_is)
    (case a0 => k_is)
    (case l0 => k_is)
    (case c0 => k_is)
    (case k0 => k_is)
    (case a1 => k_is)
    (case l1 => k_is)
    (case c1 => k_is)
    (case k1 => k_is)
    (case a2 => k_is)
    (case l2 => k_is)
    (case c2 => k_is)
    (case k2 => k_is)
    (case a3 => k_is)
    (case l3 => k_is)
    (case c3 => k_is)
    (case k3 => k_is)
    (case a4 => k_is)
    (case l4 => k_is)
    (case c4 => k_is)
    (case k4 => k_is)
    (case a5 => k_is)
    (case l5 => k_is)
    (case c5 => k_is)
    (case k5 => k_is)
    (case a6 => k_is)
    (case l6 => k_is)
    (case c6 => k_is)
    (case k6 => k_is)
    (case a7 => k_is)
    (case l7 => k_is)
    (case c7 => k_is)
    (case k7 => k_is)
    (case a8 => k_is)
    (case l8 => k_is)
    (case c8 => k_is)
    (case k8 => k_is)
    (case nlc_8 => k_is)
    (case nlv_8 => rfl)
    (case nhc_8 => kernel_rfl)
    (case ntm_8 => decide)
    (case ntn_8 => kernel_rfl)
    (case a9 => k_is)
    (case l9 => k_is)
    (case c9 => k_is)
    (case k9 => k_is)
    (case a10 => k_is)
    (case l10 => k_is)
    (case c10 => k_is)
    (case k10 => k_is)
    (case a12 => k_is)
    (case l12 => k_is)
    (case c12 => k_is)
    (case k12 => k_is)
    (case nlc_12 => k_is)
    (case nlv_12 => rfl)
    (case nhc_12 => kernel_rfl)
    (case ntm_12 => decide)
    (case ntn_12 => kernel_rfl)
    (case a14 => k_is)
    (case l14 => k_is)
    (case c14 => k_is)
    (case k14 => k_is)
    (case nlc_14 => k_is)
    (case nlv_14 => rfl)
    (case nhc_14 => kernel_rfl)
    (case ntm_14 => decide)
    (case ntn_14 => kernel_rfl)
    (case a15 => k_is)
    (case l15 => k_is)
    (case c15 => k_is)
    (case k15 => k_is)
    (case a17 => k_is)
    (case l17 => k_is)
    (case c17 => k_is)
    (case k17 => k_is)
    (case nlc_17 => k_is)
    (case nlv_17 => rfl)
    (case nhc_17 => kernel_rfl)
    (case ntm_17 => decide)
    (case ntn_17 => kernel_rfl)
    (case a18 => k_is)
    (case l18 => k_is)
    (case c18 => k_is)
    (case k18 => k_is)
    (case a20 => k_is)
    (case l20 => k_is)
    (case c20 => k_is)
    (case k20 => k_is)
    (case a21 => k_is)
    (case l21 => k_is)
    (case c21 => k_is)
    (case k21 => k_is)
    (case a22 => k_is)
    (case l22 => k_is)
    (case c22 => k_is)
    (case k22 => k_is)
    (case nlc_22 => k_is)
    (case nlv_22 => rfl)
    (case nhc_22 => kernel_rfl)
    (case ntm_22 => decide)
    (case ntn_22 => kernel_rfl)
    (case a24 => k_is)
    (case l24 => k_is)
    (case c24 => k_is)
    (case k24 => k_is)
    (case a25 => k_is)
    (case l25 => k_is)
    (case c25 => k_is)
    (case k25 => k_is)
    (case a26 => k_is)
    (case l26 => k_is)
    (case c26 => k_is)
    (case k26 => k_is)
    (case a27 => k_is)
    (case l27 => k_is)
    (case c27 => k_is)
    (case k27 => k_is)
    (case a28 => k_is)
    (case l28 => k_is)
    (case c28 => k_is)
    (case k28 => k_is)
    (case a29 => k_is)
    (case l29 => k_is)
    (case c29 => k_is)
    (case k29 => k_is)
    (case a30 => k_is)
    (case l30 => k_is)
    (case c30 => k_is)
    (case k30 => k_is)
    (case a31 => k_is)
    (case l31 => k_is)
    (case c31 => k_is)
    (case k31 => k_is)
    (case a32 => k_is)
    (case l32 => k_is)
    (case c32 => k_is)
    (case k32 => k_is)
    (case a33 => k_is)
    (case l33 => k_is)
    (case c33 => k_is)
    (case k33 => k_is)
    (case a34 => k_is)
    (case l34 => k_is)
    (case c34 => k_is)
    (case k34 => k_is)
    (case a35 => k_is)
    (case l35 => k_is)
    (case c35 => k_is)
    (case k35 => k_is)
    (case a36 => k_is)
    (case l36 => k_is)
    (case c36 => k_is)
    (case k36 => k_is)
    (case a37 => k_is)
    (case l37 => k_is)
    (case c37 => k_is)
    (case k37 => k_is)
    (case z_ValueError => k_is)
    (case z_abs => k_is)
    (case z_bool => k_is)
    (case z_int => k_is)
    (case z_isinstance => k_is)
    (case z_len => k_is)
    (case z_range => k_is)
    (case z_str => k_is)
    (case z_tuple => k_is)
    (case c_FIGURES => k_is)
    (case c_MOST_FIGURES => k_is)
    (case c_MOST_FIXED => k_is)
    (case tnd => decide)

