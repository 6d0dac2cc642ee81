import PyProof.Rows.All
import Wide.All
import OpenK.AllK
import Wide.FinOn
import PySem.Challenge.RW_np0198_01
open PySem PySem.W PyProof.Rows PySem.Calls
set_option Elab.async false
set_option maxRecDepth 100000
set_option maxHeartbeats 0
namespace Mine
theorem nle {n m : Nat} (h : Nat.ble n m = true) : n <= m := Nat.le_of_ble_eq_true h
theorem eX0b {pa pb : Prop} {G : Prop} (x : pa /\ pb) (F0 : pa -> pb -> G) : G:=F0 x.1 x.2
theorem eX0c {pa pb pc : Prop} {G : Prop} (x : pa /\ pb /\ pc) (F0 : pa -> pb -> pc -> G) : G:=F0 x.1 x.2.1 x.2.2
theorem eX0d {pa pb pc pd : Prop} {G : Prop} (x : pa /\ pb /\ pc /\ pd) (F0 : pa -> pb -> pc -> pd -> G) : G:=F0 x.1 x.2.1 x.2.2.1 x.2.2.2
theorem eX0e {pa pb pc pd pe : Prop} {G : Prop} (x : pa /\ pb /\ pc /\ pd /\ pe) (F0 : pa -> pb -> pc -> pd -> pe -> G) : G:=F0 x.1 x.2.1 x.2.2.1 x.2.2.2.1 x.2.2.2.2
theorem eX0f {pa pb pc pd pe pf : Prop} {G : Prop} (x : pa /\ pb /\ pc /\ pd /\ pe /\ pf) (F0 : pa -> pb -> pc -> pd -> pe -> pf -> G) : G:=F0 x.1 x.2.1 x.2.2.1 x.2.2.2.1 x.2.2.2.2.1 x.2.2.2.2.2
theorem eX1a {Aa : Sort _} {pa : Aa -> Prop} {G : Prop} (x : ∃ a,pa a) (F0 : ∀ a,pa a -> G) : G:=x.elim fun a x=>F0 a x
theorem eX1b {Aa : Sort _} {pa pb : Aa -> Prop} {G : Prop} (x : ∃ a,pa a /\ pb a) (F0 : ∀ a,pa a -> pb a -> G) : G:=x.elim fun a x=>F0 a x.1 x.2
theorem eX1c {Aa : Sort _} {pa pb pc : Aa -> Prop} {G : Prop} (x : ∃ a,pa a /\ pb a /\ pc a) (F0 : ∀ a,pa a -> pb a -> pc a -> G) : G:=x.elim fun a x=>F0 a x.1 x.2.1 x.2.2
theorem eX1d {Aa : Sort _} {pa pb pc pd : Aa -> Prop} {G : Prop} (x : ∃ a,pa a /\ pb a /\ pc a /\ pd a) (F0 : ∀ a,pa a -> pb a -> pc a -> pd a -> G) : G:=x.elim fun a x=>F0 a x.1 x.2.1 x.2.2.1 x.2.2.2
theorem eX1e {Aa : Sort _} {pa pb pc pd pe : Aa -> Prop} {G : Prop} (x : ∃ a,pa a /\ pb a /\ pc a /\ pd a /\ pe a) (F0 : ∀ a,pa a -> pb a -> pc a -> pd a -> pe a -> G) : G:=x.elim fun a x=>F0 a x.1 x.2.1 x.2.2.1 x.2.2.2.1 x.2.2.2.2
theorem eX1i {Aa : Sort _} {pa pb pc pd pe pf pg ph pi : Aa -> Prop} {G : Prop} (x : ∃ a,pa a /\ pb a /\ pc a /\ pd a /\ pe a /\ pf a /\ pg a /\ ph a /\ pi a) (F0 : ∀ a,pa a -> pb a -> pc a -> pd a -> pe a -> pf a -> pg a -> ph a -> pi a -> G) : G:=x.elim fun a x=>F0 a x.1 x.2.1 x.2.2.1 x.2.2.2.1 x.2.2.2.2.1 x.2.2.2.2.2.1 x.2.2.2.2.2.2.1 x.2.2.2.2.2.2.2.1 x.2.2.2.2.2.2.2.2
theorem eX2a {Aa Ab : Sort _} {pa : Aa -> Ab -> Prop} {G : Prop} (x : ∃ a b,pa a b) (F0 : ∀ a b,pa a b -> G) : G:=x.elim fun a x=>x.elim fun b x=>F0 a b x
theorem eX2b {Aa Ab : Sort _} {pa pb : Aa -> Ab -> Prop} {G : Prop} (x : ∃ a b,pa a b /\ pb a b) (F0 : ∀ a b,pa a b -> pb a b -> G) : G:=x.elim fun a x=>x.elim fun b x=>F0 a b x.1 x.2
theorem eX2c {Aa Ab : Sort _} {pa pb pc : Aa -> Ab -> Prop} {G : Prop} (x : ∃ a b,pa a b /\ pb a b /\ pc a b) (F0 : ∀ a b,pa a b -> pb a b -> pc a b -> G) : G:=x.elim fun a x=>x.elim fun b x=>F0 a b x.1 x.2.1 x.2.2
theorem eX2d {Aa Ab : Sort _} {pa pb pc pd : Aa -> Ab -> Prop} {G : Prop} (x : ∃ a b,pa a b /\ pb a b /\ pc a b /\ pd a b) (F0 : ∀ a b,pa a b -> pb a b -> pc a b -> pd a b -> G) : G:=x.elim fun a x=>x.elim fun b x=>F0 a b x.1 x.2.1 x.2.2.1 x.2.2.2
theorem eX2e {Aa Ab : Sort _} {pa pb pc pd pe : Aa -> Ab -> Prop} {G : Prop} (x : ∃ a b,pa a b /\ pb a b /\ pc a b /\ pd a b /\ pe a b) (F0 : ∀ a b,pa a b -> pb a b -> pc a b -> pd a b -> pe a b -> G) : G:=x.elim fun a x=>x.elim fun b x=>F0 a b x.1 x.2.1 x.2.2.1 x.2.2.2.1 x.2.2.2.2
theorem eX3a {Aa Ab Ac : Sort _} {pa : Aa -> Ab -> Ac -> Prop} {G : Prop} (x : ∃ a b c,pa a b c) (F0 : ∀ a b c,pa a b c -> G) : G:=x.elim fun a x=>x.elim fun b x=>x.elim fun c x=>F0 a b c x
theorem eX3b {Aa Ab Ac : Sort _} {pa pb : Aa -> Ab -> Ac -> Prop} {G : Prop} (x : ∃ a b c,pa a b c /\ pb a b c) (F0 : ∀ a b c,pa a b c -> pb a b c -> G) : G:=x.elim fun a x=>x.elim fun b x=>x.elim fun c x=>F0 a b c x.1 x.2
theorem eX3c {Aa Ab Ac : Sort _} {pa pb pc : Aa -> Ab -> Ac -> Prop} {G : Prop} (x : ∃ a b c,pa a b c /\ pb a b c /\ pc a b c) (F0 : ∀ a b c,pa a b c -> pb a b c -> pc a b c -> G) : G:=x.elim fun a x=>x.elim fun b x=>x.elim fun c x=>F0 a b c x.1 x.2.1 x.2.2
theorem eX3d {Aa Ab Ac : Sort _} {pa pb pc pd : Aa -> Ab -> Ac -> Prop} {G : Prop} (x : ∃ a b c,pa a b c /\ pb a b c /\ pc a b c /\ pd a b c) (F0 : ∀ a b c,pa a b c -> pb a b c -> pc a b c -> pd a b c -> G) : G:=x.elim fun a x=>x.elim fun b x=>x.elim fun c x=>F0 a b c x.1 x.2.1 x.2.2.1 x.2.2.2
theorem eX3e {Aa Ab Ac : Sort _} {pa pb pc pd pe : Aa -> Ab -> Ac -> Prop} {G : Prop} (x : ∃ a b c,pa a b c /\ pb a b c /\ pc a b c /\ pd a b c /\ pe a b c) (F0 : ∀ a b c,pa a b c -> pb a b c -> pc a b c -> pd a b c -> pe a b c -> G) : G:=x.elim fun a x=>x.elim fun b x=>x.elim fun c x=>F0 a b c x.1 x.2.1 x.2.2.1 x.2.2.2.1 x.2.2.2.2
theorem eX3f {Aa Ab Ac : Sort _} {pa pb pc pd pe pf : Aa -> Ab -> Ac -> Prop} {G : Prop} (x : ∃ a b c,pa a b c /\ pb a b c /\ pc a b c /\ pd a b c /\ pe a b c /\ pf a b c) (F0 : ∀ a b c,pa a b c -> pb a b c -> pc a b c -> pd a b c -> pe a b c -> pf a b c -> G) : G:=x.elim fun a x=>x.elim fun b x=>x.elim fun c x=>F0 a b c x.1 x.2.1 x.2.2.1 x.2.2.2.1 x.2.2.2.2.1 x.2.2.2.2.2
theorem eX3h {Aa Ab Ac : Sort _} {pa pb pc pd pe pf pg ph : Aa -> Ab -> Ac -> Prop} {G : Prop} (x : ∃ a b c,pa a b c /\ pb a b c /\ pc a b c /\ pd a b c /\ pe a b c /\ pf a b c /\ pg a b c /\ ph a b c) (F0 : ∀ a b c,pa a b c -> pb a b c -> pc a b c -> pd a b c -> pe a b c -> pf a b c -> pg a b c -> ph a b c -> G) : G:=x.elim fun a x=>x.elim fun b x=>x.elim fun c x=>F0 a b c x.1 x.2.1 x.2.2.1 x.2.2.2.1 x.2.2.2.2.1 x.2.2.2.2.2.1 x.2.2.2.2.2.2.1 x.2.2.2.2.2.2.2
theorem eX3i {Aa Ab Ac : Sort _} {pa pb pc pd pe pf pg ph pi : Aa -> Ab -> Ac -> Prop} {G : Prop} (x : ∃ a b c,pa a b c /\ pb a b c /\ pc a b c /\ pd a b c /\ pe a b c /\ pf a b c /\ pg a b c /\ ph a b c /\ pi a b c) (F0 : ∀ a b c,pa a b c -> pb a b c -> pc a b c -> pd a b c -> pe a b c -> pf a b c -> pg a b c -> ph a b c -> pi a b c -> G) : G:=x.elim fun a x=>x.elim fun b x=>x.elim fun c x=>F0 a b c x.1 x.2.1 x.2.2.1 x.2.2.2.1 x.2.2.2.2.1 x.2.2.2.2.2.1 x.2.2.2.2.2.2.1 x.2.2.2.2.2.2.2.1 x.2.2.2.2.2.2.2.2
theorem eX4a {Aa Ab Ac Ad : Sort _} {pa : Aa -> Ab -> Ac -> Ad -> Prop} {G : Prop} (x : ∃ a b c d,pa a b c d) (F0 : ∀ a b c d,pa a b c d -> G) : G:=x.elim fun a x=>x.elim fun b x=>x.elim fun c x=>x.elim fun d x=>F0 a b c d x
theorem eX4d {Aa Ab Ac Ad : Sort _} {pa pb pc pd : Aa -> Ab -> Ac -> Ad -> Prop} {G : Prop} (x : ∃ a b c d,pa a b c d /\ pb a b c d /\ pc a b c d /\ pd a b c d) (F0 : ∀ a b c d,pa a b c d -> pb a b c d -> pc a b c d -> pd a b c d -> G) : G:=x.elim fun a x=>x.elim fun b x=>x.elim fun c x=>x.elim fun d x=>F0 a b c d x.1 x.2.1 x.2.2.1 x.2.2.2
theorem eX4e {Aa Ab Ac Ad : Sort _} {pa pb pc pd pe : Aa -> Ab -> Ac -> Ad -> Prop} {G : Prop} (x : ∃ a b c d,pa a b c d /\ pb a b c d /\ pc a b c d /\ pd a b c d /\ pe a b c d) (F0 : ∀ a b c d,pa a b c d -> pb a b c d -> pc a b c d -> pd a b c d -> pe a b c d -> G) : G:=x.elim fun a x=>x.elim fun b x=>x.elim fun c x=>x.elim fun d x=>F0 a b c d x.1 x.2.1 x.2.2.1 x.2.2.2.1 x.2.2.2.2
theorem eX4g {Aa Ab Ac Ad : Sort _} {pa pb pc pd pe pf pg : Aa -> Ab -> Ac -> Ad -> Prop} {G : Prop} (x : ∃ a b c d,pa a b c d /\ pb a b c d /\ pc a b c d /\ pd a b c d /\ pe a b c d /\ pf a b c d /\ pg a b c d) (F0 : ∀ a b c d,pa a b c d -> pb a b c d -> pc a b c d -> pd a b c d -> pe a b c d -> pf a b c d -> pg a b c d -> G) : G:=x.elim fun a x=>x.elim fun b x=>x.elim fun c x=>x.elim fun d x=>F0 a b c d x.1 x.2.1 x.2.2.1 x.2.2.2.1 x.2.2.2.2.1 x.2.2.2.2.2.1 x.2.2.2.2.2.2
theorem iX0b {pa pb : Prop} (ha : pa) (hb : pb) : pa /\ pb:=⟨ha,hb⟩
theorem iX0c {pa pb pc : Prop} (ha : pa) (hb : pb) (hc : pc) : pa /\ pb /\ pc:=⟨ha,hb,hc⟩
theorem iX0d {pa pb pc pd : Prop} (ha : pa) (hb : pb) (hc : pc) (hd : pd) : pa /\ pb /\ pc /\ pd:=⟨ha,hb,hc,hd⟩
theorem iX0e {pa pb pc pd pe : Prop} (ha : pa) (hb : pb) (hc : pc) (hd : pd) (he : pe) : pa /\ pb /\ pc /\ pd /\ pe:=⟨ha,hb,hc,hd,he⟩
theorem iX1a {Aa : Sort _} {pa : Aa -> Prop} (a : Aa) (ha : pa a) : ∃ a,pa a:=⟨a,ha⟩
theorem iX1b {Aa : Sort _} {pa pb : Aa -> Prop} (a : Aa) (ha : pa a) (hb : pb a) : ∃ a,pa a /\ pb a:=⟨a,ha,hb⟩
theorem iX1c {Aa : Sort _} {pa pb pc : Aa -> Prop} (a : Aa) (ha : pa a) (hb : pb a) (hc : pc a) : ∃ a,pa a /\ pb a /\ pc a:=⟨a,ha,hb,hc⟩
theorem iX1d {Aa : Sort _} {pa pb pc pd : Aa -> Prop} (a : Aa) (ha : pa a) (hb : pb a) (hc : pc a) (hd : pd a) : ∃ a,pa a /\ pb a /\ pc a /\ pd a:=⟨a,ha,hb,hc,hd⟩
theorem iX1i {Aa : Sort _} {pa pb pc pd pe pf pg ph pi : Aa -> Prop} (a : Aa) (ha : pa a) (hb : pb a) (hc : pc a) (hd : pd a) (he : pe a) (hf : pf a) (hg : pg a) (hh : ph a) (hi : pi a) : ∃ a,pa a /\ pb a /\ pc a /\ pd a /\ pe a /\ pf a /\ pg a /\ ph a /\ pi a:=⟨a,ha,hb,hc,hd,he,hf,hg,hh,hi⟩
theorem iX2a {Aa Ab : Sort _} {pa : Aa -> Ab -> Prop} (a : Aa) (b : Ab) (ha : pa a b) : ∃ a b,pa a b:=⟨a,b,ha⟩
theorem iX2b {Aa Ab : Sort _} {pa pb : Aa -> Ab -> Prop} (a : Aa) (b : Ab) (ha : pa a b) (hb : pb a b) : ∃ a b,pa a b /\ pb a b:=⟨a,b,ha,hb⟩
theorem iX2c {Aa Ab : Sort _} {pa pb pc : Aa -> Ab -> Prop} (a : Aa) (b : Ab) (ha : pa a b) (hb : pb a b) (hc : pc a b) : ∃ a b,pa a b /\ pb a b /\ pc a b:=⟨a,b,ha,hb,hc⟩
theorem iX2d {Aa Ab : Sort _} {pa pb pc pd : Aa -> Ab -> Prop} (a : Aa) (b : Ab) (ha : pa a b) (hb : pb a b) (hc : pc a b) (hd : pd a b) : ∃ a b,pa a b /\ pb a b /\ pc a b /\ pd a b:=⟨a,b,ha,hb,hc,hd⟩
theorem iX2e {Aa Ab : Sort _} {pa pb pc pd pe : Aa -> Ab -> Prop} (a : Aa) (b : Ab) (ha : pa a b) (hb : pb a b) (hc : pc a b) (hd : pd a b) (he : pe a b) : ∃ a b,pa a b /\ pb a b /\ pc a b /\ pd a b /\ pe a b:=⟨a,b,ha,hb,hc,hd,he⟩
theorem iX2h {Aa Ab : Sort _} {pa pb pc pd pe pf pg ph : Aa -> Ab -> Prop} (a : Aa) (b : Ab) (ha : pa a b) (hb : pb a b) (hc : pc a b) (hd : pd a b) (he : pe a b) (hf : pf a b) (hg : pg a b) (hh : ph a b) : ∃ a b,pa a b /\ pb a b /\ pc a b /\ pd a b /\ pe a b /\ pf a b /\ pg a b /\ ph a b:=⟨a,b,ha,hb,hc,hd,he,hf,hg,hh⟩
theorem iX3b {Aa Ab Ac : Sort _} {pa pb : Aa -> Ab -> Ac -> Prop} (a : Aa) (b : Ab) (c : Ac) (ha : pa a b c) (hb : pb a b c) : ∃ a b c,pa a b c /\ pb a b c:=⟨a,b,c,ha,hb⟩
theorem iX3d {Aa Ab Ac : Sort _} {pa pb pc pd : Aa -> Ab -> Ac -> Prop} (a : Aa) (b : Ab) (c : Ac) (ha : pa a b c) (hb : pb a b c) (hc : pc a b c) (hd : pd a b c) : ∃ a b c,pa a b c /\ pb a b c /\ pc a b c /\ pd a b c:=⟨a,b,c,ha,hb,hc,hd⟩
theorem iX3e {Aa Ab Ac : Sort _} {pa pb pc pd pe : Aa -> Ab -> Ac -> Prop} (a : Aa) (b : Ab) (c : Ac) (ha : pa a b c) (hb : pb a b c) (hc : pc a b c) (hd : pd a b c) (he : pe a b c) : ∃ a b c,pa a b c /\ pb a b c /\ pc a b c /\ pd a b c /\ pe a b c:=⟨a,b,c,ha,hb,hc,hd,he⟩
theorem iX3f {Aa Ab Ac : Sort _} {pa pb pc pd pe pf : Aa -> Ab -> Ac -> Prop} (a : Aa) (b : Ab) (c : Ac) (ha : pa a b c) (hb : pb a b c) (hc : pc a b c) (hd : pd a b c) (he : pe a b c) (hf : pf a b c) : ∃ a b c,pa a b c /\ pb a b c /\ pc a b c /\ pd a b c /\ pe a b c /\ pf a b c:=⟨a,b,c,ha,hb,hc,hd,he,hf⟩
theorem iX3h {Aa Ab Ac : Sort _} {pa pb pc pd pe pf pg ph : Aa -> Ab -> Ac -> Prop} (a : Aa) (b : Ab) (c : Ac) (ha : pa a b c) (hb : pb a b c) (hc : pc a b c) (hd : pd a b c) (he : pe a b c) (hf : pf a b c) (hg : pg a b c) (hh : ph a b c) : ∃ a b c,pa a b c /\ pb a b c /\ pc a b c /\ pd a b c /\ pe a b c /\ pf a b c /\ pg a b c /\ ph a b c:=⟨a,b,c,ha,hb,hc,hd,he,hf,hg,hh⟩
theorem iX4a {Aa Ab Ac Ad : Sort _} {pa : Aa -> Ab -> Ac -> Ad -> Prop} (a : Aa) (b : Ab) (c : Ac) (d : Ad) (ha : pa a b c d) : ∃ a b c d,pa a b c d:=⟨a,b,c,d,ha⟩
theorem iX4b {Aa Ab Ac Ad : Sort _} {pa pb : Aa -> Ab -> Ac -> Ad -> Prop} (a : Aa) (b : Ab) (c : Ac) (d : Ad) (ha : pa a b c d) (hb : pb a b c d) : ∃ a b c d,pa a b c d /\ pb a b c d:=⟨a,b,c,d,ha,hb⟩
theorem iX4c {Aa Ab Ac Ad : Sort _} {pa pb pc : Aa -> Ab -> Ac -> Ad -> Prop} (a : Aa) (b : Ab) (c : Ac) (d : Ad) (ha : pa a b c d) (hb : pb a b c d) (hc : pc a b c d) : ∃ a b c d,pa a b c d /\ pb a b c d /\ pc a b c d:=⟨a,b,c,d,ha,hb,hc⟩
theorem iX4d {Aa Ab Ac Ad : Sort _} {pa pb pc pd : Aa -> Ab -> Ac -> Ad -> Prop} (a : Aa) (b : Ab) (c : Ac) (d : Ad) (ha : pa a b c d) (hb : pb a b c d) (hc : pc a b c d) (hd : pd a b c d) : ∃ a b c d,pa a b c d /\ pb a b c d /\ pc a b c d /\ pd a b c d:=⟨a,b,c,d,ha,hb,hc,hd⟩
theorem iX4e {Aa Ab Ac Ad : Sort _} {pa pb pc pd pe : Aa -> Ab -> Ac -> Ad -> Prop} (a : Aa) (b : Ab) (c : Ac) (d : Ad) (ha : pa a b c d) (hb : pb a b c d) (hc : pc a b c d) (hd : pd a b c d) (he : pe a b c d) : ∃ a b c d,pa a b c d /\ pb a b c d /\ pc a b c d /\ pd a b c d /\ pe a b c d:=⟨a,b,c,d,ha,hb,hc,hd,he⟩
theorem iX4g {Aa Ab Ac Ad : Sort _} {pa pb pc pd pe pf pg : Aa -> Ab -> Ac -> Ad -> Prop} (a : Aa) (b : Ab) (c : Ac) (d : Ad) (ha : pa a b c d) (hb : pb a b c d) (hc : pc a b c d) (hd : pd a b c d) (he : pe a b c d) (hf : pf a b c d) (hg : pg a b c d) : ∃ a b c d,pa a b c d /\ pb a b c d /\ pc a b c d /\ pd a b c d /\ pe a b c d /\ pf a b c d /\ pg a b c d:=⟨a,b,c,d,ha,hb,hc,hd,he,hf,hg⟩
theorem eX2f {Aa Ab : Sort _} {pa pb pc pd pe pf : Aa -> Ab -> Prop} {G : Prop} (x : ∃ a b,pa a b /\ pb a b /\ pc a b /\ pd a b /\ pe a b /\ pf a b) (F0 : ∀ a b,pa a b -> pb a b -> pc a b -> pd a b -> pe a b -> pf a b -> G) : G:=x.elim fun a x=>x.elim fun b x=>F0 a b x.1 x.2.1 x.2.2.1 x.2.2.2.1 x.2.2.2.2.1 x.2.2.2.2.2
theorem eX3g {Aa Ab Ac : Sort _} {pa pb pc pd pe pf pg : Aa -> Ab -> Ac -> Prop} {G : Prop} (x : ∃ a b c,pa a b c /\ pb a b c /\ pc a b c /\ pd a b c /\ pe a b c /\ pf a b c /\ pg a b c) (F0 : ∀ a b c,pa a b c -> pb a b c -> pc a b c -> pd a b c -> pe a b c -> pf a b c -> pg a b c -> G) : G:=x.elim fun a x=>x.elim fun b x=>x.elim fun c x=>F0 a b c x.1 x.2.1 x.2.2.1 x.2.2.2.1 x.2.2.2.2.1 x.2.2.2.2.2.1 x.2.2.2.2.2.2
theorem eX4j {Aa Ab Ac Ad : Sort _} {pa pb pc pd pe pf pg ph pi pj : Aa -> Ab -> Ac -> Ad -> Prop} {G : Prop} (x : ∃ a b c d,pa a b c d /\ pb a b c d /\ pc a b c d /\ pd a b c d /\ pe a b c d /\ pf a b c d /\ pg a b c d /\ ph a b c d /\ pi a b c d /\ pj a b c d) (F0 : ∀ a b c d,pa a b c d -> pb a b c d -> pc a b c d -> pd a b c d -> pe a b c d -> pf a b c d -> pg a b c d -> ph a b c d -> pi a b c d -> pj a b c d -> G) : G:=x.elim fun a x=>x.elim fun b x=>x.elim fun c x=>x.elim fun d x=>F0 a b c d x.1 x.2.1 x.2.2.1 x.2.2.2.1 x.2.2.2.2.1 x.2.2.2.2.2.1 x.2.2.2.2.2.2.1 x.2.2.2.2.2.2.2.1 x.2.2.2.2.2.2.2.2.1 x.2.2.2.2.2.2.2.2.2
theorem iX1e {Aa : Sort _} {pa pb pc pd pe : Aa -> Prop} (a : Aa) (ha : pa a) (hb : pb a) (hc : pc a) (hd : pd a) (he : pe a) : ∃ a,pa a /\ pb a /\ pc a /\ pd a /\ pe a:=⟨a,ha,hb,hc,hd,he⟩
theorem iX2f {Aa Ab : Sort _} {pa pb pc pd pe pf : Aa -> Ab -> Prop} (a : Aa) (b : Ab) (ha : pa a b) (hb : pb a b) (hc : pc a b) (hd : pd a b) (he : pe a b) (hf : pf a b) : ∃ a b,pa a b /\ pb a b /\ pc a b /\ pd a b /\ pe a b /\ pf a b:=⟨a,b,ha,hb,hc,hd,he,hf⟩
theorem iX3c {Aa Ab Ac : Sort _} {pa pb pc : Aa -> Ab -> Ac -> Prop} (a : Aa) (b : Ab) (c : Ac) (ha : pa a b c) (hb : pb a b c) (hc : pc a b c) : ∃ a b c,pa a b c /\ pb a b c /\ pc a b c:=⟨a,b,c,ha,hb,hc⟩
theorem iX3g {Aa Ab Ac : Sort _} {pa pb pc pd pe pf pg : Aa -> Ab -> Ac -> Prop} (a : Aa) (b : Ab) (c : Ac) (ha : pa a b c) (hb : pb a b c) (hc : pc a b c) (hd : pd a b c) (he : pe a b c) (hf : pf a b c) (hg : pg a b c) : ∃ a b c,pa a b c /\ pb a b c /\ pc a b c /\ pd a b c /\ pe a b c /\ pf a b c /\ pg a b c:=⟨a,b,c,ha,hb,hc,hd,he,hf,hg⟩
theorem iX3i {Aa Ab Ac : Sort _} {pa pb pc pd pe pf pg ph pi : Aa -> Ab -> Ac -> Prop} (a : Aa) (b : Ab) (c : Ac) (ha : pa a b c) (hb : pb a b c) (hc : pc a b c) (hd : pd a b c) (he : pe a b c) (hf : pf a b c) (hg : pg a b c) (hh : ph a b c) (hi : pi a b c) : ∃ a b c,pa a b c /\ pb a b c /\ pc a b c /\ pd a b c /\ pe a b c /\ pf a b c /\ pg a b c /\ ph a b c /\ pi a b c:=⟨a,b,c,ha,hb,hc,hd,he,hf,hg,hh,hi⟩
noncomputable abbrev pw : Program:=PySem.Challenge.pw_np0198_01
noncomputable abbrev rwR : OpenRow:=PySem.Challenge.rw_np0198_01.row
noncomputable def keepIdx : List Nat:=[1,2,3,4,5,6,7,8,9,11,12,14,15,16,17,18,19,20,21,23,24,25,26,27,28,30,31,32,33,34,35,36,37,38,39,40,41,42,44,46,47,48,49,50,51,52,53,54,55,56,57]
noncomputable def vw : Program:=PySem.W.view pw keepIdx
noncomputable abbrev loose : List Str:=[Str.ofString "POINTER",Str.ofString "PARTS"]
noncomputable abbrev lv : List (Str × WData):=[(Str.ofString "POINTER",WData.int 53),(Str.ofString "PARTS",WData.int 22)]
noncomputable abbrev S (x : String) : Str:=Str.ofString x
noncomputable def st (i : Nat) : Stmt:=(pw.main.body[i]?).getD (.Pass ⟨0,0,0,0⟩)
noncomputable def mt (i j : Nat) : Stmt:=match st i with
 | .ClassDef _ _ _ b _ _ _ _ _ _ _=>(b[j]?).getD (.Pass ⟨0,0,0,0⟩)
 | _=>.Pass ⟨0,0,0,0⟩
noncomputable def dArgs : Stmt -> Arguments
 | .FunctionDef _ a _ _ _ _ _ _ _ _=>a
 | _=>default
noncomputable def dBody : Stmt -> List Stmt
 | .FunctionDef _ _ b _ _ _ _ _ _ _=>b
 | _=>[]
noncomputable def dScope : Stmt -> Scope
 | .FunctionDef _ _ _ _ _ _ s _ _ _=>s
 | _=>default
noncomputable abbrev fnO (d : Stmt) (name qual : Str) (dV pm cd : Value) : FuncData:=fnOf name qual (dArgs d) (dBody d) (dScope d) dV .none .none pm none cd .none
noncomputable abbrev ke (P : Params) (x : String) (t : Tok) (v : Value) : DictEntry:=⟨PyData.keyHash P (Str.ofString x),.str (Str.ofString x) t,v⟩
noncomputable abbrev fnI (d : Stmt) (n q : String) (dV : Value) (m : String) (t : Tok) (c : Addr) : Obj:=⟨.type "function",none,.func (fnO d (S n) (S q) dV (.str (S m) t) (.ref c)),#[]⟩
noncomputable abbrev cdO (n q : String) (t t2 t3 : Tok) (l a : Int) (r8 r11 : Addr) (f13 f14 : Value) (r15 : Addr) (i : Int) (t4 : Tok) : Obj:=⟨.type "code",none,.fields #[.str (S n) t,.str (S q) t2,.str (S "/claim/cut.py") t3,.int l 0,.int a 0,.int 0 0,.int 0 0,.int 3 0,.ref r8,.bool true,.int 181 0,.ref r11,.none,f13,f14,.ref r15,.int i 0,.int l 0,.str (S "/claim/cut.py") t4],#[]⟩
noncomputable def KF : Params -> Frag:=fun P=>[
 (nat_lit 3,⟨.type "dict",none,.dict #[ke P "__name__" 165 (.str (S "law_np0198_01") 719),ke P "__doc__" 166 (.none),ke P "__package__" 167 (.none),ke P "__loader__" 168 (.builtin "__main__.__loader__#opaque"),ke P "__spec__" 169 (.none),ke P "__annotations__" 170 (.ref 6),ke P "__builtins__" 171 (.ref 4),ke P "__file__" 173 (.str (S "/claim/cut.py") 172),ke P "__cached__" 174 (.none),ke P "PoolFault" 217 (.ref 31),ke P "Corrupt" 233 (.ref 44),ke P "Missing" 249 (.ref 56),ke P "Exists" 265 (.ref 68),ke P "Misused" 281 (.ref 80),ke P "Broken" 297 (.ref 92),ke P "MANY_KINDS" 299 (.int 18 298),ke P "MANY_PACKINGS" 301 (.int 4 300),ke P "MANY_SUMS" 303 (.int 4 302),ke P "number_of" 311 (.ref 99),ke P "octets_of" 317 (.ref 104),ke P "MOST_PLACES" 321 (.int 3 320),ke P "PLACE" 323 (.int 7 322),ke P "POINTER" 345 (.int 53 344),ke P "PARTS" 349 (.int 22 348),ke P "Pointer" 407 (.ref 129),ke P "dsize" 413 (.ref 138),ke P "pointer_octets" 419 (.ref 143),ke P "pointer_of" 425 (.ref 148),ke P "new_points" 434 (.ref 155),ke P "add_point" 443 (.ref 162),ke P "add_points" 449 (.ref 167),ke P "points" 455 (.ref 172),ke P "empty_points" 463 (.ref 179),ke P "space_of" 469 (.ref 184),ke P "new_dead" 481 (.ref 191),ke P "dead_keys" 487 (.ref 196),ke P "list_of" 497 (.ref 203),ke P "key_for" 503 (.ref 208),ke P "put_dead" 513 (.ref 215),ke P "add_key" 519 (.ref 220),ke P "take_key" 531 (.ref 227),ke P "dead_points" 541 (.ref 234),ke P "dead_between" 547 (.ref 239),ke P "move_above" 559 (.ref 246),ke P "drop_dead" 568 (.ref 253),ke P "merge_dead" 578 (.ref 260),ke P "copy_keys" 584 (.ref 265),ke P "MemBase" 718 (.ref 366),ke P "_law_next" 728 (.ref 377),ke P "_law_point" 734 (.ref 382),ke P "_law_told" 741 (.ref 389),ke P "_law_below" 747 (.ref 394),ke P "_law_flat" 756 (.ref 401),ke P "_law_is" 762 (.ref 406),ke P "_law_put" 776 (.ref 413),ke P "_law_added" 782 (.ref 418),ke P "_law_taken" 798 (.ref 425),ke P "_law_step" 804 (.ref 430),ke P "_law_merged" 810 (.ref 435),ke P "law" 816 (.ref 440)] 60,#[]⟩),
 (nat_lit 27,cdO "__init__" "PoolFault.__init__" 201 202 203 4 2 22 23 (.ref 24) (.ref 25) 26 206 207),
 (nat_lit 28,fnI (mt 1 0) "__init__" "PoolFault.__init__" (.none) "treepool.faults" 187 27),
 (nat_lit 30,⟨.type "dict",none,.dict #[ke P "__module__" 196 (.str (S "treepool.faults") 187),ke P "__firstlineno__" 200 (.int 2 199),ke P "__init__" 208 (.ref 28),ke P "__static_attributes__" 210 (.ref 29),ke P "__weakref__" 212 (.ref 32),ke P "__doc__" 213 (.none)] 3,#[]⟩),
 (nat_lit 31,⟨.type "type",none,.cls { name:=(S "PoolFault"),bases:=[.type "Exception"],mro:=[.ref 31,.type "Exception",.type "BaseException",.type "object"],ns:=30,qualname:=(S "PoolFault"),hasDict:=true,slotNames:=[],subclasses:=[.ref 44,.ref 56,.ref 68,.ref 80,.ref 92],abstract:=false,collection:=none,hasDel:=false },#[some (.ref 15),none,some (.str (S "PoolFault") 189),some (.str (S "PoolFault") 197),some (.builtin "Exception.__new__"),some (.bool true)]⟩),
 (nat_lit 32,⟨.type "getset_descriptor",none,.fields #[.str (S "__weakref__") 211,.ref 31,.builtin "ExceptionGroup.__weakref__",.none],#[]⟩),
 (nat_lit 43,⟨.type "dict",none,.dict #[ke P "__module__" 225 (.str (S "treepool.faults") 187),ke P "__firstlineno__" 229 (.int 7 228),ke P "__static_attributes__" 230 (.ref 42),ke P "__doc__" 231 (.none)] 2,#[]⟩),
 (nat_lit 44,⟨.type "type",none,.cls { name:=(S "Corrupt"),bases:=[.ref 31],mro:=[.ref 44,.ref 31,.type "Exception",.type "BaseException",.type "object"],ns:=43,qualname:=(S "Corrupt"),hasDict:=true,slotNames:=[],subclasses:=[],abstract:=false,collection:=none,hasDel:=false },#[some (.ref 35),none,some (.str (S "Corrupt") 218),some (.str (S "Corrupt") 226),some (.builtin "Exception.__new__"),some (.bool true)]⟩),
 (nat_lit 55,⟨.type "dict",none,.dict #[ke P "__module__" 241 (.str (S "treepool.faults") 187),ke P "__firstlineno__" 245 (.int 9 244),ke P "__static_attributes__" 246 (.ref 54),ke P "__doc__" 247 (.none)] 2,#[]⟩),
 (nat_lit 56,⟨.type "type",none,.cls { name:=(S "Missing"),bases:=[.ref 31],mro:=[.ref 56,.ref 31,.type "Exception",.type "BaseException",.type "object"],ns:=55,qualname:=(S "Missing"),hasDict:=true,slotNames:=[],subclasses:=[],abstract:=false,collection:=none,hasDel:=false },#[some (.ref 47),none,some (.str (S "Missing") 234),some (.str (S "Missing") 242),some (.builtin "Exception.__new__"),some (.bool true)]⟩),
 (nat_lit 67,⟨.type "dict",none,.dict #[ke P "__module__" 257 (.str (S "treepool.faults") 187),ke P "__firstlineno__" 261 (.int 11 260),ke P "__static_attributes__" 262 (.ref 66),ke P "__doc__" 263 (.none)] 2,#[]⟩),
 (nat_lit 68,⟨.type "type",none,.cls { name:=(S "Exists"),bases:=[.ref 31],mro:=[.ref 68,.ref 31,.type "Exception",.type "BaseException",.type "object"],ns:=67,qualname:=(S "Exists"),hasDict:=true,slotNames:=[],subclasses:=[],abstract:=false,collection:=none,hasDel:=false },#[some (.ref 59),none,some (.str (S "Exists") 250),some (.str (S "Exists") 258),some (.builtin "Exception.__new__"),some (.bool true)]⟩),
 (nat_lit 79,⟨.type "dict",none,.dict #[ke P "__module__" 273 (.str (S "treepool.faults") 187),ke P "__firstlineno__" 277 (.int 13 276),ke P "__static_attributes__" 278 (.ref 78),ke P "__doc__" 279 (.none)] 2,#[]⟩),
 (nat_lit 80,⟨.type "type",none,.cls { name:=(S "Misused"),bases:=[.ref 31],mro:=[.ref 80,.ref 31,.type "Exception",.type "BaseException",.type "object"],ns:=79,qualname:=(S "Misused"),hasDict:=true,slotNames:=[],subclasses:=[],abstract:=false,collection:=none,hasDel:=false },#[some (.ref 71),none,some (.str (S "Misused") 266),some (.str (S "Misused") 274),some (.builtin "Exception.__new__"),some (.bool true)]⟩),
 (nat_lit 91,⟨.type "dict",none,.dict #[ke P "__module__" 289 (.str (S "treepool.faults") 187),ke P "__firstlineno__" 293 (.int 15 292),ke P "__static_attributes__" 294 (.ref 90),ke P "__doc__" 295 (.none)] 2,#[]⟩),
 (nat_lit 92,⟨.type "type",none,.cls { name:=(S "Broken"),bases:=[.ref 31],mro:=[.ref 92,.ref 31,.type "Exception",.type "BaseException",.type "object"],ns:=91,qualname:=(S "Broken"),hasDict:=true,slotNames:=[],subclasses:=[],abstract:=false,collection:=none,hasDel:=false },#[some (.ref 83),none,some (.str (S "Broken") 282),some (.str (S "Broken") 290),some (.builtin "Exception.__new__"),some (.bool true)]⟩),
 (nat_lit 98,cdO "number_of" "number_of" 306 307 308 21 1 95 96 .none .none 97 309 310),
 (nat_lit 99,fnI (st 11) "number_of" "number_of" (.none) "treepool.octets" 304 98),
 (nat_lit 103,cdO "octets_of" "octets_of" 312 313 314 23 2 100 101 .none .none 102 315 316),
 (nat_lit 104,fnI (st 12) "octets_of" "octets_of" (.none) "treepool.octets" 304 103),
 (nat_lit 112,⟨.type "tuple",none,.seq #[.int 0 362] 0,#[]⟩),
 (nat_lit 118,cdO "__init__" "Pointer.__init__" 363 364 365 34 12 113 114 (.ref 115) (.ref 116) 117 378 379),
 (nat_lit 119,fnI (mt 18 0) "__init__" "Pointer.__init__" (.ref 112) "treepool.pointers" 318 118),
 (nat_lit 125,cdO "plain" "Pointer.plain" 381 382 383 47 1 120 121 (.ref 122) (.ref 123) 124 386 387),
 (nat_lit 126,fnI (mt 18 1) "plain" "Pointer.plain" (.none) "treepool.pointers" 318 125),
 (nat_lit 128,⟨.type "dict",none,.dict #[ke P "__module__" 357 (.str (S "treepool.pointers") 318),ke P "__firstlineno__" 361 (.int 32 360),ke P "__init__" 380 (.ref 119),ke P "plain" 388 (.ref 126),ke P "__static_attributes__" 400 (.ref 127),ke P "__dict__" 402 (.ref 130),ke P "__weakref__" 404 (.ref 131),ke P "__doc__" 405 (.none)] 4,#[]⟩),
 (nat_lit 129,⟨.type "type",none,.cls { name:=(S "Pointer"),bases:=[.type "object"],mro:=[.ref 129,.type "object"],ns:=128,qualname:=(S "Pointer"),hasDict:=true,slotNames:=[],subclasses:=[],abstract:=false,collection:=none,hasDel:=false },#[none,none,some (.str (S "Pointer") 350),some (.str (S "Pointer") 358),some (.builtin "object.__new__"),some (.bool true)]⟩),
 (nat_lit 130,⟨.type "getset_descriptor",none,.fields #[.str (S "__dict__") 401,.ref 129,.builtin "function.__dict__",.builtin "function.__dict__#set"],#[]⟩),
 (nat_lit 131,⟨.type "getset_descriptor",none,.fields #[.str (S "__weakref__") 403,.ref 129,.builtin "ExceptionGroup.__weakref__",.none],#[]⟩),
 (nat_lit 137,cdO "dsize" "dsize" 408 409 410 50 1 134 135 .none .none 136 411 412),
 (nat_lit 138,fnI (st 19) "dsize" "dsize" (.none) "treepool.pointers" 318 137),
 (nat_lit 142,cdO "pointer_octets" "pointer_octets" 414 415 416 52 1 139 140 .none .none 141 417 418),
 (nat_lit 143,fnI (st 20) "pointer_octets" "pointer_octets" (.none) "treepool.pointers" 318 142),
 (nat_lit 147,cdO "pointer_of" "pointer_of" 420 421 422 62 1 144 145 .none .none 146 423 424),
 (nat_lit 148,fnI (st 21) "pointer_of" "pointer_of" (.none) "treepool.pointers" 318 147),
 (nat_lit 154,cdO "new_points" "new_points" 428 429 430 81 1 149 150 (.ref 151) (.ref 152) 153 432 433),
 (nat_lit 155,fnI (st 23) "new_points" "new_points" (.none) "treepool.pointlists" 426 154),
 (nat_lit 161,cdO "add_point" "add_point" 435 436 437 83 3 156 157 (.ref 158) (.ref 159) 160 441 442),
 (nat_lit 162,fnI (st 24) "add_point" "add_point" (.none) "treepool.pointlists" 426 161),
 (nat_lit 166,cdO "add_points" "add_points" 444 445 446 85 3 163 164 .none .none 165 447 448),
 (nat_lit 167,fnI (st 25) "add_points" "add_points" (.none) "treepool.pointlists" 426 166),
 (nat_lit 171,cdO "points" "points" 450 451 452 88 2 168 169 .none .none 170 453 454),
 (nat_lit 172,fnI (st 26) "points" "points" (.none) "treepool.pointlists" 426 171),
 (nat_lit 178,cdO "empty_points" "empty_points" 456 457 458 93 2 173 174 (.ref 175) (.ref 176) 177 461 462),
 (nat_lit 179,fnI (st 27) "empty_points" "empty_points" (.none) "treepool.pointlists" 426 178),
 (nat_lit 183,cdO "space_of" "space_of" 464 465 466 95 1 180 181 .none .none 182 467 468),
 (nat_lit 184,fnI (st 28) "space_of" "space_of" (.none) "treepool.pointlists" 426 183),
 (nat_lit 190,cdO "new_dead" "new_dead" 472 473 474 98 2 185 186 (.ref 187) (.ref 188) 189 479 480),
 (nat_lit 191,fnI (st 30) "new_dead" "new_dead" (.none) "treepool.deadlists" 470 190),
 (nat_lit 195,cdO "dead_keys" "dead_keys" 482 483 484 103 2 192 193 .none .none 194 485 486),
 (nat_lit 196,fnI (st 31) "dead_keys" "dead_keys" (.none) "treepool.deadlists" 470 195),
 (nat_lit 202,cdO "list_of" "list_of" 488 489 490 105 3 197 198 (.ref 199) (.ref 200) 201 495 496),
 (nat_lit 203,fnI (st 32) "list_of" "list_of" (.none) "treepool.deadlists" 470 202),
 (nat_lit 207,cdO "key_for" "key_for" 498 499 500 110 2 204 205 .none .none 206 501 502),
 (nat_lit 208,fnI (st 33) "key_for" "key_for" (.none) "treepool.deadlists" 470 207),
 (nat_lit 214,cdO "put_dead" "put_dead" 504 505 506 113 3 209 210 (.ref 211) (.ref 212) 213 511 512),
 (nat_lit 215,fnI (st 34) "put_dead" "put_dead" (.none) "treepool.deadlists" 470 214),
 (nat_lit 219,cdO "add_key" "add_key" 514 515 516 118 3 216 217 .none .none 218 517 518),
 (nat_lit 220,fnI (st 35) "add_key" "add_key" (.none) "treepool.deadlists" 470 219),
 (nat_lit 226,cdO "take_key" "take_key" 520 521 522 132 3 221 222 (.ref 223) (.ref 224) 225 529 530),
 (nat_lit 227,fnI (st 36) "take_key" "take_key" (.none) "treepool.deadlists" 470 226),
 (nat_lit 233,cdO "dead_points" "dead_points" 532 533 534 141 2 228 229 (.ref 230) (.ref 231) 232 539 540),
 (nat_lit 234,fnI (st 37) "dead_points" "dead_points" (.none) "treepool.deadlists" 470 233),
 (nat_lit 238,cdO "dead_between" "dead_between" 542 543 544 146 4 235 236 .none .none 237 545 546),
 (nat_lit 239,fnI (st 38) "dead_between" "dead_between" (.none) "treepool.deadlists" 470 238),
 (nat_lit 245,cdO "move_above" "move_above" 548 549 550 148 3 240 241 (.ref 242) (.ref 243) 244 557 558),
 (nat_lit 246,fnI (st 39) "move_above" "move_above" (.none) "treepool.deadlists" 470 245),
 (nat_lit 252,cdO "drop_dead" "drop_dead" 560 561 562 157 2 247 248 (.ref 249) (.ref 250) 251 566 567),
 (nat_lit 253,fnI (st 40) "drop_dead" "drop_dead" (.none) "treepool.deadlists" 470 252),
 (nat_lit 259,cdO "merge_dead" "merge_dead" 569 570 571 161 3 254 255 (.ref 256) (.ref 257) 258 576 577),
 (nat_lit 260,fnI (st 41) "merge_dead" "merge_dead" (.none) "treepool.deadlists" 470 259),
 (nat_lit 264,cdO "copy_keys" "copy_keys" 579 580 581 165 3 261 262 .none .none 263 582 583),
 (nat_lit 265,fnI (st 42) "copy_keys" "copy_keys" (.none) "treepool.deadlists" 470 264),
 (nat_lit 278,cdO "__init__" "MemBase.__init__" 599 600 601 170 1 273 274 (.ref 275) (.ref 276) 277 603 604),
 (nat_lit 279,fnI (mt 44 0) "__init__" "MemBase.__init__" (.none) "treepool.bases" 585 278),
 (nat_lit 285,cdO "is_there" "MemBase.is_there" 606 607 608 176 2 280 281 (.ref 282) (.ref 283) 284 611 612),
 (nat_lit 286,fnI (mt 44 1) "is_there" "MemBase.is_there" (.none) "treepool.bases" 585 285),
 (nat_lit 292,cdO "new_note" "MemBase.new_note" 614 615 616 179 2 287 288 (.ref 289) (.ref 290) 291 619 620),
 (nat_lit 293,fnI (mt 44 2) "new_note" "MemBase.new_note" (.none) "treepool.bases" 585 292),
 (nat_lit 299,cdO "note" "MemBase.note" 622 623 624 184 2 294 295 (.ref 296) (.ref 297) 298 627 628),
 (nat_lit 300,fnI (mt 44 3) "note" "MemBase.note" (.none) "treepool.bases" 585 299),
 (nat_lit 306,cdO "set_note" "MemBase.set_note" 630 631 632 189 3 301 302 (.ref 303) (.ref 304) 305 636 637),
 (nat_lit 307,fnI (mt 44 4) "set_note" "MemBase.set_note" (.none) "treepool.bases" 585 306),
 (nat_lit 313,cdO "add_note" "MemBase.add_note" 639 640 641 193 3 308 309 (.ref 310) (.ref 311) 312 645 646),
 (nat_lit 314,fnI (mt 44 5) "add_note" "MemBase.add_note" (.none) "treepool.bases" 585 313),
 (nat_lit 320,cdO "drop" "MemBase.drop" 648 649 650 196 2 315 316 (.ref 317) (.ref 318) 319 653 654),
 (nat_lit 321,fnI (mt 44 6) "drop" "MemBase.drop" (.none) "treepool.bases" 585 320),
 (nat_lit 327,cdO "new_zap" "MemBase.new_zap" 656 657 658 204 1 322 323 (.ref 324) (.ref 325) 326 660 661),
 (nat_lit 328,fnI (mt 44 7) "new_zap" "MemBase.new_zap" (.none) "treepool.bases" 585 327),
 (nat_lit 334,cdO "rows" "MemBase.rows" 663 664 665 209 2 329 330 (.ref 331) (.ref 332) 333 668 669),
 (nat_lit 335,fnI (mt 44 8) "rows" "MemBase.rows" (.none) "treepool.bases" 585 334),
 (nat_lit 341,cdO "get" "MemBase.get" 671 672 673 214 3 336 337 (.ref 338) (.ref 339) 340 677 678),
 (nat_lit 342,fnI (mt 44 9) "get" "MemBase.get" (.none) "treepool.bases" 585 341),
 (nat_lit 348,cdO "put" "MemBase.put" 680 681 682 217 4 343 344 (.ref 345) (.ref 346) 347 687 688),
 (nat_lit 349,fnI (mt 44 10) "put" "MemBase.put" (.none) "treepool.bases" 585 348),
 (nat_lit 355,cdO "take" "MemBase.take" 690 691 692 222 3 350 351 (.ref 352) (.ref 353) 354 697 698),
 (nat_lit 356,fnI (mt 44 11) "take" "MemBase.take" (.none) "treepool.bases" 585 355),
 (nat_lit 362,cdO "names" "MemBase.names" 700 701 702 228 2 357 358 (.ref 359) (.ref 360) 361 705 706),
 (nat_lit 363,fnI (mt 44 12) "names" "MemBase.names" (.none) "treepool.bases" 585 362),
 (nat_lit 365,⟨.type "dict",none,.dict #[ke P "__module__" 594 (.str (S "treepool.bases") 585),ke P "__firstlineno__" 598 (.int 168 597),ke P "__init__" 605 (.ref 279),ke P "is_there" 613 (.ref 286),ke P "new_note" 621 (.ref 293),ke P "note" 629 (.ref 300),ke P "set_note" 638 (.ref 307),ke P "add_note" 647 (.ref 314),ke P "drop" 655 (.ref 321),ke P "new_zap" 662 (.ref 328),ke P "rows" 670 (.ref 335),ke P "get" 679 (.ref 342),ke P "put" 689 (.ref 349),ke P "take" 699 (.ref 356),ke P "names" 707 (.ref 363),ke P "__static_attributes__" 711 (.ref 364),ke P "__dict__" 713 (.ref 367),ke P "__weakref__" 715 (.ref 368),ke P "__doc__" 716 (.none)] 4,#[]⟩),
 (nat_lit 366,⟨.type "type",none,.cls { name:=(S "MemBase"),bases:=[.type "object"],mro:=[.ref 366,.type "object"],ns:=365,qualname:=(S "MemBase"),hasDict:=true,slotNames:=[],subclasses:=[],abstract:=false,collection:=none,hasDel:=false },#[none,none,some (.str (S "MemBase") 587),some (.str (S "MemBase") 595),some (.builtin "object.__new__"),some (.bool true)]⟩),
 (nat_lit 367,⟨.type "getset_descriptor",none,.fields #[.str (S "__dict__") 712,.ref 366,.builtin "function.__dict__",.builtin "function.__dict__#set"],#[]⟩),
 (nat_lit 368,⟨.type "getset_descriptor",none,.fields #[.str (S "__weakref__") 714,.ref 366,.builtin "ExceptionGroup.__weakref__",.none],#[]⟩),
 (nat_lit 376,cdO "_law_next" "_law_next" 721 722 723 231 1 371 372 (.ref 373) (.ref 374) 375 726 727),
 (nat_lit 377,fnI (st 46) "_law_next" "_law_next" (.none) "law_np0198_01" 719 376),
 (nat_lit 381,cdO "_law_point" "_law_point" 729 730 731 235 2 378 379 .none .none 380 732 733),
 (nat_lit 382,fnI (st 47) "_law_point" "_law_point" (.none) "law_np0198_01" 719 381),
 (nat_lit 388,cdO "_law_told" "_law_told" 735 736 737 238 1 383 384 (.ref 385) (.ref 386) 387 739 740),
 (nat_lit 389,fnI (st 48) "_law_told" "_law_told" (.none) "law_np0198_01" 719 388),
 (nat_lit 393,cdO "_law_below" "_law_below" 742 743 744 249 2 390 391 .none .none 392 745 746),
 (nat_lit 394,fnI (st 49) "_law_below" "_law_below" (.none) "law_np0198_01" 719 393),
 (nat_lit 400,cdO "_law_flat" "_law_flat" 748 749 750 251 1 395 396 (.ref 397) (.ref 398) 399 754 755),
 (nat_lit 401,fnI (st 50) "_law_flat" "_law_flat" (.none) "law_np0198_01" 719 400),
 (nat_lit 405,cdO "_law_is" "_law_is" 757 758 759 256 3 402 403 .none .none 404 760 761),
 (nat_lit 406,fnI (st 51) "_law_is" "_law_is" (.none) "law_np0198_01" 719 405),
 (nat_lit 412,cdO "_law_put" "_law_put" 763 764 765 264 4 407 408 (.ref 409) (.ref 410) 411 774 775),
 (nat_lit 413,fnI (st 52) "_law_put" "_law_put" (.none) "law_np0198_01" 719 412),
 (nat_lit 417,cdO "_law_added" "_law_added" 777 778 779 269 4 414 415 .none .none 416 780 781),
 (nat_lit 418,fnI (st 53) "_law_added" "_law_added" (.none) "law_np0198_01" 719 417),
 (nat_lit 424,cdO "_law_taken" "_law_taken" 783 784 785 278 4 419 420 (.ref 421) (.ref 422) 423 796 797),
 (nat_lit 425,fnI (st 54) "_law_taken" "_law_taken" (.none) "law_np0198_01" 719 424),
 (nat_lit 429,cdO "_law_step" "_law_step" 799 800 801 289 5 426 427 .none .none 428 802 803),
 (nat_lit 430,fnI (st 55) "_law_step" "_law_step" (.none) "law_np0198_01" 719 429),
 (nat_lit 434,cdO "_law_merged" "_law_merged" 805 806 807 312 3 431 432 .none .none 433 808 809),
 (nat_lit 435,fnI (st 56) "_law_merged" "_law_merged" (.none) "law_np0198_01" 719 434),
 (nat_lit 439,cdO "law" "law" 811 812 813 323 1 436 437 .none .none 438 814 815),
 (nat_lit 440,fnI (st 57) "law" "law" (.none) "law_np0198_01" 719 439)]
noncomputable def asK : List Addr:=[3,27,28,30,31,32,43,44,55,56,67,68,79,80,91,92,98,99,103,104,112,118,119,125,126,128,129,130,131,137,138,142,143,147,148,154,155,161,162,166,167,171,172,178,179,183,184,190,191,195,196,202,203,207,208,214,215,219,220,226,227,233,234,238,239,245,246,252,253,259,260,264,265,278,279,285,286,292,293,299,300,306,307,313,314,320,321,327,328,334,335,341,342,348,349,355,356,362,363,365,366,367,368,376,377,381,382,388,389,393,394,400,401,405,406,412,413,417,418,424,425,429,430,434,435,439,440]
theorem asK_eq (P : Params) : asK = (KF P).map (·.1):=by kernel_rfl
noncomputable def tabs : List Addr:=[420,415,408]
noncomputable def hook : Hook where
 α:=(kmHook KF asK asK_eq tabs).α × Bool
 obs:=fun s=>((kmHook KF asK asK_eq tabs).obs s,(s.heap.get? sysModules).isSome)
 val:=fun w=>((kmHook KF asK asK_eq tabs).val w,true)
 says:=fun w h=>(kmHook KF asK asK_eq tabs).says w h /\ (h.get? sysModules).isSome = true
 of:=fun w s e=>(iX0b ((kmHook KF asK asK_eq tabs).of w s (Prod.mk.inj e).1) ((Prod.mk.inj e).2))
 keeps:=fun w h h' x k=>⟨(kmHook KF asK asK_eq tabs).keeps w h h' x.1 k,by
  obtain ⟨o,ho⟩:=Option.isSome_iff_exists.mp x.2
  rw [k _ _ ho];rfl⟩
noncomputable abbrev Xt (s : Shared) : Bool:=xlAt vw lv s && recOk (RowW.records rwR.toRowW) s
noncomputable def runG (ok : Thread -> Bool) (stp : SharedT -> Thread -> Option (SharedT × Thread)) : Nat -> SharedT -> Thread -> Option SharedT
 | 0,_,_=>none
 | n + 1,s,t=>match through t with
  | true=>some s
  | false=>match ok t with
   | false=>none
   | true=>match stp s t with
    | some (s',t')=>runG ok stp n s' t'
    | none=>none
theorem runG_spec {tb : String -> Option Builtin} {p : Program} {w : World} {n₀ : Nat} {ann : Option Value} : ∀ (n : Nat) (s : SharedT) (t : Thread) (r : SharedT),runG (stepOk n₀ ann) (stepT (denote tb) p w) n s t = some r -> topRun tb p w n₀ ann n s.abs t = some r.abs
 | 0,_,_,_,h=>by cases h
 | n + 1,s,t,r,h=>by
  unfold runG at h
  unfold topRun
  cases ht : through t with
  | true=>rw [ht] at h;exact congrArg (fun x=>x.map SharedT.abs) h
  | false =>
   rw [ht] at h
   cases hk : stepOk n₀ ann t with
   | false=>rw [hk] at h;cases h
   | true =>
    rw [hk] at h
    cases hs : stepT (denote tb) p w s t with
    | none=>rw [hs] at h;cases h
    | some x =>
     obtain ⟨s',t'⟩:=x
     rw [hs] at h
     have:=stepT_spec hs
     dsimp only at h ⊢
     rw [this]
     exact runG_spec n s' t' r h
noncomputable abbrev bt0 (P : Params) : BT:=([boot_o_0 P,boot_o_1 P,boot_o_2 P,boot_o_3 P,boot_o_4 P,boot_o_5 P,boot_o_6 P,boot_o_7 P,boot_o_8 P,boot_o_9 P,boot_o_10 P].foldl (fun (x : BT × Nat) o=>(x.1.ins x.2 o,x.2 + 1)) (BT.nil,0)).1
theorem bt0_abs (P : Params) : absHeap (bt0 P) 11 {} = boot_heap P:=by kernel_rfl
theorem map_parts {σ α β γ δ ε ζ : Type} {o : Option σ} {p : σ -> β} {f : σ -> α × γ × δ × ε × ζ} {b : β} {g : α × γ × δ × ε × ζ} (h1 : o.map (fun s=>(p s,(f s).1)) = some (b,g.1))
  (h2 : o.map (fun s=>((f s).2.1,(f s).2.2.1,(f s).2.2.2.1)) = some (g.2.1,g.2.2.1,g.2.2.2.1)) (h3 : o.map (fun s=>(f s).2.2.2.2) = some g.2.2.2.2) : o.map (fun s=>(p s,f s)) = some (b,g):=by
 cases o with
 | none=>cases h1
 | some s =>
  have e1:=Prod.mk.inj (Option.some.inj h1)
  have e2:=Prod.mk.inj (Option.some.inj h2)
  have e3:=Prod.mk.inj e2.2
  exact congrArg some (Prod.ext e1.1 (Prod.ext e1.2 (Prod.ext e2.1 (Prod.ext e3.1 (Prod.ext e3.2 (Option.some.inj h3))))))
noncomputable abbrev topR (w : World) (os : OsState) : Option SharedT:=(runG (stepOk 11 (some (.ref 6))) (stepT (denote treeTable) pw w) 7000 ⟨bt0 w.params,11,{},#[],boot_drawn,boot_toks,os⟩ (topStub pw))
noncomputable abbrev topSee (s : SharedT):=openSeen vw loose (importedModules pw.main.body) Xt true s.abs
noncomputable abbrev topSees (w : World) (s : SharedT) : Bool:=staticsOk (importedModules pw.main.body) (boot_heap w.params) s.abs.heap && namesBound pw s.abs.heap && gensDone s.abs && laidKept (boot_heap w.params) s.abs.heap
theorem run_A1 (w : World) (os : OsState) : (topR w os).map (fun s=>(topSees w s,(topSee s).1)) = some (true,(openGood vw loose).1):=by
 unfold topR topSees topSee
 rw [PySem.W.Fast.te6613529449190102663,PySem.W.Fast.te10156331382660048174,PySem.W.Fast.te11892475500146522536,PySem.W.Fast.te14364793385576792824,PySem.W.Fast.te4187177175401517315]
 unfold PySem.W.Fast.tw4187177175401517315 openGood
 dsimp only
 kernel_rfl
theorem run_A2 (w : World) (os : OsState) : (topR w os).map (fun s=>((topSee s).2.1,(topSee s).2.2.1,(topSee s).2.2.2.1)) = some ((openGood vw loose).2.1,(openGood vw loose).2.2.1,(openGood vw loose).2.2.2.1):=by
 unfold topR topSee
 rw [PySem.W.Fast.te6613529449190102663,PySem.W.Fast.te10156331382660048174,PySem.W.Fast.te11892475500146522536,PySem.W.Fast.te14364793385576792824,PySem.W.Fast.te4187177175401517315]
 unfold PySem.W.Fast.tw4187177175401517315 openGood
 dsimp only
 kernel_rfl
theorem run_A3 (w : World) (os : OsState) : (topR w os).map (fun s=>(topSee s).2.2.2.2) = some (openGood vw loose).2.2.2.2:=by
 unfold topR topSee
 rw [PySem.W.Fast.te6613529449190102663,PySem.W.Fast.te10156331382660048174,PySem.W.Fast.te11892475500146522536,PySem.W.Fast.te14364793385576792824,PySem.W.Fast.te4187177175401517315]
 unfold PySem.W.Fast.tw4187177175401517315 openGood
 dsimp only
 kernel_rfl
noncomputable def tget (s : SharedT) (a : Addr) : Option Obj:=match Nat.blt a s.n with
 | true=>alive ((s.tree.get a).getD default)
 | false=>none
theorem tget_eq (s : SharedT) (a : Addr) : s.abs.heap.get? a = tget s a:=by
 unfold tget
 show (absHeap s.tree s.n s.life).get? a = _
 unfold Heap.get?
 rw [absHeap_at]
 cases h : Nat.blt a s.n with
 | true =>
  rw [if_pos (show a < s.n from Nat.le_of_ble_eq_true h)]
  obtain ⟨c,d,dt,sl⟩:=(s.tree.get a).getD default
  cases dt <;> rfl
 | false=>rw [if_neg fun q : a < s.n=>by rw [show Nat.blt a s.n = true from Nat.ble_eq_true_of_le q] at h;cases h]
noncomputable def obsT (s : SharedT) : hook.α:=((asK.map (tget s),tabs.map (tget s)),(tget s sysModules).isSome)
theorem obsT_eq (s : SharedT) : hook.obs s.abs = obsT s:=by
 unfold obsT
 rw [<- show s.abs.heap.get? = tget s from funext (tget_eq s)]
 rfl
theorem run_B (w : World) (os : OsState) : (topR w os).map obsT = some (hook.val w):=by
 unfold topR
 rw [PySem.W.Fast.te6613529449190102663,PySem.W.Fast.te10156331382660048174,PySem.W.Fast.te11892475500146522536,PySem.W.Fast.te14364793385576792824]
 kernel_rfl
theorem left_of {p q : Program} {lo : List Str} {X : Shared -> Bool} {α : Type} {Yf : Shared -> α} {Ya : World -> α} {N : Nat} {H₀ : Params -> Heap} {bt : Params -> BT} {n₁ : Nat} {d₀ : Drawn} {k₀ : Nat} {m₀ : Nat} {ann : Option Value}
  (open_ : ∀ w : World,(fencedOpening treeTable p w N).map (fun s=>(s.heap,s.gens,s.drawn,s.toks)) = some (H₀ w.params,Array.mk [],d₀,k₀))
  (size : ∀ w : World,((H₀ w.params).isNs mainGlobals && (#[] : Array GenState).size == 0,(H₀ w.params).objs.size,(H₀ w.params).nsMap mainGlobals "__annotations__") = (true,m₀,ann))
  (tree : ∀ P,absHeap (bt P) n₁ {} = H₀ P)
  (A : ∀ (w : World) (os : OsState),(runG (stepOk m₀ ann) (stepT (denote treeTable) p w) N ⟨bt w.params,n₁,{},#[],d₀,k₀,os⟩ (topStub p)).map (fun s=>(staticsOk (importedModules p.main.body) (H₀ w.params) s.abs.heap && namesBound p s.abs.heap && gensDone s.abs && laidKept (H₀ w.params) s.abs.heap,openSeen q lo (importedModules p.main.body) X true s.abs)) = some (true,openGood q lo))
  (B : ∀ (w : World) (os : OsState),(runG (stepOk m₀ ann) (stepT (denote treeTable) p w) N ⟨bt w.params,n₁,{},#[],d₀,k₀,os⟩ (topStub p)).map (fun s=>Yf s.abs) = some (Ya w)) : LeftO p q lo X Yf Ya N:=fun w=>by
 obtain ⟨⟨h,gs,d,k,os⟩,e,e'⟩:=Option.map_eq_some_iff.mp (open_ w)
 obtain ⟨rfl,rfl,rfl,rfl⟩ : h = H₀ w.params /\ gs = #[] /\ d = d₀ /\ k = k₀:=by simpa using e'
 obtain ⟨z1,z2,z3⟩ : _ /\ _ /\ _:=by simpa only [Prod.mk.injEq] using size w
 obtain ⟨r,hr,ha⟩:=Option.map_eq_some_iff.mp (A w os)
 obtain ⟨r',hr',hb⟩:=Option.map_eq_some_iff.mp (B w os)
 obtain rfl : r = r':=Option.some.inj (hr.symm.trans hr')
 have t:=runG_spec _ _ _ _ hr
 obtain ⟨l1,l2⟩:=Prod.mk.inj ha
 have t' : topFrom treeTable p w N ⟨H₀ w.params,#[],d,k,os⟩ = some r.abs:=by
  unfold topFrom
  dsimp only
  rw [z1,z2,z3]
  have : (⟨bt w.params,n₁,{},#[],d,k,os⟩ : SharedT).abs = ⟨H₀ w.params,#[],d,k,os⟩:=congrArg (fun h=>(⟨h,#[],d,k,os⟩ : Shared)) (tree w.params)
  rw [this] at t
  rw [t]
  show (match (staticsOk (importedModules p.main.body) (H₀ w.params) r.abs.heap && namesBound p r.abs.heap && gensDone r.abs && laidKept (H₀ w.params) r.abs.heap) with | true=>some r.abs | false=>none) = _
  rw [l1]
 unfold openEnds
 rw [e]
 show (topFrom treeTable p w N _).map _ = _
 rw [t']
 exact congrArg some (Prod.ext l2 hb)
theorem size_ok (w : World) : ((boot_heap w.params).isNs mainGlobals && (#[] : Array GenState).size == 0,(boot_heap w.params).objs.size,(boot_heap w.params).nsMap mainGlobals "__annotations__") = (true,11,some (.ref 6)):=by kernel_rfl
theorem open_ok : opening pw = plainProg pw.main.scope.names:=by kernel_rfl
theorem fence_ok (s : Shared) : fenceModules? pw s = some s:=by kernel_rfl
theorem left_ok : LeftO pw vw loose Xt hook.obs hook.val 7000:=left_of (boot_open open_ok (by decide) fence_ok) size_ok bt0_abs (fun w os=>map_parts (run_A1 w os) (run_A2 w os) (run_A3 w os)) fun w os=>(congrArg (fun f=>Option.map f _) (funext obsT_eq)).trans (run_B w os)
inductive AV where
 | none
 | bool (b : Bool)
 | int (i : Int)
 | str (s : Str)
 | bytes (b : List UInt8)
 | ref (a : Addr)
 | type (n : String)
 | builtin (n : String)
 | other
noncomputable def er : Value -> AV
 | .none=>.none
 | .bool b=>.bool b
 | .int i _=>.int i
 | .str s _=>.str s
 | .bytes b _=>.bytes b.toList
 | .ref a=>.ref a
 | .type n=>.type n
 | .builtin n=>.builtin n
 | _=>.other
noncomputable def ErInv (v : Value) : AV -> Prop
 | .none=>v = .none
 | .bool b=>v = .bool b
 | .int i=>∃ t,v = .int i t
 | .str i=>∃ t,v = .str i t
 | .bytes b=>∃ t,v = .bytes b.toArray t
 | .ref a=>v = .ref a
 | .type a=>v = .type a
 | .builtin a=>v = .builtin a
 | .other=>True
theorem er_inv (v : Value) : ErInv v (er v):=by
 cases v <;> first | exact trivial | rfl | exact iX1a _ rfl
theorem er_at {v : Value} {a : AV} (h : er v = a) : ErInv v a:=h ▸ er_inv v
theorem er_none {v : Value} (h : er v = .none) : v = .none:=er_at h
theorem er_bool {v : Value} {b} (h : er v = .bool b) : v = .bool b:=er_at h
theorem er_int {v : Value} {i} (h : er v = .int i) : ∃ t,v = .int i t:=er_at h
theorem er_str {v : Value} {i} (h : er v = .str i) : ∃ t,v = .str i t:=er_at h
theorem er_bytes {v : Value} {b} (h : er v = .bytes b) : ∃ t,v = .bytes b.toArray t:=er_at h
theorem er_ref {v : Value} {a} (h : er v = .ref a) : v = .ref a:=er_at h
theorem er_type {v : Value} {a} (h : er v = .type a) : v = .type a:=er_at h
inductive IK where
 | list (l : Addr) (i : Nat)
 | tup (l : Addr) (i : Nat)
 | range (x left step : Int)
 | key (d : Addr) (i n ep : Nat)
inductive AO where
 | list (xs : List AV)
 | tuple (xs : List AV)
 | dictI (b : Bool) (ep : Option Nat) (es : List (Int × AV))
 | dictS (b : Bool) (es : List (Str × AV))
 | inst (C d : Addr)
 | iter (k : IK)
 | range (a b c : Int)
 | exc (C : Addr) (b : Bool)
 | raw (o : Obj)
inductive All2 {α β : Type} (R : α -> β -> Prop) : List α -> List β -> Prop
 | nil : All2 R [] []
 | cons {a b l m} : R a b -> All2 R l m -> All2 R (a :: l) (b :: m)
theorem All2.imp {α β : Type} {R S : α -> β -> Prop} (h : ∀ a b,R a b -> S a b) {l : List α} {m : List β} (x : All2 R l m) : All2 S l m:=by
 induction x with
 | nil=>exact .nil
 | cons x _ ih=>exact .cons (h _ _ x) ih
noncomputable def EntI (e : DictEntry) (kv : Int × AV) : Prop:=(∃ t,e.key = .int kv.1 t) /\ e.hash = hashInt kv.1 /\ er e.val = kv.2
noncomputable def EntS (w : World) (e : DictEntry) (kv : Str × AV) : Prop:=(∃ t,e.key = .str kv.1 t) /\ e.hash = hashStr w kv.1 /\ er e.val = kv.2
noncomputable abbrev tupOf (its : Array Value) (n : Nat) : Obj:={ cls:=.type "tuple",data:=.seq its n }
noncomputable def Tabby (o : Obj) (vs : Array Value) : Prop:=o.cls = .none \/ ∃ q t,vs[1]? = some (.str q t)
noncomputable def Rep (w : World) (o : Obj) : AO -> Prop
 | .list xs=>∃ its n,o = listOf its n /\ its.toList.map er = xs
 | .tuple xs=>∃ its n,o = tupOf its n /\ its.toList.map er = xs
 | .dictI _ ep es=>∃ ents n,o = dictOf ents n /\ All2 EntI ents es /\ (es.map (·.1)).Nodup /\ ∀ n',ep = some n' -> n = n'
 | .dictS _ es=>∃ ents n,o = dictOf ents n /\ All2 (EntS w) ents es /\ (es.map (·.1)).Nodup
 | .inst C d=>o = instObj C d
 | .iter (.list l i)=>o.cls = .type "list_iterator" /\ o.data = .fields #[.ref l,.int i 0]
 | .iter (.tup l i)=>o.cls = .type "tuple_iterator" /\ o.data = .fields #[.ref l,.int i 0]
 | .iter (.range x left step)=>o = { cls:=.type "range_iterator",dict:=none,data:=.fields #[rawInt x,rawInt left,rawInt step],slots:=#[] }
 | .iter (.key d i n ep)=>o.cls = .type "dict_keyiterator" /\ o.data = .fields #[.ref d,.int i 0,.int n 0,.int ep 0]
 | .range a b c=>∃ t u v,o = { cls:=.type "range",dict:=none,data:=.fields #[.int a t,.int b u,.int c v],slots:=#[] }
 | .raw o'=>o = o' /\ o'.isFreed = false /\ ∀ vs,o'.data = .fields vs -> ¬ Tabby o' vs
 | .exc C b=>∃ t dd,(b = true -> dd = none) /\ o = { cls:=.ref C,dict:=dd,data:=.fields #[.ref t,.none,.none,.none,.bool false,.none],slots:=#[] }
noncomputable def isStrO : Option Value -> Bool
 | some (.str _ _)=>true
 | _=>false
noncomputable def isNoneV : Value -> Bool
 | .none=>true
 | _=>false
noncomputable def fld1 : Data -> Option Value
 | .fields vs=>vs[1]?
 | _=>none
noncomputable def tabB (o : Obj) : Bool:=isNoneV o.cls || isStrO (fld1 o.data)
theorem tabB_of {o : Obj} {vs : Array Value} (q : o.data = .fields vs) (t : Tabby o vs) : tabB o = true:=by
 obtain ⟨c,d,dt,sl⟩:=o
 cases q
 refine t.elim (fun e=>?_) fun z=>eX2a z fun y t e=>?_
 ·cases e;rfl
 ·exact (congrArg (fun x=>isNoneV c || isStrO x) (show fld1 (.fields vs) = _ from e)).trans (Bool.or_true _)
theorem freed_of {o : Obj} {vs : Array Value} (h : o.data = .fields vs) : o.isFreed = false:=by
 obtain ⟨c,d,dt,sl⟩:=o
 simp only at h;subst h;rfl
theorem look_of {o o' : Obj} (e : o = o') (h : (tabB o' || o'.isFreed) = false) : (tabB o || o.isFreed) = false:=e ▸ h
theorem look_at {o : Obj} {n : String} {vs : Array Value} (h : o.cls = .type n /\ o.data = .fields vs) (k : isStrO vs[1]? = false) : (tabB o || o.isFreed) = false:=by
 obtain ⟨c,d,dt,sl⟩:=o
 obtain ⟨h1,h2⟩:=h
 cases h1;cases h2
 exact (congrArg (_ || ·) (show Obj.isFreed ⟨.type n,d,.fields vs,sl⟩ = false from rfl)).trans ((Bool.or_false _).trans k)
theorem Rep.look {w : World} {o : Obj} {ao : AO} (r : Rep w o ao) (n : ∀ o',ao ≠ .raw o') : (tabB o || o.isFreed) = false:=by
 cases ao with
 | raw o'=>exact absurd rfl (n o')
 | list=>exact eX2b r fun _ _ e _=>look_of e rfl
 | tuple=>exact eX2b r fun _ _ e _=>look_of e rfl
 | dictI=>exact eX2b r fun _ _ e _=>look_of e rfl
 | dictS=>exact eX2b r fun _ _ e _=>look_of e rfl
 | inst=>exact look_of r rfl
 | range=>exact eX3a r fun _ _ _ e=>look_of e rfl
 | exc=>exact eX2b r fun _ _ _ e=>look_of e rfl
 | iter k =>
  cases k with
  | range=>exact look_of r rfl
  | list=>exact look_at r rfl
  | tup=>exact look_at r rfl
  | key=>exact look_at r rfl
theorem Rep.notTab {w : World} {o : Obj} {ao : AO} (r : Rep w o ao) (vs : Array Value) (q : o.data = .fields vs) (tb : Tabby o vs) : False:=by
 by_cases n : ∃ o',ao = .raw o'
 ·refine eX1a n fun o' e=>?_
  subst e
  exact r.2.2 vs (r.1 ▸ q) (r.1 ▸ tb)
 ·exact absurd (tabB_of q tb) (ne_true_of_eq_false (Bool.or_eq_false_iff.mp (r.look fun o' e=>n ⟨o',e⟩)).1)
theorem Rep.notFreed {w : World} {o : Obj} {ao : AO} (r : Rep w o ao) : o.isFreed = false:=by
 by_cases n : ∃ o',ao = .raw o'
 ·refine eX1a n fun o' e=>?_
  subst e
  exact r.1 ▸ r.2.1
 ·exact (Bool.or_eq_false_iff.mp (r.look fun o' e=>n ⟨o',e⟩)).2
theorem ifT {c : Prop} [d : Decidable c] {a b : Prop} (h : c) (x : a) : ite c a b:=Eq.mpr (if_pos h) x
theorem ifF {c : Prop} [d : Decidable c] {a b : Prop} (h : ¬ c) (x : b) : ite c a b:=Eq.mpr (if_neg h) x
theorem lnF {vs : List Value} {n : Nat} (h : vs.length = n) : ∃ f : Nat -> Value,vs = (List.range n).map f :=
 (iX1a (fun i=>vs.getD i .none) (List.ext_getElem (by simp [h]) fun i h1 _=>by simp [List.getD,h1]))
theorem oneS {vs : List Value} {a : AV} {as : List AV} (h : vs.map er = a :: as) : ∃ x t,vs = x :: t /\ er x = a /\ t.map er = as:=by
 cases vs with
 | nil=>cases h
 | cons x t=>exact (iX2c x t rfl ((List.cons.inj h).1) ((List.cons.inj h).2))
theorem one_of {vs : List Value} {a : AV} (h : vs.map er = [a]) : ∃ x,vs = [x] /\ er x = a:=by
 refine eX2c (oneS h) fun x t ee24 h1 h0=>?_;subst ee24
 cases List.map_eq_nil_iff.mp h0
 exact (iX1b x rfl h1)
theorem two_of {vs : List Value} {a b : AV} (h : vs.map er = [a,b]) : ∃ x y,vs = [x,y] /\ er x = a /\ er y = b:=by
 refine eX2c (oneS h) fun x t ee25 h1 h0=>?_;subst ee25
 refine eX1b (one_of h0) fun y ee26 h2=>?_;subst ee26
 exact (iX2c x y rfl h1 h2)
theorem three_of {vs : List Value} {a b c : AV} (h : vs.map er = [a,b,c]) : ∃ x y z,vs = [x,y,z] /\ er x = a /\ er y = b /\ er z = c:=by
 refine eX2c (oneS h) fun x t ee27 h1 h0=>?_;subst ee27
 refine eX2c (two_of h0) fun y z ee28 h2 h3=>?_;subst ee28
 exact (iX3d x y z rfl h1 h2 h3)
noncomputable abbrev Mem:=Addr -> Option AO
noncomputable def mset (m : Mem) (a : Addr) (o : AO) : Mem:=fun b=>if b = a then some o else m b
theorem neN {β : Type} {m : Addr -> Option β} {a b : Addr} {o : β} (h : m a = none) (e : m b = some o) : b ≠ a:=fun q=>by rw [q,h] at e;cases e
theorem mset_same (m : Mem) (a : Addr) (o : AO) : mset m a o a = some o:=by simp [mset]
theorem mset_ne {m : Mem} {a b : Addr} {o : AO} (h : b ≠ a) : mset m a o b = m b:=by simp [mset,h]
noncomputable abbrev Loc:=List (Str × AV)
noncomputable abbrev Loc.get (l : Loc) (x : Str) : Option AV:=l.lookup x
noncomputable def Loc.le (l' l : Loc) : Prop:=∀ x v,l'.lookup x = some v -> l.lookup x = some v
theorem Loc.le_refl (l : Loc) : Loc.le l l:=fun _ _ h=>h
theorem Loc.le_nil (l : Loc) : Loc.le [] l:=fun _ _ h=>by cases h
theorem Loc.le_cons {l l' : Loc} {x : Str} {v : AV} (h : l.lookup x = some v) (r : Loc.le l' l) : Loc.le ((x,v) :: l') l:=by
 intro y u e
 rw [List.lookup_cons] at e
 cases hb : y == x with
 | true=>rw [hb] at e;rw [eq_of_beq hb];rw [<- e];exact h
 | false=>rw [hb] at e;exact r y u e
set_option genInjectivity false
set_option genSizeOf false
structure Tab where
 P : Addr
 line : Nat
 col : Nat
 qual : Str
noncomputable def TabOK (ts : List Tab) (h : Heap) : Prop:=∀ q ∈ ts,∃ ps,h.get? q.P = some (tabObj ps) /\ (ps = #[] \/ ∃ c',ps = #[rawInt q.line,rawInt q.col,.ref c'] /\ h.CodeRec (.ref c') q.qual)
noncomputable def frs (l : List Env) : List Addr:=l.filterMap (·.frame)
structure Cx where
 w : World
 hb : Heap
 mg : Str -> Option Value
 mb : Str -> Option Value
 loose : List Str
 mean : ExcName -> Option Value
 ts : List Tab
 A : Around
 env : Env
 l : List Env
 G : Addr -> Option Obj
 g : Array GenState
 d : Drawn
 os : OsState
 wr : Bool
structure StB (cx : Cx) (mem : Mem) (B : Heap) : Prop where
 kept : ∀ b o,cx.G b = some o -> b ∉ frs cx.l -> B.get? b = some o
 tr : ∀ a ao,mem a = some ao -> cx.G a = none /\ ∃ o,B.get? a = some o /\ Rep cx.w o ao
 tab : TabOK cx.ts B
noncomputable def Fram (cx : Cx) (h : Heap) : Prop:=∀ b o,cx.G b = some o -> b ∈ frs cx.l -> ∃ sl,h.get? b = some { o with slots:=sl }
structure Rm (n : Nat) (A : Around) : Prop where
 depth : A.depth + 20 * n <= 900
 units : A.units + 200 * n <= 9000
 handled : A.handled = none
structure CxOk (cx : Cx) : Prop where
 X : (KF cx.w.params).In cx.hb
 T : Top topProg cx.loose cx.mean cx.mg cx.mb cx.hb
 base : ∀ b o,cx.hb.get? b = some o -> cx.G b = some o
 sysm : (cx.hb.get? sysModules).isSome = true
 baseF : ∀ b ∈ frs cx.l,cx.hb.get? b = none
 baseT : ∀ q ∈ cx.ts,cx.G q.P = none
 depth : cx.A.depth <= 900
 units : cx.A.units <= 9000
 handled : cx.A.handled = none
 frames : cx.A.frames = some cx.l
 kind : cx.env.scope.kind = .function
 above : cx.hb.objs.size <= cx.env.locals
 cellsAll : ∀ x,cx.env.kindOf x = some .cell -> ∃ c,cx.env.cells.lookup x = some c
 glob : cx.env.globals = mainGlobals
 blt : cx.env.builtins = builtinsNs
 outer : ∀ e ∈ cx.l,e.scope.kind ≠ .module /\ ∃ L,e.frame = some L /\ ((∃ o es n,cx.G L = some o /\ o.data = .dict es n) \/ L = cx.env.locals)
structure Fm (cx : Cx) (loc : Loc) (mem : Mem) (h : Heap) : Prop where
 ns : ∃ m,h.Ns cx.env.locals m /\ ∀ x v,cx.env.kindOf x = some .local -> loc.lookup x = some v -> ∃ u,m x = some u /\ er u = v
 own : cx.G cx.env.locals = none
 ownM : mem cx.env.locals = none
 cells : ∀ x c,cx.env.cells.lookup x = some c -> mem c = none /\ c ≠ cx.env.locals /\ (∃ v,h.IsCell c v) /\
  (cx.env.kindOf x = some .cell \/ cx.env.kindOf x = some .free -> ∀ v,loc.lookup x = some v -> ∃ u,h.IsCell c (some u) /\ er u = v) /\ (cx.wr = true -> cx.env.kindOf x = some .cell -> cx.G c = none)
 apart : ∀ x y c,cx.env.cells.lookup x = some c -> cx.env.cells.lookup y = some c -> x = y
 bound : ∀ x v,loc.lookup x = some v -> cx.env.kindOf x = some .local \/ ((cx.env.kindOf x = some .cell \/ cx.env.kindOf x = some .free) /\ ∃ c,cx.env.cells.lookup x = some c)
structure InSt (cx : Cx) (loc : Loc) (mem : Mem) (s : Shared) : Prop where
 ok : CxOk cx
 st : StB cx mem s.heap
 fr : Fram cx s.heap
 fm : Fm cx loc mem s.heap
 gens : s.gens = cx.g
 drawn : s.drawn = cx.d
 os : s.os = cx.os
theorem TabOK.keep {ts : List Tab} {h h' : Heap} (x : TabOK ts h) (k : ∀ b o vs,h.get? b = some o -> o.data = .fields vs -> Tabby o vs -> h'.get? b = some o) : TabOK ts h':=fun q hq=>by
 refine eX1b (x q hq) fun ps hP r=>?_
 refine (iX1b ps (k _ _ _ hP rfl (.inl rfl)) (r.imp id fun zq1=>eX1b zq1 fun c' e hc=>(iX1b c' e ?_)))
 refine eX4d hc fun c o vs t e1 e2 e3 e4=>?_
 exact (iX4d c o vs t e1 (k _ _ _ e2 e3 (.inr (iX2a _ _ e4))) e3 e4)
section
variable {cx : Cx} {loc : Loc} {mem mem' : Mem} {s : Shared} {a : Addr}
theorem InSt.ext (I : InSt cx loc mem s) {h' : Heap} {t : Nat} (x : Heap.ExtBut a s.heap h') (hG : cx.G a = none) (hL : a ≠ cx.env.locals) (hC : ∀ y c,cx.env.cells.lookup y = some c -> c ≠ a)
  (hF : ∀ o vs,s.heap.get? a = some o -> o.data = .fields vs -> ¬ Tabby o vs) (tr : ∀ b ao,mem' b = some ao -> cx.G b = none /\ ∃ o,h'.get? b = some o /\ Rep cx.w o ao)
  (hm : mem' cx.env.locals = none) (hmc : ∀ y c,cx.env.cells.lookup y = some c -> mem' c = none) : InSt cx loc mem' { s with heap:=h',toks:=t }:=by
 have gne : ∀ b o,cx.G b = some o -> b ≠ a:=fun b o e q=>by rw [q,hG] at e;cases e
 refine ⟨I.ok,⟨fun b o e n=>x b o (gne b o e) (I.st.kept b o e n),tr,I.st.tab.keep fun b o vs e q tb=>x b o (fun z=>hF o vs (z ▸ e) q tb) e⟩,fun b o e n=>?_,?_,I.gens,I.drawn,I.os⟩
 ·refine eX1a (I.fr b o e n) fun sl hs=>?_
  exact (iX1a sl (x b _ (gne b o e) hs))
 ·refine eX1b (I.fm.ns) fun m hn hm'=>?_
  refine ⟨(iX1b m (hn.extBut x (Ne.symm hL)) hm'),I.fm.own,hm,fun y c e=>?_,I.fm.apart,I.fm.bound⟩
  refine eX0e (I.fm.cells y c e) fun c1 c2 zz29 c4 c5=>?_;refine eX2b zz29 fun v o ho hd=>?_
  refine (iX0e (hmc y c e) c2 (iX2b v o (x c o (hC y c e) ho) hd) (fun hk u hu=>?_) c5)
  refine eX1b (c4 hk u hu) fun u' zz30 hu'=>?_;refine eX1b zz30 fun o' ho' hd'=>?_
  exact (iX1b u' (iX1b o' (x c o' (hC y c e) ho') hd') hu')
theorem InSt.fresh (I : InSt cx loc mem s) : mem s.heap.objs.size = none /\ cx.G s.heap.objs.size = none /\ s.heap.objs.size ≠ cx.env.locals /\ (∀ y c,cx.env.cells.lookup y = some c -> c ≠ s.heap.objs.size):=by
 refine (iX0d ?_ ?_ ?_ (fun y c e q=>?_))
 ·cases q : mem s.heap.objs.size with
  | none=>rfl
  | some ao=>obtain ⟨_,o,ho,_⟩:=I.st.tr _ _ q;exact absurd (Heap.lt_size ho) (Nat.lt_irrefl _)
 ·cases q : cx.G s.heap.objs.size with
  | none=>rfl
  | some o =>
   by_cases hf : s.heap.objs.size ∈ frs cx.l
   ·refine eX1a (I.fr _ _ q hf) fun sl hs=>?_;exact absurd (Heap.lt_size hs) (Nat.lt_irrefl _)
   ·exact absurd (Heap.lt_size (I.st.kept _ _ q hf)) (Nat.lt_irrefl _)
 ·refine eX1b (I.fm.ns) fun m hn _=>?_
  exact fun q=>absurd hn.lt (q ▸ Nat.lt_irrefl _)
 ·refine eX0d (I.fm.cells y c e) fun _ _ zz31 _=>?_;refine eX2b zz31 fun v o ho _=>?_
  exact absurd (Heap.lt_size ho) (q ▸ Nat.lt_irrefl _)
theorem InSt.grow (I : InSt cx loc mem s) {h' : Heap} {t : Nat} (x : ∀ b o,s.heap.get? b = some o -> h'.get? b = some o) : InSt cx loc mem { s with heap:=h',toks:=t } :=
 have f:=I.fresh
 I.ext (a:=s.heap.objs.size) (fun b o _ e=>x b o e) f.2.1 f.2.2.1 f.2.2.2 (fun o vs e=>absurd (Heap.lt_size e) (Nat.lt_irrefl _))
  (fun b ao e=>let ⟨h1,o,h2,h3⟩:=I.st.tr b ao e;⟨h1,o,x _ _ h2,h3⟩) I.fm.ownM fun y c e=>(I.fm.cells y c e).1
theorem InSt.toks (I : InSt cx loc mem s) {t : Nat} : InSt cx loc mem { s with toks:=t }:=I.grow fun _ _ e=>e
theorem InSt.get (I : InSt cx loc mem s) {ao : AO} (e : mem a = some ao) : ∃ o,s.heap.get? a = some o /\ Rep cx.w o ao:=(I.st.tr a ao e).2
theorem InSt.lt (I : InSt cx loc mem s) {ao : AO} (e : mem a = some ao) : a < s.heap.objs.size:=let ⟨_,ho,_⟩:=I.get e;Heap.lt_size ho
theorem InSt.push (I : InSt cx loc mem s) {o : Obj} {ao : AO} {t : Nat} (r : Rep cx.w o ao) : InSt cx loc (mset mem s.heap.objs.size ao) { s with heap:=s.heap.push o,toks:=t }:=by
 have f:=I.fresh
 refine I.ext (a:=s.heap.objs.size) (fun b o' _ e=>Heap.get?_push_of_some _ e) f.2.1 f.2.2.1 f.2.2.2 (fun o vs e=>absurd (Heap.lt_size e) (Nat.lt_irrefl _)) (fun b ao' e=>?_) ?_ fun y c e=>?_
 ·by_cases hb : b = s.heap.objs.size
  ·subst hb
   rw [mset_same] at e;cases e
   exact ⟨f.2.1,o,Heap.get?_push_size _ r.notFreed,r⟩
  ·rw [mset_ne hb] at e
   obtain ⟨h1,o',h2,h3⟩:=I.st.tr b ao' e
   exact ⟨h1,o',Heap.get?_push_of_some _ h2,h3⟩
 ·rw [mset_ne (Ne.symm f.2.2.1)];exact I.fm.ownM
 ·rw [mset_ne (f.2.2.2 y c e)];exact (I.fm.cells y c e).1
theorem InSt.upd (I : InSt cx loc mem s) {h' : Heap} {o' : Obj} {ao ao' : AO} {t : Nat} (e : mem a = some ao) (x : Heap.ExtBut a s.heap h') (ho : h'.get? a = some o') (r : Rep cx.w o' ao') :
  InSt cx loc (mset mem a ao') { s with heap:=h',toks:=t }:=by
 obtain ⟨hG,o,hoo,hr⟩:=I.st.tr a ao e
 have hL : a ≠ cx.env.locals:=fun q=>by rw [q,I.fm.ownM] at e;cases e
 have hC : ∀ y c,cx.env.cells.lookup y = some c -> c ≠ a:=fun y c ec q=>by have:=(I.fm.cells y c ec).1;rw [q,e] at this;cases this
 refine I.ext x hG hL hC (fun o2 vs e2=>by rw [hoo] at e2;cases e2;exact hr.notTab vs) (fun b ao2 e2=>?_) ?_ fun y c ec=>?_
 ·by_cases hb : b = a
  ·subst hb
   rw [mset_same] at e2;cases e2
   exact ⟨hG,o',ho,r⟩
  ·rw [mset_ne hb] at e2
   obtain ⟨h1,o2,h2,h3⟩:=I.st.tr b ao2 e2
   exact ⟨h1,o2,x b o2 hb h2,h3⟩
 ·rw [mset_ne (Ne.symm hL)];exact I.fm.ownM
 ·rw [mset_ne (hC y c ec)];exact (I.fm.cells y c ec).1
noncomputable def MLe (m' m : Mem) : Prop:=∀ a o,m' a = some o -> m a = some o
theorem MLe.none_of {m m' : Mem} (l : MLe m' m) {a : Addr} (e : m a = none) : m' a = none:=by
 cases q : m' a with
 | none=>rfl
 | some o=>rw [l a o q] at e;cases e
theorem InSt.less (I : InSt cx loc mem s) (l : MLe mem' mem) : InSt cx loc mem' s :=
 ⟨I.ok,⟨I.st.kept,fun a ao e=>I.st.tr a ao (l a ao e),I.st.tab⟩,I.fr,⟨I.fm.ns,I.fm.own,l.none_of I.fm.ownM,fun y c e=>let ⟨c1,r⟩:=I.fm.cells y c e;(iX0b (l.none_of c1) r),I.fm.apart,I.fm.bound⟩,I.gens,I.drawn,I.os⟩
theorem InSt.wloc {loc' : Loc} (I : InSt cx loc mem s) (l : Loc.le loc' loc) : InSt cx loc' mem s:=by
 refine eX1b (I.fm.ns) fun m hn hm=>?_
 exact ⟨I.ok,I.st,I.fr,⟨(iX1b m hn (fun x v k e=>hm x v k (l x v e))),I.fm.own,I.fm.ownM,fun y c e=>let ⟨c1,c2,c3,c4,c5⟩:=I.fm.cells y c e;(iX0e c1 c2 c3 (fun k v e'=>c4 k v (l y v e')) c5),I.fm.apart,
  fun x v e=>I.fm.bound x v (l x v e)⟩,I.gens,I.drawn,I.os⟩
theorem InSt.keep (I : InSt cx loc mem s) : ∀ b o,cx.hb.get? b = some o -> s.heap.get? b = some o:=fun b o e =>
 I.st.kept b o (I.ok.base b o e) fun h=>by rw [I.ok.baseF b h] at e;cases e
theorem InSt.fr0 (I : InSt cx loc mem s) : ∃ m,Fr cx.hb cx.env.locals s.heap m /\ ∀ x v,cx.env.kindOf x = some .local -> loc.lookup x = some v -> ∃ u,m x = some u /\ er u = v:=by
 refine eX1b (I.fm.ns) fun m hn hm=>?_
 exact (iX1b m (⟨hn,I.keep,I.ok.above⟩) hm)
theorem InSt.X (I : InSt cx loc mem s) : (KF cx.w.params).In s.heap:=I.ok.X.keeps I.keep
theorem InSt.T (I : InSt cx loc mem s) : Top topProg cx.loose cx.mean cx.mg cx.mb s.heap:=I.ok.T.keeps I.keep
end
noncomputable def ExcSt (cx : Cx) (C : Addr) (mem : Mem) (e : Value) (s : Shared) : Prop :=
 CxOk cx /\ s.gens = cx.g /\ s.drawn = cx.d /\ s.os = cx.os /\ Fram cx s.heap /\ (∃ m,s.heap.Ns cx.env.locals m) /\
 ∃ ea a0 B,e = .ref ea /\ StB cx mem B /\ B.StaysIn s.heap /\ B.get? ea = none /\ s.heap.FunFrames B cx.l /\
  ((∃ oe vs,s.heap.get? ea = some oe /\ oe.cls = .ref C /\ oe.data = .fields vs /\ vs[0]? = some a0 /\ vs[1]? = some .none) \/ Heap.FlyingW B cx.l ea (.ref C) a0 s.heap)
noncomputable abbrev MQ (α : Type):=α -> Mem -> Prop
noncomputable abbrev TPost {α : Type} (cx : Cx) (loc : Loc) (Q : MQ α) : α -> Shared -> Prop:=fun a s'=>∃ m',InSt cx loc m' s' /\ Q a m'
noncomputable abbrev EPost (cx : Cx) (X : MQ Addr) : Value -> Shared -> Prop:=fun e s'=>∃ C m',ExcSt cx C m' e s' /\ X C m'
noncomputable abbrev EvQ (Q : MQ AV) : MQ Value:=fun v m=>Q (er v) m
noncomputable def TV {α : Type} (cx : Cx) (t : Sem α) (loc : Loc) (mem : Mem) (Q : MQ α) (X : MQ Addr) : Prop :=
 ∀ s,InSt cx loc mem s -> wpAny (model pw cx.w) cx.A t (TPost cx loc Q) (EPost cx X) s
noncomputable abbrev NoX : MQ Addr:=fun _ _=>False
section
variable {α β : Type} {cx : Cx} {X : MQ Addr} {loc : Loc} {mem : Mem} {Q : MQ α}
theorem TV.mono {t : Sem α} {Q' : MQ α} {X' : MQ Addr} (h : TV cx t loc mem Q X) (hQ : ∀ a m,Q a m -> Q' a m) (hX : ∀ C m,X C m -> X' C m) : TV cx t loc mem Q' X':=fun s I =>
 wpAny_mono (h s I) (fun _ _ zq2=>eX1b zq2 fun m I' q=>(iX1b m I' (hQ _ _ q))) fun _ _ zq3=>eX2b zq3 fun C m I' q=>(iX2b C m I' (hX _ _ q))
theorem TV.go {t : Sem α} {s : Shared} {R : α -> Shared -> Prop} (h : TV cx t loc mem Q X) (I : InSt cx loc mem s) (k : ∀ a s' m,InSt cx loc m s' -> Q a m -> R a s') : wpAny (model pw cx.w) cx.A t R (EPost cx X) s :=
 wpAny_mono (h s I) (fun a s' z=>z.elim fun m z=>k a s' m z.1 z.2) fun _ _ x=>x
end
noncomputable def EV (cx : Cx) (e : Expr) (loc : Loc) (mem : Mem) (Q : MQ AV) (X : MQ Addr) : Prop:=TV cx (eval e cx.env) loc mem (EvQ Q) X
section
variable {cx : Cx} {X : MQ Addr} {loc : Loc} {mem : Mem} {Q : MQ AV}
theorem EV.mono {e : Expr} {Q' : MQ AV} {X' : MQ Addr} (h : EV cx e loc mem Q X) (hQ : ∀ a m,Q a m -> Q' a m) (hX : ∀ C m,X C m -> X' C m) : EV cx e loc mem Q' X':=TV.mono h (fun v m=>hQ (er v) m) hX
theorem EV.name {x : Str} {pos : Pos} {v : AV} (hv : loc.lookup x = some v) (h : Q v mem) (hd : (x == ("__debug__" : Str)) = false:=by decide) (hc : (x == ("__classdict__" : Str)) = false:=by decide) : EV cx (.Name x pos) loc mem Q X:=fun s I=>by
 rcases I.fm.bound x v hv with hk | ⟨hk,c,hc'⟩
 ·refine eX1b (I.fm.ns) fun m hn hm=>?_
  refine eX1b (hm x v hk hv) fun u hu ee32=>?_;subst ee32
  exact wpAny_Name (wpAny_loadName_local I.ok.kind hk hn hu (iX1b mem I h)) hd
 ·refine eX0e (I.fm.cells x c hc') fun _ _ _ h4 _=>?_
  refine eX1b (h4 hk v hv) fun u hu ee33=>?_;subst ee33
  rcases hk with hk | hk
  ·exact wpAny_Name (wpAny_loadName_cell I.ok.kind hk hc' hu (iX1b mem I h)) hd
  ·exact wpAny_Name (wpAny_loadName_free I.ok.kind hk hc' hu (iX1b mem I h) hc) hd
theorem EV.glob {x : Str} {pos : Pos} {v : Value} {sc : Scope} (hs : cx.env.scope = sc) (hv : nsIn (KF cx.w.params) mainGlobals x = some (some v)) (h : Q (er v) mem)
  (hk : sc.names.lookup x = some .globalImplicit:=by rfl) (hd : (x == ("__debug__" : Str)) = false:=by decide) : EV cx (.Name x pos) loc mem Q X:=fun s I=>by
 subst hs
 refine Name_function_global I.ok.kind hk (loadGlobal_global (env:=cx.env) ?_ (mg_of I.ok.X I.ok.T.g hv) (iX1b mem I h)) hd
 rw [I.ok.glob];exact I.T.g
theorem EV.blt {x : Str} {pos : Pos} {v : Value} {sc : Scope} (hs : cx.env.scope = sc) (hv : bootBuiltins x = some v) (hn : nsIn (KF cx.w.params) mainGlobals x = some none) (h : Q (er v) mem)
  (hx : x ≠ "__name__":=by decide) (hk : sc.names.lookup x = some .globalImplicit:=by rfl) (hd : (x == ("__debug__" : Str)) = false:=by decide) : EV cx (.Name x pos) loc mem Q X:=fun s I=>by
 subst hs
 refine Name_function_global I.ok.kind hk (loadGlobal_builtin (env:=cx.env) ?_ (mg_none_of I.ok.X I.ok.T.g hn) ?_ ((I.ok.T.builtins x hx).trans hv) (iX1b mem I h)) hd
 ·rw [I.ok.glob];exact I.T.g
 ·rw [I.ok.blt];exact I.T.b
theorem EV.cInt {i : Int} {k : Nat} {pos : Pos} (h : Q (.int i) mem) : EV cx (.Constant (.int i) k pos) loc mem Q X:=fun _ I=>wpAny_Constant_int (iX1b mem I.toks h)
theorem EV.cStr {x : Str} {k : Nat} {pos : Pos} (h : Q (.str x) mem) : EV cx (.Constant (.str x) k pos) loc mem Q X:=fun _ I=>Calls.Constant_str (iX1b mem I.toks h)
theorem EV.cNone {k : Nat} {pos : Pos} (h : Q .none mem) : EV cx (.Constant .none k pos) loc mem Q X:=fun _ I=>PyProof.Rows.Constant_none (iX1b mem I h)
theorem EV.cBool {b : Bool} {k : Nat} {pos : Pos} (h : Q (.bool b) mem) : EV cx (.Constant (.bool b) k pos) loc mem Q X:=fun _ I=>PyProof.Rows.Constant_bool (iX1b mem I h)
theorem EV.cBytes {b : List UInt8} {k : Nat} {pos : Pos} (h : Q (.bytes b) mem) : EV cx (.Constant (.bytes b) k pos) loc mem Q X:=fun s I=>by
 show wpAny _ _ (mkTextBytes b.toArray) _ _ s
 exact wpAny_mkTextBytes (iX1b mem I.toks h)
noncomputable def Op2 (cx : Cx) (f : Value -> Value -> Sem Value) (a b : AV) (mem : Mem) (Q : MQ AV) (X : MQ Addr) : Prop:=∀ loc v1 v2,er v1 = a -> er v2 = b -> TV cx (f v1 v2) loc mem (EvQ Q) X
noncomputable abbrev KOp (cx : Cx) (X : MQ Addr) (f : Value -> Value -> Sem Value) (a : AV) (Q : MQ AV) : MQ AV:=fun b m=>Op2 cx f a b m Q X
noncomputable abbrev KBin (cx : Cx) (X : MQ Addr) (loc : Loc) (f : Value -> Value -> Sem Value) (r : Expr) (Q : MQ AV) : MQ AV:=fun a m=>EV cx r loc m (KOp cx X f a Q) X
theorem EV.bin {l r : Expr} {op : Operator} {pos : Pos} (h : EV cx l loc mem (KBin cx X loc (binaryOp op) r Q) X) : EV cx (.BinOp l op r pos) loc mem Q X:=fun s I =>
 wpAny_BinOp (TV.go h I fun a _ _ I1 h1=>wpAny_mono (h1 _ I1) (fun b _ zq6=>eX1b zq6 fun _ I2 h2=>h2 loc a b rfl rfl _ I2) fun _ _ x=>x)
theorem EV.cmp {l r : Expr} {op : CmpOp} {pos : Pos} (h : EV cx l loc mem (KBin cx X loc (compareOp op) r Q) X) (hm : behindInMarks op r = false:=by with_unfolding_all rfl) : EV cx (.Compare l [op] [r] pos) loc mem Q X:=fun s I =>
 wpAny_Compare1 (TV.go h I fun a _ _ I1 h1=>wpAny_mono (h1 _ I1) (fun b _ zq8=>eX1b zq8 fun _ I2 h2=>h2 loc a b rfl rfl _ I2) fun _ _ x=>x) hm
theorem Op2.ii {f : Value -> Value -> Sem Value} {i j : Int} (k : ∀ loc t u,TV cx (f (.int i t) (.int j u)) loc mem (EvQ Q) X) : Op2 cx f (.int i) (.int j) mem Q X:=fun loc v1 v2 h1 h2=>by
 refine eX1a (er_int h1) fun t e=>?_;subst e;refine eX1a (er_int h2) fun u e=>?_;subst e;exact k loc t u
section
variable {i j : Int}
theorem Op2.add (h : Q (.int (i + j)) mem) : Op2 cx (binaryOp .Add) (.int i) (.int j) mem Q X:=Op2.ii fun _ t u s I=>PyProof.Rows.add_int (iX1b mem I.toks h)
theorem Op2.sub (h : Q (.int (i - j)) mem) : Op2 cx (binaryOp .Sub) (.int i) (.int j) mem Q X:=Op2.ii fun _ t u s I=>PyProof.Rows.sub_int (iX1b mem I.toks h)
theorem Op2.mul (h : Q (.int (i * j)) mem) (hm : IntMulOk i j:=by mul_fits) : Op2 cx (binaryOp .Mult) (.int i) (.int j) mem Q X:=Op2.ii fun _ t u s I=>PyProof.Rows.mul_int (iX1b mem I.toks h) hm
theorem Op2.mod (hj : j ≠ 0) (h : Q (.int (i.fmod j)) mem) : Op2 cx (binaryOp .Mod) (.int i) (.int j) mem Q X:=Op2.ii fun _ t u s I=>PyProof.Rows.mod_int' hj (iX1b mem I.toks h)
theorem Op2.fdiv (hj : j ≠ 0) (h : Q (.int (i.fdiv j)) mem) (hp : Builtin.divisionGoesByPylong i j = false) : Op2 cx (binaryOp .FloorDiv) (.int i) (.int j) mem Q X:=Op2.ii fun _ t u s I=>PyProof.Rows.floordiv_int hj (iX1b mem I.toks h) (.inl hp)
theorem Op2.shl (h0 : 0 <= j) (h1 : j <= 1000000) (ha : i.natAbs < 2 ^ 64) (h : Q (.int (i * 2 ^ j.toNat)) mem) : Op2 cx (binaryOp .LShift) (.int i) (.int j) mem Q X:=Op2.ii fun _ t u s I=>PyProof.Rows.lshift_int_small h0 h1 ha (iX1b mem I.toks h)
theorem Op2.shr (h0 : 0 <= j) (h : Q (.int (i.fdiv (2 ^ j.toNat))) mem) : Op2 cx (binaryOp .RShift) (.int i) (.int j) mem Q X:=Op2.ii fun _ t u s I=>PyProof.Rows.rshift_int h0 (iX1b mem I.toks h)
theorem Op2.and (h : Q (.int (Builtin.bitAnd i j)) mem) : Op2 cx (binaryOp .BitAnd) (.int i) (.int j) mem Q X:=Op2.ii fun _ t u s I=>PyProof.Rows.and_int (iX1b mem I.toks h)
theorem Op2.pow (h0 : 0 <= j) (h1 : j <= 1000000) (ha : i.natAbs < 2 ^ 64) (h : Q (.int (i ^ j.toNat)) mem) : Op2 cx (binaryOp .Pow) (.int i) (.int j) mem Q X:=Op2.ii fun _ t u s I=>PyProof.Rows.pow_int_small h0 h1 ha (iX1b mem I.toks h)
theorem Op2.eq (h : Q (.bool (i == j)) mem) : Op2 cx (compareOp .Eq) (.int i) (.int j) mem Q X:=Op2.ii fun _ t u s I=>PyProof.Rows.eq_int (iX1b mem I h)
theorem Op2.ne (h : Q (.bool (i != j)) mem) : Op2 cx (compareOp .NotEq) (.int i) (.int j) mem Q X:=Op2.ii fun _ t u s I=>PyProof.Rows.ne_int (iX1b mem I h)
theorem Op2.lt (h : Q (.bool (decide (i < j))) mem) : Op2 cx (compareOp .Lt) (.int i) (.int j) mem Q X:=Op2.ii fun _ t u s I=>PyProof.Rows.lt_int (iX1b mem I h)
theorem Op2.le (h : Q (.bool (decide (i <= j))) mem) : Op2 cx (compareOp .LtE) (.int i) (.int j) mem Q X:=Op2.ii fun _ t u s I=>PyProof.Rows.le_int (iX1b mem I h)
theorem Op2.gt (h : Q (.bool (decide (j < i))) mem) : Op2 cx (compareOp .Gt) (.int i) (.int j) mem Q X:=Op2.ii fun _ t u s I=>PyProof.Rows.gt_int (iX1b mem I h)
theorem Op2.ge (h : Q (.bool (decide (j <= i))) mem) : Op2 cx (compareOp .GtE) (.int i) (.int j) mem Q X:=Op2.ii fun _ t u s I=>PyProof.Rows.ge_int (iX1b mem I h)
end
noncomputable def BV (cx : Cx) (e : Expr) (loc : Loc) (mem : Mem) (Q : MQ Bool) (X : MQ Addr) : Prop:=TV cx (isTrue e cx.env (eval e cx.env)) loc mem Q X
noncomputable def Tr (cx : Cx) (a : AV) (mem : Mem) (Q : MQ Bool) (X : MQ Addr) : Prop:=∀ loc v,er v = a -> TV cx (truthy v) loc mem Q X
theorem Tr.bool {b : Bool} {Q : MQ Bool} (h : Q b mem) : Tr cx (.bool b) mem Q X:=fun _ v e s I=>by
 cases er_bool e;exact wpAny_truthy_bool (iX1b mem I h)
noncomputable abbrev KTr (cx : Cx) (X : MQ Addr) (Q : MQ Bool) : MQ AV:=fun c m=>Tr cx c m Q X
noncomputable abbrev KNot (Q : MQ Bool) : MQ Bool:=fun b m=>Q (!b) m
noncomputable abbrev KNotB (Q : MQ AV) : MQ Bool:=fun b m=>Q (.bool (!b)) m
theorem BV.cmp {l r : Expr} {op : CmpOp} {pos : Pos} {Q : MQ Bool} (h : EV cx l loc mem (KBin cx X loc (compareOp op) r (KTr cx X Q)) X)
  (hm : behindInMarks op r = false:=by with_unfolding_all rfl) : BV cx (.Compare l [op] [r] pos) loc mem Q X:=fun s I =>
 wpAny_isTrue_Compare1 (TV.go h I fun a _ _ I1 h1=>wpAny_mono (h1 _ I1) (fun b _ zq10=>eX1b zq10 fun _ I2 h2=>wpAny_mono (h2 loc a b rfl rfl _ I2) (fun c _ zq11=>eX1b zq11 fun _ I3 h3=>h3 loc c rfl _ I3) fun _ _ x=>x) fun _ _ x=>x) hm
theorem BV.plain {e : Expr} {Q : MQ Bool} (h : EV cx e loc mem (KTr cx X Q) X) (he : isTrue e cx.env (eval e cx.env) = (do let v <- eval e cx.env;standAt e.pos;holding [v] (truthy v)):=by rfl) : BV cx e loc mem Q X:=fun s I =>
 isTrue_plain (TV.go h I fun a _ _ I1 h1=>h1 loc a rfl _ I1) he
theorem BV.not {e : Expr} {pos : Pos} {Q : MQ Bool} (h : BV cx e loc mem (KNot Q) X) : BV cx (.UnaryOp .Not e pos) loc mem Q X:=fun s I=>isTrue_not (h s I)
noncomputable def BVand (cx : Cx) (es : List Expr) (loc : Loc) (mem : Mem) (Q : MQ Bool) (X : MQ Addr) : Prop:=TV cx (allTrue .And es cx.env) loc mem Q X
noncomputable def BVor (cx : Cx) (es : List Expr) (loc : Loc) (mem : Mem) (Q : MQ Bool) (X : MQ Addr) : Prop:=TV cx (allTrue .Or es cx.env) loc mem Q X
noncomputable abbrev KAnd (cx : Cx) (X : MQ Addr) (loc : Loc) (es : List Expr) (Q : MQ Bool) : MQ Bool:=fun b m=>if b = true then BVand cx es loc m Q X else Q false m
noncomputable abbrev KOr (cx : Cx) (X : MQ Addr) (loc : Loc) (es : List Expr) (Q : MQ Bool) : MQ Bool:=fun b m=>if b = true then Q true m else BVor cx es loc m Q X
noncomputable abbrev KIfe (cx : Cx) (X : MQ Addr) (loc : Loc) (b : Expr) (o : Expr) (Q : MQ AV) : MQ Bool:=fun c m=>if c = true then EV cx b loc m Q X else EV cx o loc m Q X
theorem BV.and {es : List Expr} {pos : Pos} {Q : MQ Bool} (h : BVand cx es loc mem Q X) : BV cx (.BoolOp .And es pos) loc mem Q X:=h
theorem BV.or {es : List Expr} {pos : Pos} {Q : MQ Bool} (h : BVor cx es loc mem Q X) : BV cx (.BoolOp .Or es pos) loc mem Q X:=h
theorem BVand.nil {Q : MQ Bool} (h : Q true mem) : BVand cx [] loc mem Q X:=fun _ I=>isTrue_and_nil (pos:=⟨0,0,0,0⟩) (whole:=.pure .none) (env:=cx.env) (iX1b mem I h)
theorem BVor.nil {Q : MQ Bool} (h : Q false mem) : BVor cx [] loc mem Q X:=fun _ I=>isTrue_or_nil (pos:=⟨0,0,0,0⟩) (whole:=.pure .none) (env:=cx.env) (iX1b mem I h)
theorem BVand.cons {e : Expr} {es : List Expr} {Q : MQ Bool} (h : BV cx e loc mem (KAnd cx X loc es Q) X) : BVand cx (e :: es) loc mem Q X:=fun s I =>
 isTrue_and (pos:=⟨0,0,0,0⟩) (whole:=.pure .none) (TV.go h I fun b s' m I1 h1=>by
  cases b with
  | true=>exact h1 s' I1
  | false=>exact (iX1b m I1 h1))
theorem BVor.cons {e : Expr} {es : List Expr} {Q : MQ Bool} (h : BV cx e loc mem (KOr cx X loc es Q) X) : BVor cx (e :: es) loc mem Q X:=fun s I =>
 isTrue_or (pos:=⟨0,0,0,0⟩) (whole:=.pure .none) (TV.go h I fun b s' m I1 h1=>by
  cases b with
  | true=>exact (iX1b m I1 h1)
  | false=>exact h1 s' I1)
theorem EV.ite {t b o : Expr} {pos : Pos} (h : BV cx t loc mem (KIfe cx X loc b o Q) X) : EV cx (.IfExp t b o pos) loc mem Q X:=fun s I =>
 IfExp_ (TV.go h I fun c s' m I1 h1=>by
  cases c with
  | true=>exact h1 s' I1
  | false=>exact h1 s' I1)
theorem EV.neg1 {i : Int} {k : Nat} {p pos : Pos} (h : Q (.int (-i)) mem) : EV cx (.UnaryOp .USub (.Constant (.int i) k p) pos) loc mem Q X:=fun s I =>
 UnaryOp_ (wpAny_Constant_int (PySem.P.neg_int (iX1b mem (I.toks (t:=s.toks + 1 + 1)) h)))
theorem EV.not {e : Expr} {pos : Pos} (h : EV cx e loc mem (KTr cx X (KNotB Q)) X) : EV cx (.UnaryOp .Not e pos) loc mem Q X:=fun s I =>
 UnaryOp_ (TV.go h I fun a s' m I1 h1=>not_of (wpAny_mono (h1 loc a rfl _ I1) (fun b _ x=>x) fun _ _ x=>x))
variable {pos : Pos}
noncomputable def coS (c : Const) : Option AV:=match c with
 | .int i=>some (.int i)
 | .none=>some .none
 | .str x=>some (.str x)
 | .bool b=>some (.bool b)
 | _=>none
theorem noSome {α : Type} {a : α} {P : Prop} (h : none = some a) : P:=nomatch h
noncomputable def evS (loc : Loc) (e : Expr) : Option AV :=
 match e with
 | .Name x _=>bif x == ("__debug__" : Str) then none else bif x == ("__classdict__" : Str) then none else loc.lookup x
 | .Constant c _ _=>coS c
 | _=>none
theorem evS_elim {loc : Loc} {e : Expr} {v : AV} {P : Prop} (h : evS loc e = some v) (k1 : ∀ x p,e = .Name x p -> (x == ("__debug__" : Str)) = false -> (x == ("__classdict__" : Str)) = false -> loc.lookup x = some v -> P) (k2 : ∀ c k p,e = .Constant c k p -> coS c = some v -> P) : P:=by
 generalize he : e = e' at h
 cases e' with
 | Name x p =>
  replace k1:=k1 x p he
  change (bif x == ("__debug__" : Str) then none else bif x == ("__classdict__" : Str) then none else loc.lookup x) = some v at h
  generalize (x == ("__debug__" : Str)) = b1 at h k1
  generalize (x == ("__classdict__" : Str)) = b2 at h k1
  cases b1 with
  | true=>exact noSome h
  | false=>cases b2 with
   | true=>exact noSome h
   | false=>exact k1 rfl rfl h
 | Constant c k p=>exact k2 c k p he h
 | _=>exact noSome h
theorem EV.co {c : Const} {k : Nat} {v : AV} (hv : coS c = some v) (h : Q v mem) : EV cx (.Constant c k pos) loc mem Q X:=by
 cases c with
 | int i=>exact EV.cInt (Option.some.inj hv ▸ h)
 | none=>exact EV.cNone (Option.some.inj hv ▸ h)
 | str x=>exact EV.cStr (Option.some.inj hv ▸ h)
 | bool b=>exact EV.cBool (Option.some.inj hv ▸ h)
 | _=>exact noSome hv
theorem EV.s {e : Expr} {v : AV} (hv : evS loc e = some v) (h : Q v mem) : EV cx e loc mem Q X :=
 evS_elim hv (fun _ _ e h2 h3 h1=>e ▸ EV.name h1 h h2 h3) fun _ _ _ e h1=>e ▸ EV.co h1 h
theorem EV.binS {l r : Expr} {op : Operator} {a b : AV} (h1 : evS loc l = some a) (h2 : evS loc r = some b) (h : Op2 cx (binaryOp op) a b mem Q X) : EV cx (.BinOp l op r pos) loc mem Q X:=EV.bin (EV.s h1 (EV.s h2 h))
theorem EV.cmpS {l r : Expr} {op : CmpOp} {a b : AV} (h1 : evS loc l = some a) (h2 : evS loc r = some b) (h : Op2 cx (compareOp op) a b mem Q X) (hm : behindInMarks op r = false:=by with_unfolding_all rfl) : EV cx (.Compare l [op] [r] pos) loc mem Q X:=EV.cmp (EV.s h1 (EV.s h2 h)) hm
theorem BV.cmpS {l r : Expr} {op : CmpOp} {a b : AV} {Q : MQ Bool} (h1 : evS loc l = some a) (h2 : evS loc r = some b) (h : Op2 cx (compareOp op) a b mem (KTr cx X Q) X) (hm : behindInMarks op r = false:=by with_unfolding_all rfl) : BV cx (.Compare l [op] [r] pos) loc mem Q X:=BV.cmp (EV.s h1 (EV.s h2 h)) hm
end
noncomputable def others (h hb : Heap) (ex : List Addr) : List (Addr × Obj) :=
 (List.range h.objs.size).filterMap fun b=>if b ∈ ex \/ (hb.get? b).isSome = true then none else (h.get? b).map (b,·)
theorem mem_others {h hb : Heap} {ex : List Addr} {b : Addr} {o : Obj} : (b,o) ∈ others h hb ex ↔ h.get? b = some o /\ b ∉ ex /\ hb.get? b = none:=by
 unfold others
 rw [List.mem_filterMap]
 constructor
 ·intro zz64;refine eX1b zz64 fun c hc e=>?_
  split at e
  ·cases e
  ·rename_i n
   rw [not_or] at n
   refine eX1b (Option.map_eq_some_iff.mp e) fun o' ho e2=>?_
   cases e2
   exact (iX0c ho n.1 (by simpa using n.2))
 ·intro zz65;refine eX0c zz65 fun h1 h2 h3=>?_
  exact (iX1b b (List.mem_range.mpr (Heap.lt_size h1)) (by rw [if_neg (by rw [not_or];exact (iX0b h2 (by simp [h3]))),h1];rfl))
section
variable {cx : Cx} {loc : Loc} {mem mem' : Mem} {s : Shared} {a : Addr}
theorem InSt.extL (I : InSt cx loc mem s) {h' : Heap} {t : Nat} (x : ∀ b o,b ≠ a -> b ≠ cx.env.locals -> s.heap.get? b = some o -> h'.get? b = some o)
  (hn : ∃ m,h'.Ns cx.env.locals m /\ ∀ x v,cx.env.kindOf x = some .local -> loc.lookup x = some v -> ∃ u,m x = some u /\ er u = v) (hG : cx.G a = none) (hC : ∀ y c,cx.env.cells.lookup y = some c -> c ≠ a)
  (hF : ∀ o vs,s.heap.get? a = some o -> o.data = .fields vs -> ¬ Tabby o vs) (tr : ∀ b ao,mem' b = some ao -> cx.G b = none /\ ∃ o,h'.get? b = some o /\ Rep cx.w o ao)
  (hm : mem' cx.env.locals = none) (hmc : ∀ y c,cx.env.cells.lookup y = some c -> mem' c = none) : InSt cx loc mem' { s with heap:=h',toks:=t }:=by
 have gne : ∀ b o,cx.G b = some o -> b ≠ a:=fun b o e q=>by rw [q,hG] at e;cases e
 have gnl : ∀ b o,cx.G b = some o -> b ≠ cx.env.locals:=fun b o e q=>by rw [q,I.fm.own] at e;cases e
 refine ⟨I.ok,⟨fun b o e n=>x b o (gne b o e) (gnl b o e) (I.st.kept b o e n),tr,I.st.tab.keep fun b o vs e q tb=>x b o (fun z=>hF o vs (z ▸ e) q tb) (fun z=>?_) e⟩,fun b o e n=>?_,?_,I.gens,I.drawn,I.os⟩
 ·refine eX1b (I.fm.ns) fun m hn' _=>?_
  refine eX3c hn' fun o2 es ep e2 hd _=>?_
  rw [z,e2] at e;cases e;rw [hd] at q;cases q
 ·refine eX1a (I.fr b o e n) fun sl hs=>?_
  exact (iX1a sl (x b _ (gne b o e) (gnl b o e) hs))
 ·refine ⟨hn,I.fm.own,hm,fun y c e=>?_,I.fm.apart,I.fm.bound⟩
  refine eX0e (I.fm.cells y c e) fun c1 c2 zz66 c4 c5=>?_;refine eX2b zz66 fun v o ho hd=>?_
  refine (iX0e (hmc y c e) c2 (iX2b v o (x c o (hC y c e) c2 ho) hd) (fun hk u hu=>?_) c5)
  refine eX1b (c4 hk u hu) fun u' zz67 hu'=>?_;refine eX1b zz67 fun o' ho' hd'=>?_
  exact (iX1b u' (iX1b o' (x c o' (hC y c e) c2 ho') hd') hu')
theorem InSt.viaK (I : InSt cx loc mem s) {ao : AO} (e : mem a = some ao) : ∃ m o rest,Fr cx.hb cx.env.locals s.heap m /\ s.heap.get? a = some o /\ Rep cx.w o ao /\ News cx.hb cx.env.locals s.heap ((a,o) :: rest) /\ (∀ p ∈ rest,p.1 ≠ a) /\
  ∀ h' t o' ao' own,Fr cx.hb cx.env.locals h' m -> News cx.hb cx.env.locals h' (own ++ (a,o') :: rest) -> Rep cx.w o' ao' -> InSt cx loc (mset mem a ao') { s with heap:=h',toks:=t }:=by
 refine eX1b (I.fr0) fun m F hm=>?_
 obtain ⟨hG,o,ho,r⟩:=I.st.tr a ao e
 have hL : a ≠ cx.env.locals:=fun q=>by rw [q,I.fm.ownM] at e;cases e
 have hC : ∀ y c,cx.env.cells.lookup y = some c -> c ≠ a:=fun y c ec q=>by have:=(I.fm.cells y c ec).1;rw [q,e] at this;cases this
 have hba : cx.hb.get? a = none:=by
  cases q : cx.hb.get? a with
  | none=>rfl
  | some o'=>rw [I.ok.base _ _ q] at hG;cases hG
 refine (iX3f m o (others s.heap cx.hb [a,cx.env.locals]) F ho r (fun p hp=>?_) (fun p hp=>?_) (fun h' t o' ao' own F' N' r'=>?_))
 ·rcases List.mem_cons.mp hp with rfl | hp
  ·exact (iX0c ho hL hba)
  ·refine eX0c (mem_others.mp hp) fun h1 h2 h3=>?_
   exact (iX0c h1 (fun q=>h2 (by simp [q])) h3)
 ·refine eX0c (mem_others.mp hp) fun _ h2 _=>?_
  exact fun q=>h2 (by simp [q])
 ·have keep : ∀ b ob,b ≠ a -> b ≠ cx.env.locals -> s.heap.get? b = some ob -> h'.get? b = some ob:=fun b ob h1 h2 h3=>by
   cases q : cx.hb.get? b with
   | none=>exact (N' (b,ob) (List.mem_append_right _ (.tail _ (mem_others.mpr (iX0c h3 (by simp [h1,h2]) q))))).1
   | some ob'=>have:=I.keep _ _ q;rw [h3] at this;cases this;exact F'.keep _ _ q
  refine I.extL keep (iX1b m F'.ns hm) hG hC (fun o2 vs e2=>by rw [ho] at e2;cases e2;exact r.notTab vs) (fun b ao2 e2=>?_) ?_ fun y c ec=>?_
  ·by_cases hb : b = a
   ·subst hb
    rw [mset_same] at e2;cases e2
    exact ⟨hG,o',(N' (b,o') (List.mem_append_right _ (.head _))).1,r'⟩
   ·rw [mset_ne hb] at e2
    obtain ⟨h1,o2,h2,h3⟩:=I.st.tr b ao2 e2
    exact ⟨h1,o2,keep b o2 hb (fun q=>by rw [q,I.fm.ownM] at e2;cases e2) h2,h3⟩
  ·rw [mset_ne (Ne.symm hL)];exact I.fm.ownM
  ·rw [mset_ne (hC y c ec)];exact (I.fm.cells y c ec).1
end
noncomputable abbrev EvsQ (Q : MQ (List AV)) : MQ (List Value):=fun vs m=>Q (vs.map er) m
noncomputable def EVs (cx : Cx) (es : List Expr) (pos : Pos) (loc : Loc) (mem : Mem) (Q : MQ (List AV)) (X : MQ Addr) : Prop:=TV cx (spliced (backTo pos (starEach es cx.env))) loc mem (EvsQ Q) X
section
variable {cx : Cx} {X : MQ Addr} {loc : Loc} {mem : Mem} {Q : MQ AV} {pos : Pos}
noncomputable abbrev KPush (a : AV) (Q : MQ (List AV)) : MQ (List AV):=fun as m=>Q (a :: as) m
noncomputable abbrev KArgs (cx : Cx) (X : MQ Addr) (loc : Loc) (pos : Pos) (es : List Expr) (Q : MQ (List AV)) : MQ AV:=fun a m=>EVs cx es pos loc m (KPush a Q) X
theorem EVs.nil {Q : MQ (List AV)} (h : Q [] mem) : EVs cx [] pos loc mem Q X:=fun _ I=>Calls.spliced_nil (iX1b mem I h)
theorem EVs.cons {e : Expr} {es : List Expr} {Q : MQ (List AV)} (h : EV cx e loc mem (KArgs cx X loc pos es Q) X) (he : starEach (e :: es) cx.env = (false,eval e cx.env) :: starEach es cx.env:=by rfl) :
  EVs cx (e :: es) pos loc mem Q X:=fun s I=>by
 show wpAny _ _ (spliced (backTo pos (starEach (e :: es) cx.env))) _ _ _
 rw [he]
 show wpAny _ _ (spliced ((false,eval e cx.env) :: backTo pos (starEach es cx.env))) _ _ _
 exact Calls.spliced_cons (TV.go h I fun a s' m I1 h1=>h1 s' I1)
noncomputable def evSs (loc : Loc) (es : List Expr) : Option (List AV):=es.foldr (fun e r=>(evS loc e).bind fun v=>r.map (v :: ·)) (some [])
theorem star_s {loc : Loc} {e : Expr} {v : AV} (hv : evS loc e = some v) (es : List Expr) (env : Env) : starEach (e :: es) env = (false,eval e env) :: starEach es env :=
 evS_elim hv (fun _ _ e _ _ _=>e ▸ rfl) fun _ _ _ e _=>e ▸ rfl
theorem EVs.consS {e : Expr} {es : List Expr} {Q : MQ (List AV)} {v : AV} (hv : evS loc e = some v) (h : EVs cx es pos loc mem (KPush v Q) X) : EVs cx (e :: es) pos loc mem Q X :=
 EVs.cons (EV.s hv h) (star_s hv _ _)
theorem EVs.s {es : List Expr} {Q : MQ (List AV)} {vs : List AV} (hv : evSs loc es = some vs) (h : Q vs mem) : EVs cx es pos loc mem Q X:=by
 induction es generalizing vs Q with
 | nil=>exact EVs.nil (Option.some.inj hv ▸ h)
 | cons e es ih =>
  refine eX1b (Option.bind_eq_some_iff.mp hv) fun v e1 z=>?_
  refine eX1b (Option.map_eq_some_iff.mp z) fun vs' e2 e3=>?_
  subst e3;exact EVs.consS e1 (ih e2 h)
noncomputable def CallV (cx : Cx) (f : Value) (as : List AV) (mem : Mem) (Q : MQ AV) (X : MQ Addr) : Prop:=∀ loc vs,vs.map er = as -> TV cx (call f vs) loc mem (EvQ Q) X
noncomputable abbrev KCall (cx : Cx) (X : MQ Addr) (f : Value) (Q : MQ AV) : MQ (List AV):=fun as m=>CallV cx f as m Q X
theorem evalArgs_all {M : Model} {A : Around} {E : Value -> Shared -> Prop} {s : Shared} {f : Value} {args : List (Bool × Sem Value)} {Q : Args -> Shared -> Prop} (hplain : args.all (fun x=>!x.1) = true)
  (h : wpAny M A (spliced args) (fun vs s'=>Q ⟨vs,[]⟩ s') E s) : wpAny M A (evalArgs f true args []) Q E s:=by
 cases args with
 | nil =>
  unfold evalArgs
  show wpAny M A (spliced [] >>= _) Q E s
  refine wpAny_bind (wpAny_mono h (fun vs s' h'=>?_) fun _ _ x=>x)
  refine wpAny_bind (wpAny_pure ?_)
  refine wpAny_holding ?_
  exact wpAny_bind (wpAny_pure (wpAny_bind (wpAny_pure (wpAny_pure h'))))
 | cons x r =>
  obtain ⟨b,t⟩:=x
  cases b with
  | true=>simp at hplain
  | false=>exact Calls.evalArgs_plain h
theorem callWith_any {M : Model} {A : Around} {E : Value -> Shared -> Prop} {s : Shared} {f : Value} {first : List Value} {args : List (Bool × Sem Value)} {Q : Value -> Shared -> Prop} {P : Heap -> Prop} (hplain : args.all (fun x=>!x.1) = true)
  (hk : ∀ h,P h -> ∃ k,(k = Keeper.frame \/ k = Keeper.machine \/ k = Keeper.boundFrame) /\ Looks M h (keeperOf f) k)
  (h : wpAny M A (spliced args) (fun vs s₁=>P s₁.heap /\ wpAny M A (call f (first ++ vs)) Q E s₁) E s) : wpAny M A (callWith pos f first args []) Q E s:=by
 refine callWith_of ?_ hk (evalArgs_all hplain h)
 rw [List.any_nil,Bool.or_false]
 cases q : args.any (·.1) with
 | false=>rfl
 | true =>
  refine eX1b (List.any_eq_true.mp q) fun x hx hb=>?_
  have:=List.all_eq_true.mp hplain x hx
  rw [hb] at this;cases this
theorem backTo_plain {es : List Expr} {env : Env} (h : (starEach es env).all (fun x=>!x.1) = true) : (backTo pos (starEach es env)).all (fun x=>!x.1) = true:=by
 unfold backTo
 rw [List.all_map]
 exact h
noncomputable def FunN (f : Str) (fv : Value) : Prop:=∀ P,(nsIn (KF P) mainGlobals f,keepIn (KF P) fv,f == ("__debug__" : Str)) = (some (some fv),true,false)
theorem EV.callF {f : Str} {p : Pos} {args : List Expr} {fv : Value} {sc : Scope} (hs : cx.env.scope = sc) (hf : FunN f fv)
  (h : EVs cx args pos loc mem (KCall cx X fv Q) X) (hn : sc.names.lookup f = some .globalImplicit:=by rfl)
  (hst : (starEach args cx.env).all (fun x=>!x.1) = true:=by rfl) : EV cx (.Call (.Name f p) args [] pos) loc mem Q X:=fun s I=>by
 subst hs
 refine wpAny_Call_Name_kw (Name_function_global I.ok.kind hn (loadGlobal_global (env:=cx.env) (by rw [I.ok.glob];exact I.T.g) (mg_of I.ok.X I.ok.T.g (Prod.mk.inj (hf _)).1) ?_) (Prod.mk.inj (Prod.mk.inj (hf cx.w.params)).2).2)
 exact callWith_any (P:=(KF cx.w.params).In) (backTo_plain hst) (keeps_K (Prod.mk.inj (Prod.mk.inj (hf _)).2).1) (TV.go h I fun vs s' m I1 h1=>(iX0b I1.X (h1 loc vs rfl s' I1)))
noncomputable def BltN (f : Str) (fv : Value) : Prop:=(∀ P,(bootBuiltins f,nsIn (KF P) mainGlobals f,f == ("__name__" : Str),f == ("__debug__" : Str)) = (some fv,some none,false,false)) /\ ∀ a,fv ≠ .ref a
theorem EV.callB {f : Str} {p : Pos} {args : List Expr} {fv : Value} {sc : Scope} (hs : cx.env.scope = sc) (hb : BltN f fv)
  (h : EVs cx args pos loc mem (KCall cx X fv Q) X) (hn : sc.names.lookup f = some .globalImplicit:=by rfl)
  (hst : (starEach args cx.env).all (fun x=>!x.1) = true:=by rfl) : EV cx (.Call (.Name f p) args [] pos) loc mem Q X:=fun s I=>by
 subst hs
 have h1:=Prod.mk.inj (hb.1 cx.w.params)
 have h2:=Prod.mk.inj h1.2
 have h3:=Prod.mk.inj h2.2
 refine wpAny_Call_Name_kw (Name_function_global I.ok.kind hn (loadGlobal_builtin (env:=cx.env) (by rw [I.ok.glob];exact I.T.g) (mg_none_of I.ok.X I.ok.T.g h2.1) (by rw [I.ok.blt];exact I.T.b) ((I.ok.T.builtins f (ne_of_beq_false h3.1)).trans h1.1) ?_) h3.2)
 refine callWith_any (P:=fun _=>True) (backTo_plain hst) (fun h _=>(iX1b .machine (.inr (.inl rfl)) ?_)) (TV.go h I fun vs s' m I1 h1=>(iX0b trivial (h1 loc vs rfl s' I1)))
 cases fv <;> first | exact Looks.of_pure rfl | exact absurd rfl (hb.2 _)
noncomputable def bltL : List (Str × Value):=[(S "bytes",.type "bytes"),(S "sorted",.builtin "sorted"),(S "range",.type "range"),(S "sum",.builtin "sum"),(S "enumerate",.type "enumerate"),(S "len",.builtin "len"),(S "any",.builtin "any"),(S "tuple",.type "tuple"),(S "int",.type "int"),(S "str",.type "str"),(S "abs",.builtin "abs"),(S "max",.builtin "max"),(S "set",.type "set"),(S "dict",.type "dict"),(S "list",.type "list"),(S "min",.builtin "min")]
theorem bltL_ok (P : Params) : bltL.map (fun p=>(bootBuiltins p.1,nsIn (KF P) mainGlobals p.1,p.1 == ("__name__" : Str),p.1 == ("__debug__" : Str))) = bltL.map (fun p=>(some p.2,some none,false,false)):=by kernel_rfl
theorem BltN.at (i : Nat) {f : Str} {fv : Value} (h : bltL[i]? = some (f,fv)) (hr : ∀ a,fv ≠ .ref a) : BltN f fv:=⟨fun P=>by
 have:=congrArg (·[i]?) (bltL_ok P)
 simpa [List.getElem?_map,h] using this,hr⟩
theorem nB_bytes : BltN (Str.ofString "bytes") (.type "bytes"):=.at 0 rfl fun _ h=>Value.noConfusion h
theorem nB_sorted : BltN (Str.ofString "sorted") (.builtin "sorted"):=.at 1 rfl fun _ h=>Value.noConfusion h
theorem nB_range : BltN (Str.ofString "range") (.type "range"):=.at 2 rfl fun _ h=>Value.noConfusion h
theorem nB_sum : BltN (Str.ofString "sum") (.builtin "sum"):=.at 3 rfl fun _ h=>Value.noConfusion h
theorem nB_enumerate : BltN (Str.ofString "enumerate") (.type "enumerate"):=.at 4 rfl fun _ h=>Value.noConfusion h
theorem nB_len : BltN (Str.ofString "len") (.builtin "len"):=.at 5 rfl fun _ h=>Value.noConfusion h
theorem nB_any : BltN (Str.ofString "any") (.builtin "any"):=.at 6 rfl fun _ h=>Value.noConfusion h
theorem nB_tuple : BltN (Str.ofString "tuple") (.type "tuple"):=.at 7 rfl fun _ h=>Value.noConfusion h
theorem nB_int : BltN (Str.ofString "int") (.type "int"):=.at 8 rfl fun _ h=>Value.noConfusion h
theorem nB_str : BltN (Str.ofString "str") (.type "str"):=.at 9 rfl fun _ h=>Value.noConfusion h
theorem nB_abs : BltN (Str.ofString "abs") (.builtin "abs"):=.at 10 rfl fun _ h=>Value.noConfusion h
theorem nB_max : BltN (Str.ofString "max") (.builtin "max"):=.at 11 rfl fun _ h=>Value.noConfusion h
theorem nB_set : BltN (Str.ofString "set") (.type "set"):=.at 12 rfl fun _ h=>Value.noConfusion h
theorem nB_dict : BltN (Str.ofString "dict") (.type "dict"):=.at 13 rfl fun _ h=>Value.noConfusion h
theorem nB_list : BltN (Str.ofString "list") (.type "list"):=.at 14 rfl fun _ h=>Value.noConfusion h
theorem nB_min : BltN (Str.ofString "min") (.builtin "min"):=.at 15 rfl fun _ h=>Value.noConfusion h
noncomputable def funL : List (Str × Addr):=[(S "number_of",99),(S "octets_of",104),(S "Pointer",129),(S "dsize",138),(S "pointer_octets",143),(S "pointer_of",148),(S "new_points",155),(S "add_point",162),(S "add_points",167),(S "points",172),(S "empty_points",179),(S "space_of",184),(S "new_dead",191),(S "dead_keys",196),(S "list_of",203),(S "key_for",208),(S "put_dead",215),(S "add_key",220),(S "take_key",227),(S "dead_points",234),(S "dead_between",239),(S "move_above",246),(S "drop_dead",253),(S "merge_dead",260),(S "copy_keys",265),(S "MemBase",366),(S "_law_next",377),(S "_law_point",382),(S "_law_below",394),(S "_law_flat",401),(S "_law_is",406),(S "_law_put",413),(S "_law_added",418),(S "_law_taken",425),(S "_law_step",430),(S "_law_merged",435)]
theorem funL_ok (P : Params) : funL.map (fun p=>(nsIn (KF P) mainGlobals p.1,keepIn (KF P) (.ref p.2),p.1 == ("__debug__" : Str))) = funL.map (fun p=>(some (some (.ref p.2)),true,false)):=by kernel_rfl
theorem FunN.at (i : Nat) {f : Str} {a : Addr} (h : funL[i]? = some (f,a)) : FunN f (.ref a):=fun P=>by
 have:=congrArg (·[i]?) (funL_ok P)
 simpa [List.getElem?_map,h] using this
theorem nF99 : FunN (Str.ofString "number_of") (.ref 99):=.at 0 rfl
theorem nF104 : FunN (Str.ofString "octets_of") (.ref 104):=.at 1 rfl
theorem nF129 : FunN (Str.ofString "Pointer") (.ref 129):=.at 2 rfl
theorem nF138 : FunN (Str.ofString "dsize") (.ref 138):=.at 3 rfl
theorem nF143 : FunN (Str.ofString "pointer_octets") (.ref 143):=.at 4 rfl
theorem nF148 : FunN (Str.ofString "pointer_of") (.ref 148):=.at 5 rfl
theorem nF155 : FunN (Str.ofString "new_points") (.ref 155):=.at 6 rfl
theorem nF162 : FunN (Str.ofString "add_point") (.ref 162):=.at 7 rfl
theorem nF167 : FunN (Str.ofString "add_points") (.ref 167):=.at 8 rfl
theorem nF172 : FunN (Str.ofString "points") (.ref 172):=.at 9 rfl
theorem nF179 : FunN (Str.ofString "empty_points") (.ref 179):=.at 10 rfl
theorem nF184 : FunN (Str.ofString "space_of") (.ref 184):=.at 11 rfl
theorem nF191 : FunN (Str.ofString "new_dead") (.ref 191):=.at 12 rfl
theorem nF196 : FunN (Str.ofString "dead_keys") (.ref 196):=.at 13 rfl
theorem nF203 : FunN (Str.ofString "list_of") (.ref 203):=.at 14 rfl
theorem nF208 : FunN (Str.ofString "key_for") (.ref 208):=.at 15 rfl
theorem nF215 : FunN (Str.ofString "put_dead") (.ref 215):=.at 16 rfl
theorem nF220 : FunN (Str.ofString "add_key") (.ref 220):=.at 17 rfl
theorem nF227 : FunN (Str.ofString "take_key") (.ref 227):=.at 18 rfl
theorem nF234 : FunN (Str.ofString "dead_points") (.ref 234):=.at 19 rfl
theorem nF239 : FunN (Str.ofString "dead_between") (.ref 239):=.at 20 rfl
theorem nF246 : FunN (Str.ofString "move_above") (.ref 246):=.at 21 rfl
theorem nF253 : FunN (Str.ofString "drop_dead") (.ref 253):=.at 22 rfl
theorem nF260 : FunN (Str.ofString "merge_dead") (.ref 260):=.at 23 rfl
theorem nF265 : FunN (Str.ofString "copy_keys") (.ref 265):=.at 24 rfl
theorem nF366 : FunN (Str.ofString "MemBase") (.ref 366):=.at 25 rfl
theorem nF377 : FunN (Str.ofString "_law_next") (.ref 377):=.at 26 rfl
theorem nF382 : FunN (Str.ofString "_law_point") (.ref 382):=.at 27 rfl
theorem nF394 : FunN (Str.ofString "_law_below") (.ref 394):=.at 28 rfl
theorem nF401 : FunN (Str.ofString "_law_flat") (.ref 401):=.at 29 rfl
theorem nF406 : FunN (Str.ofString "_law_is") (.ref 406):=.at 30 rfl
theorem nF413 : FunN (Str.ofString "_law_put") (.ref 413):=.at 31 rfl
theorem nF418 : FunN (Str.ofString "_law_added") (.ref 418):=.at 32 rfl
theorem nF425 : FunN (Str.ofString "_law_taken") (.ref 425):=.at 33 rfl
theorem nF430 : FunN (Str.ofString "_law_step") (.ref 430):=.at 34 rfl
theorem nF435 : FunN (Str.ofString "_law_merged") (.ref 435):=.at 35 rfl
noncomputable def AttrV (cx : Cx) (attr : Str) (ov : AV) (mem : Mem) (Q : MQ AV) (X : MQ Addr) : Prop:=∀ loc v,er v = ov -> TV cx (getAttr v attr true) loc mem (EvQ Q) X
noncomputable abbrev KAttr (cx : Cx) (X : MQ Addr) (attr : Str) (Q : MQ AV) : MQ AV:=fun ov m=>AttrV cx attr ov m Q X
theorem EV.attr {o : Expr} {attr : Str} {apos : Pos} (h : EV cx o loc mem (KAttr cx X attr Q) X) (hb : attributeBase o attr cx.env (eval o cx.env) = eval o cx.env:=by rfl) : EV cx (.Attribute o attr apos) loc mem Q X:=fun s I=>by
 rw [arm_eval_Attribute,hb]
 exact wpAny_bind (TV.go h I fun v s' m I1 h1=>wpAny_bind (wpAny_standAt (wpAny_bind (wpAny_holding (wpAny_mono (h1 loc v rfl s' I1) (fun r s2 h2=>wpAny_bind (wpAny_letTemporaryGo (wpAny_pure h2))) fun _ _ x=>x)))))
theorem EV.attrS {o : Expr} {attr : Str} {apos : Pos} {ov : AV} (hv : evS loc o = some ov) (h : AttrV cx attr ov mem Q X) (hb : attributeBase o attr cx.env (eval o cx.env) = eval o cx.env:=by rfl) : EV cx (.Attribute o attr apos) loc mem Q X:=EV.attr (EV.s hv h) hb
theorem getL_of {w : World} {name : Str} : ∀ {ents : List DictEntry} {es : List (Str × AV)},All2 (EntS w) ents es -> (match es.lookup name with | some av=>∃ v,getL name ents = some (some v) /\ er v = av | none=>getL name ents = some none)
 | _,_,.nil=>rfl
 | e :: ents,(k,av) :: es,.cons ⟨⟨t,hk⟩,_,hv⟩ r=>by
  have ih:=getL_of (name:=name) r
  rw [List.lookup_cons]
  unfold getL at ih ⊢
  rw [List.find?_cons,List.any_cons]
  have e1 : e.key.isStr name = (k == name):=by rw [hk];rfl
  have e2 : e.refKey = false:=by unfold DictEntry.refKey;rw [hk]
  rw [e1,e2,Bool.false_or]
  by_cases q : name = k
  ·subst q
   simp only [beq_self_eq_true]
   exact (iX1b _ rfl hv)
  ·have q1 : (name == k) = false:=beq_eq_false_iff_ne.mpr q
   have q2 : (k == name) = false:=beq_eq_false_iff_ne.mpr (Ne.symm q)
   rw [q1,q2]
   exact ih
noncomputable def AOk (C : Addr) (attr : Str) : Prop:=∀ P,plainGet (KF P) C attr = true /\ hasDictIn (KF P) C = true /\ ∃ a,findIn (KF P) (.ref C) attr = some a /\ noGet (KF P) a = true
theorem handedIn_of {v : Value} (h : ∀ i,er v ≠ .builtin i) : handedIn v = true:=by
 cases v <;> first | rfl | exact absurd rfl (h _)
theorem InSt.inst {s : Shared} {x d C : Addr} {es : List (Str × AV)} (I : InSt cx loc mem s) (hx : mem x = some (.inst C d)) {b : Bool} (hd : mem d = some (.dictS b es)) :
  ∃ ents n,InstAt s.heap x (instObj C d) C (some (dictOf ents n)) /\ All2 (EntS cx.w) ents es:=by
 refine eX1b (I.get hx) fun o ho r=>?_
 obtain ⟨od,hod,ents,n,ee69,ra,_⟩:=I.get hd;subst ee69
 cases r
 exact (iX2b ents n (⟨ho,rfl,rfl,hod⟩) ra)
theorem AttrV.inst {attr : Str} {x d C : Addr} {es : List (Str × AV)} {av : AV} (hx : mem x = some (.inst C d)) {b : Bool} (hd : mem d = some (.dictS b es)) (hl : es.lookup attr = some av) (hok : AOk C attr) (hb : ∀ i,av ≠ .builtin i) (h : Q av mem) :
  AttrV cx attr (.ref x) mem Q X:=fun loc v hv s I=>by
 cases er_ref hv
 refine eX2b (I.inst hx hd) fun ents n IA ra=>?_
 refine eX1b (I.fr0) fun m F _=>?_
 obtain ⟨k1,k2,a,k3,k4⟩:=hok cx.w.params
 have g:=getL_of (name:=attr) ra
 rw [hl] at g
 refine eX1b g fun v g1 g2=>?_
 exact get_own F I.ok.X IA k1 k2 k3 k4 g1 (handedIn_of fun i q=>hb i (g2 ▸ q)) (iX1b mem I.toks (by show Q (er v) mem;rw [g2];exact h))
noncomputable def MOk (C : Addr) (name : Str) (f : Addr) : Prop:=∀ P,plainGet (KF P) C name = true /\ findIn (KF P) (.ref C) name = some (some (.ref f)) /\ isFn (KF P) (.ref f) = true /\ keepIn (KF P) (.ref f) = true
noncomputable def MethV (cx : Cx) (name : Str) (ov : AV) (mem : Mem) (k : Value -> AV -> Mem -> Prop) (X : MQ Addr) : Prop :=
 ∀ loc v pl,er v = ov -> TV cx (getMethod v name pl) loc mem (fun r m=>r.2 = [v] /\ (∀ a,r.1 = .ref a -> ∀ P,keepIn (KF P) r.1 = true) /\ k r.1 ov m) X
noncomputable abbrev KMethA (cx : Cx) (X : MQ Addr) (loc : Loc) (pos : Pos) (args : List Expr) (Q : MQ AV) : Value -> AV -> Mem -> Prop:=fun f ov m=>EVs cx args pos loc m (KPush ov (KCall cx X f Q)) X
noncomputable abbrev KMeth (cx : Cx) (X : MQ Addr) (loc : Loc) (pos : Pos) (name : Str) (args : List Expr) (Q : MQ AV) : MQ AV:=fun ov m=>MethV cx name ov m (KMethA cx X loc pos args Q) X
theorem EV.meth {o : Expr} {name : Str} {apos : Pos} {args : List Expr} (h : EV cx o loc mem (KMeth cx X loc pos name args Q) X)
  (hb : attributeBase o name cx.env (eval o cx.env) = eval o cx.env:=by rfl) (hst : (starEach args cx.env).all (fun x=>!x.1) = true:=by rfl) (hline : (apos.endLine == pos.line) = true:=by rfl) (hlen : args.length < 30:=by decide) :
  EV cx (.Call (.Attribute o name apos) args [] pos) loc mem Q X:=fun s I=>by
 rw [arm_eval_Call,hb]
 refine wpAny_bind (TV.go h I fun ov s' m I1 h1=>wpAny_bind (wpAny_standAt ?_))
 have hform : methodCallForm (args.length + ([] : List Keyword).length) (backTo pos (starEach args cx.env)) (backToKw pos (keywordEach [] cx.env)) = true:=by
  unfold methodCallForm
  rw [backTo_plain hst]
  show (true && true && decide (args.length + 0 + 0 < 30)) = true
  simp [hlen]
 have hpos : methodCallPos true o cx.env apos pos = pure pos:=by unfold methodCallPos;simp [hline]
 unfold methodCall
 rw [hform]
 refine wpAny_bind (wpAny_holding (wpAny_mono (h1 loc ov _ rfl s' I1) (fun r s2 zq22=>eX1d zq22 fun m2 I2 e hk h2=>?_) fun _ _ x=>x))
 obtain ⟨f,first⟩:=r
 dsimp only at e hk h2 ⊢
 subst e
 refine wpAny_bind (wpAny_of_eq hpos ?_)
 refine callWith_any (P:=(KF cx.w.params).In) (backTo_plain hst) (fun hh hX=>?_) (TV.go h2 I2 fun vs s3 m3 I3 h3=>(iX0b I3.X (h3 loc (ov :: vs) rfl s3 I3)))
 cases f with
 | ref a=>exact keeps_K (hk a rfl _) hh hX
 | _=>exact (iX1b .machine (.inr (.inl rfl)) (Looks.of_pure rfl))
theorem EV.methS {o : Expr} {name : Str} {apos : Pos} {args : List Expr} {ov : AV} (hv : evS loc o = some ov) (h : MethV cx name ov mem (KMethA cx X loc pos args Q) X)
  (hb : attributeBase o name cx.env (eval o cx.env) = eval o cx.env:=by rfl) (hst : (starEach args cx.env).all (fun x=>!x.1) = true:=by rfl) (hline : (apos.endLine == pos.line) = true:=by rfl) (hlen : args.length < 30:=by decide) :
  EV cx (.Call (.Attribute o name apos) args [] pos) loc mem Q X:=EV.meth (EV.s hv h) hb hst hline hlen
theorem MethV.inst {name : Str} {x d C f : Addr} {es : List (Str × AV)} {k : Value -> AV -> Mem -> Prop} (hx : mem x = some (.inst C d)) {b : Bool} (hd : mem d = some (.dictS b es)) (hl : es.lookup name = none) (hok : MOk C name f) (h : k (.ref f) (.ref x) mem) :
  MethV cx name (.ref x) mem k X:=fun loc v pl hv s I=>by
 cases er_ref hv
 refine eX2b (I.inst hx hd) fun ents n IA ra=>?_
 refine eX1b (I.fr0) fun m F _=>?_
 refine eX0d (hok cx.w.params) fun k1 k2 k3 k4=>?_
 have g:=getL_of (name:=name) ra
 rw [hl] at g
 exact method_inst F I.ok.X IA k1 k2 k3 g (iX1d mem I rfl (fun a _ P=>(hok P).2.2.2) h)
end
noncomputable def scEnv (sc : Scope) : Env:={ scope:=sc,locals:=0,globals:=0,cells:=[] }
section
variable {cx : Cx} {loc : Loc} {mem : Mem} {s : Shared}
theorem InSt.gne (I : InSt cx loc mem s) {b : Addr} {o : Obj} (e : cx.G b = some o) : b ≠ cx.env.locals:=fun q=>by rw [q,I.fm.own] at e;cases e
theorem lookup_cons_ne {l : Loc} {x y : Str} {v : AV} (h : y ≠ x) : ((x,v) :: l).lookup y = l.lookup y:=by
 rw [List.lookup_cons,beq_eq_false_iff_ne.mpr h]
theorem lookup_cons_eq {l : Loc} {x : Str} {v : AV} : ((x,v) :: l).lookup x = some v:=by
 rw [List.lookup_cons,beq_self_eq_true]
theorem InSt.setLocal (I : InSt cx loc mem s) {x : Str} {v : Value} {E : Value -> Shared -> Prop} {Q : Unit -> Shared -> Prop} (hk : cx.env.kindOf x = some .local) (h : ∀ s',InSt cx ((x,er v) :: loc) mem s' -> Q () s') :
  wpAny (model pw cx.w) cx.A (storeName cx.env x v) Q E s:=by
 refine eX1b (I.fm.ns) fun m hn hm=>?_
 refine wpAny_storeName_local hk hn (fun h' hn' hs=>h _ ?_) (by rw [I.ok.kind];rfl)
 have kp : ∀ b o,b ≠ cx.env.locals -> s.heap.get? b = some o -> h'.get? b = some o:=fun b o n e=>(hs.2 b n).trans e
 refine ⟨I.ok,⟨fun b o e n=>kp b o (I.gne e) (I.st.kept b o e n),fun b ao e=>?_,I.st.tab.keep fun b o vs e q _=>kp b o (fun z=>?_) e⟩,fun b o e n=>?_,⟨(iX1b _ hn' (fun y u ky hy=>?_)),I.fm.own,I.fm.ownM,fun y c e=>?_,I.fm.apart,fun y u hy=>?_⟩,I.gens,I.drawn,I.os⟩
 ·obtain ⟨h1,o,h2,h3⟩:=I.st.tr b ao e
  exact ⟨h1,o,kp b o (fun q=>by rw [q,I.fm.ownM] at e;cases e) h2,h3⟩
 ·refine eX3c hn fun o2 es ep e2 hd _=>?_
  rw [z,e2] at e;cases e;rw [hd] at q;cases q
 ·refine eX1a (I.fr b o e n) fun sl hs'=>?_
  exact (iX1a sl (kp b _ (I.gne e) hs'))
 ·by_cases q : y = x
  ·subst q
   rw [lookup_cons_eq] at hy;cases hy
   exact (iX1b v (if_pos rfl) rfl)
  ·rw [lookup_cons_ne q] at hy
   refine eX1b (hm y u ky hy) fun u' h1 h2=>?_
   exact (iX1b u' (by rw [if_neg q];exact h1) h2)
 ·refine eX0e (I.fm.cells y c e) fun c1 c2 zz70 c4 c5=>?_;refine eX2b zz70 fun w o ho hd=>?_
  refine (iX0e c1 c2 (iX2b w o (kp c o c2 ho) hd) (fun ky u hu=>?_) c5)
  have q : y ≠ x:=fun z=>by rw [z,hk] at ky;rcases ky with ky | ky <;> cases ky
  rw [lookup_cons_ne q] at hu
  refine eX1b (c4 ky u hu) fun u' zz71 hu'=>?_;refine eX1b zz71 fun o' ho' hd'=>?_
  exact (iX1b u' (iX1b o' (kp c o' c2 ho') hd') hu')
 ·by_cases q : y = x
  ·subst q;exact .inl hk
  ·rw [lookup_cons_ne q] at hy;exact I.fm.bound y u hy
theorem InSt.setCell (I : InSt cx loc mem s) (hw : cx.wr = true) {x : Str} {v : Value} {E : Value -> Shared -> Prop} {Q : Unit -> Shared -> Prop} (hk : cx.env.kindOf x = some .cell) (h : ∀ s',InSt cx ((x,er v) :: loc) mem s' -> Q () s') :
  wpAny (model pw cx.w) cx.A (storeName cx.env x v) Q E s:=by
 refine eX1a (I.ok.cellsAll x hk) fun cc hcc=>?_
 refine eX0e (I.fm.cells x cc hcc) fun c1 c2 zz72 c4 c5=>?_;refine eX1a zz72 fun v₀ hv₀=>?_
 have cG:=c5 hw hk
 refine wpAny_storeName_cell I.ok.kind hk hcc hv₀ fun h' hv' hs=>h _ ?_
 have kp : ∀ b o,b ≠ cc -> s.heap.get? b = some o -> h'.get? b = some o:=fun b o n e=>(hs.2 b n).trans e
 have gne : ∀ b o,cx.G b = some o -> b ≠ cc:=fun b o e q=>by rw [q,cG] at e;cases e
 refine eX1b (I.fm.ns) fun m hn hm=>?_
 refine ⟨I.ok,⟨fun b o e n=>kp b o (gne b o e) (I.st.kept b o e n),fun b ao e=>?_,I.st.tab.keep fun b o vs e q _=>kp b o (fun z=>?_) e⟩,fun b o e n=>?_,⟨(iX1b m (hn.sameBut hs (Ne.symm c2)) (fun y u ky hy=>?_)),I.fm.own,I.fm.ownM,fun y c e=>?_,I.fm.apart,fun y u hy=>?_⟩,I.gens,I.drawn,I.os⟩
 ·obtain ⟨h1,o,h2,h3⟩:=I.st.tr b ao e
  exact ⟨h1,o,kp b o (fun q=>by rw [q,c1] at e;cases e) h2,h3⟩
 ·refine eX1b hv₀ fun o2 e2 hd=>?_
  rw [z,e2] at e;cases e;rw [hd] at q;cases q
 ·refine eX1a (I.fr b o e n) fun sl hs'=>?_
  exact (iX1a sl (kp b _ (gne b o e) hs'))
 ·have q : y ≠ x:=fun z=>by rw [z,hk] at ky;cases ky
  rw [lookup_cons_ne q] at hy
  exact hm y u ky hy
 ·by_cases q : y = x
  ·subst q
   rw [hcc] at e;cases e
   exact (iX0e c1 c2 (iX1a _ hv') (fun _ u hu=>by rw [lookup_cons_eq] at hu;cases hu;exact (iX1b v hv' rfl)) c5)
  ·refine eX0e (I.fm.cells y c e) fun d1 d2 zz73 d4 d5=>?_;refine eX2b zz73 fun w o ho hd=>?_
   have ne : c ≠ cc:=fun z=>q (I.fm.apart y x c e (z ▸ hcc))
   refine (iX0e d1 d2 (iX2b w o (kp c o ne ho) hd) (fun ky u hu=>?_) d5)
   rw [lookup_cons_ne q] at hu
   refine eX1b (d4 ky u hu) fun u' zz74 hu'=>?_;refine eX1b zz74 fun o' ho' hd'=>?_
   exact (iX1b u' (iX1b o' (kp c o' ne ho') hd') hu')
 ·by_cases q : y = x
  ·subst q;exact .inr ⟨.inl hk,cc,hcc⟩
  ·rw [lookup_cons_ne q] at hy;exact I.fm.bound y u hy
noncomputable def storable (sc : Scope) (x : Str) : Bool:=sc.names.lookup x == some .local || sc.names.lookup x == some .cell
theorem InSt.store (I : InSt cx loc mem s) {sc : Scope} (hs : cx.env.scope = sc) (hw : cx.wr = true) {x : Str} {v : Value} {E : Value -> Shared -> Prop} {Q : Unit -> Shared -> Prop} (hk : storable sc x = true) (h : ∀ s',InSt cx ((x,er v) :: loc) mem s' -> Q () s') :
  wpAny (model pw cx.w) cx.A (storeName cx.env x v) Q E s:=by
 subst hs
 rcases Bool.or_eq_true_iff.mp hk with k | k
 ·exact I.setLocal (eq_of_beq k) h
 ·exact I.setCell hw (eq_of_beq k) h
end
noncomputable abbrev LQ:=Loc -> Mem -> Prop
noncomputable def SPost (cx : Cx) (Qn : LQ) (Qr : MQ AV) (f : Flow) (s' : Shared) : Prop:=match f with
 | .next=>∃ loc' m',InSt cx loc' m' s' /\ Qn loc' m'
 | .ret v=>∃ loc' m',InSt cx loc' m' s' /\ Qr (er v) m'
 | _=>False
noncomputable def S1 (cx : Cx) (st : Stmt) (loc : Loc) (mem : Mem) (Qn : LQ) (Qr : MQ AV) (X : MQ Addr) : Prop:=∀ s,InSt cx loc mem s -> wpAny (model pw cx.w) cx.A (exec st cx.env) (SPost cx Qn Qr) (EPost cx X) s
noncomputable def SV (cx : Cx) (ss : List Stmt) (loc : Loc) (mem : Mem) (Qn : LQ) (Qr : MQ AV) (X : MQ Addr) : Prop:=∀ s,InSt cx loc mem s -> wpAny (model pw cx.w) cx.A (execs ss cx.env) (SPost cx Qn Qr) (EPost cx X) s
section
variable {cx : Cx} {X : MQ Addr} {Qr : MQ AV} {loc : Loc} {mem : Mem} {Qn : LQ} {pos : Pos}
noncomputable abbrev KSeq (cx : Cx) (X : MQ Addr) (Qr : MQ AV) (ss : List Stmt) (Qn : LQ) : LQ:=fun l m=>SV cx ss l m Qn Qr X
noncomputable abbrev KExp (loc : Loc) (Qn : LQ) : MQ AV:=fun _ m=>Qn loc m
noncomputable abbrev KAsg (loc : Loc) (x : Str) (Qn : LQ) : MQ AV:=fun a m=>Qn ((x,a) :: loc) m
noncomputable abbrev KIf (cx : Cx) (X : MQ Addr) (Qr : MQ AV) (loc : Loc) (b : List Stmt) (o : List Stmt) (Qn : LQ) : MQ Bool:=fun c m=>if c = true then SV cx b loc m Qn Qr X else SV cx o loc m Qn Qr X
noncomputable abbrev KMem (loc : Loc) (Qn : LQ) : Mem -> Prop:=fun m=>Qn loc m
theorem SV.nil (h : Qn loc mem) : SV cx [] loc mem Qn Qr X:=fun _ I=>wpAny_execs_nil (iX2b loc mem I h)
theorem SV.cons {st : Stmt} {ss : List Stmt} (h : S1 cx st loc mem (KSeq cx X Qr ss Qn) Qr X) : SV cx (st :: ss) loc mem Qn Qr X:=fun s I =>
 wpAny_execs_cons (wpAny_mono (h s I) (fun f s' p=>by
  cases f with
  | next=>refine eX2b p fun l m I1 h1=>?_;exact h1 s' I1
  | ret v=>exact p
  | _=>exact p.elim) fun _ _ x=>x)
theorem SV.wloc {ss : List Stmt} {loc' : Loc} (l : Loc.le loc' loc) (h : SV cx ss loc' mem Qn Qr X) : SV cx ss loc mem Qn Qr X:=fun s I=>h s (I.wloc l)
theorem S1.expr {e : Expr} (h : EV cx e loc mem (KExp loc Qn) X) (sc : Scope) (hs : cx.env.scope = sc) (hi : interactive (scEnv sc) = false:=by rfl) (hw : swapsWith e none pos.line (scEnv sc) = pure false:=by rfl) : S1 cx (.Expr e pos) loc mem Qn Qr X:=fun s I=>by
 subst hs
 exact wpAny_Expr_any (TV.go h I fun v s' m I1 h1=>(iX2b loc m I1 h1)) hi hw
theorem S1.ret {e : Expr} (h : EV cx e loc mem Qr X) : S1 cx (.Return (some e) pos) loc mem Qn Qr X:=fun s I =>
 wpAny_Return_some (TV.go h I fun v s' m I1 h1=>(iX2b loc m I1 h1))
theorem S1.assign {x : Str} {p : Pos} {e : Expr} {sc : Scope} (hs : cx.env.scope = sc) (h : EV cx e loc mem (KAsg loc x Qn) X) (hk : storable sc x = true:=by rfl)
  (hw : swapsWith e (some (.Name x p)) pos.line (scEnv sc) = pure false:=by rfl) (hwr : cx.wr = true:=by assumption) : S1 cx (.Assign [.Name x p] e pos) loc mem Qn Qr X:=fun s I =>
 wpAny_Assign_Name (TV.go h I fun v s' m I1 h1=>I1.store hs hwr hk fun s2 I2=>(iX2b _ m I2 h1)) (by subst hs;exact hw)
theorem S1.ite {t : Expr} {b o : List Stmt} (h : BV cx t loc mem (KIf cx X Qr loc b o Qn) X) : S1 cx (.If t b o pos) loc mem Qn Qr X:=fun s I =>
 wpAny_If (TV.go h I fun c s' m I1 h1=>by
  cases c with
  | true=>exact h1 s' I1
  | false=>exact h1 s' I1)
noncomputable def SetAttrV (cx : Cx) (attr : Str) (ov av : AV) (mem : Mem) (Q : Mem -> Prop) (X : MQ Addr) : Prop:=∀ loc o v,er o = ov -> er v = av -> TV cx (setAttr o attr v) loc mem (fun _ m=>Q m) X
noncomputable abbrev KSetA2 (cx : Cx) (X : MQ Addr) (loc : Loc) (attr : Str) (a : AV) (Qn : LQ) : MQ AV:=fun ov m=>SetAttrV cx attr ov a m (KMem loc Qn) X
noncomputable abbrev KSetA (cx : Cx) (X : MQ Addr) (loc : Loc) (attr : Str) (o : Expr) (Qn : LQ) : MQ AV:=fun a m=>EV cx o loc m (KSetA2 cx X loc attr a Qn) X
theorem S1.setAttr {o e : Expr} {attr : Str} {p : Pos} {sc : Scope} (hs : cx.env.scope = sc) (h : EV cx e loc mem (KSetA cx X loc attr o Qn) X)
  (hw : swapsWith e (some (.Attribute o attr p)) pos.line (scEnv sc) = pure false:=by rfl) : S1 cx (.Assign [.Attribute o attr p] e pos) loc mem Qn Qr X:=fun s I =>
 plainObj_wpAny_Assign_Attribute (TV.go h I fun v s' m I1 h1=>wpAny_mono (h1 s' I1) (fun ov s2 zq30=>eX1b zq30 fun m2 I2 h2=>wpAny_mono (h2 loc ov v rfl rfl s2 I2) (fun _ s3 zq31=>eX1b zq31 fun m3 I3 h3=>(iX2b loc m3 I3 h3)) fun _ _ x=>x) fun _ _ x=>x) (by subst hs;exact hw)
noncomputable def sput {α : Type} [DecidableEq α] (es : List (α × AV)) (k : α) (v : AV) : List (α × AV):=match es with
 | []=>[(k,v)]
 | (k',v') :: r=>if k' = k then (k',v) :: r else (k',v') :: sput r k v
theorem sput_keys {α : Type} [DecidableEq α] {k : α} {v : AV} : ∀ {es : List (α × AV)} {x : α},x ∈ (sput es k v).map (·.1) -> x = k \/ x ∈ es.map (·.1)
 | [],x,h=>by simp [sput] at h;exact .inl h
 | (k',v') :: r,x,h=>by
  unfold sput at h
  split at h
  ·rename_i q
   simp only [List.map_cons,List.mem_cons] at h ⊢
   exact .inr h
  ·simp only [List.map_cons,List.mem_cons] at h ⊢
   rcases h with h | h
   ·exact .inr (.inl h)
   ·exact (sput_keys h).imp id .inr
theorem sput_nodup {α : Type} [DecidableEq α] {k : α} {v : AV} : ∀ {es : List (α × AV)},(es.map (·.1)).Nodup -> ((sput es k v).map (·.1)).Nodup
 | [],_=>by simp [sput]
 | (k',v') :: r,h=>by
  rw [List.map_cons,List.nodup_cons] at h
  unfold sput
  split
  ·exact List.nodup_cons.mpr h
  ·rename_i q
   refine List.nodup_cons.mpr (iX0b (fun hm=>?_) (sput_nodup h.2))
   rcases sput_keys hm with e | e
   ·exact q e
   ·exact h.1 e
theorem keyHash_eq (w : World) (x : Str) : PyData.keyHash w.params x = hashStr w x:=by rfl
theorem putL_all {w : World} {name : Str} {tk : Tok} {v : Value} {ents : List DictEntry} {es : List (Str × AV)} (x : All2 (EntS w) ents es) : All2 (EntS w) (putL name (PyData.keyHash w.params name) (.str name tk) v ents) (sput es name (er v)):=by
 induction x with
 | nil=>exact .cons (iX0c (iX1a _ rfl) (keyHash_eq w name) rfl) .nil
 | @cons e kv ents es x r ih =>
  refine eX0c x fun hk hh hv=>?_
  refine eX1a hk fun t hk=>?_
  have e1 : e.key.isStr name = (kv.1 == name):=congrArg (Value.isStr · name) hk
  by_cases q : kv.1 = name
  ·have e2:=e1.trans (beq_iff_eq.mpr q)
   exact (show putL name (PyData.keyHash w.params name) (.str name tk) v (e :: ents) = _ from if_pos e2) ▸ (show sput (kv :: es) name (er v) = _ from if_pos q) ▸ .cons (iX0c (iX1a t hk) hh rfl) r
  ·have e2:=e1.trans (beq_eq_false_iff_ne.mpr q)
   exact (show putL name (PyData.keyHash w.params name) (.str name tk) v (e :: ents) = _ from if_neg (ne_true_of_eq_false e2)) ▸ (show sput (kv :: es) name (er v) = _ from if_neg q) ▸ .cons (iX0c (iX1a t hk) hh hv) ih
theorem putL_len (name : Str) (hsh : Int) (key v : Value) : ∀ es : List DictEntry,(putL name hsh key v es).length <= es.length + 1
 | []=>by simp [putL]
 | e :: r=>by
  unfold putL
  split
  ·simp
  ·have:=putL_len name hsh key v r;simp only [List.length_cons];lia
theorem All2.len {α β : Type} {R : α -> β -> Prop} {l : List α} {m : List β} (h : All2 R l m) : l.length = m.length:=by
 induction h with
 | nil=>rfl
 | cons _ _ ih=>simp [ih]
noncomputable def SOk (C : Addr) (attr : Str) : Prop:=∀ P,findIn (KF P) (.ref C) "__setattr__" = some (some (.builtin "object.__setattr__")) /\ plainOver (KF P) C = true /\ takerIn (KF P) C attr = some none /\ hasDictIn (KF P) C = true
theorem SetAttrV.inst {attr : Str} {x d C : Addr} {es : List (Str × AV)} {av : AV} {Q : Mem -> Prop} (hx : mem x = some (.inst C d)) {b : Bool} (hd : mem d = some (.dictS b es)) (hok : SOk C attr) (hlen : es.length <= 900) (h : Q (mset mem d (.dictS b (sput es attr av)))) :
  SetAttrV cx attr (.ref x) av mem Q X:=fun loc o v ho hv s I=>by
 cases er_ref ho
 subst hv
 refine eX0d (hok cx.w.params) fun k1 k2 k3 k4=>?_
 refine eX3f (I.viaK hd) fun m od rest F hod r N hne fin=>?_
 refine eX2c r ?_;clear r;intro ents n ee75 ra rn;subst ee75
 refine eX1b (I.get hx) fun ox hox rx=>?_
 cases rx
 have IA : InstAt s.heap x (instObj C d) C (some (dictOf ents n)):=⟨hox,rfl,rfl,hod⟩
 have hl : (getL attr ents).isSome = true:=by
  have g:=getL_of (name:=attr) ra
  split at g
  ·refine eX1b g fun v' g1 _=>?_;rw [g1];rfl
  ·rw [g];rfl
 have hpl:=putL_len attr (PyData.keyHash cx.w.params attr) (.str attr (s.toks + 1)) v ents
 have hll:=ra.len
 refine set_dict F I.ok.X N IA rfl k1 k2 k3 k4 hl rfl (.head hne) (by lia) fun h' F' N'=>(iX1b _ (fin h' _ _ (.dictS b (sput es attr (er v))) [] F' N' (iX2c _ _ rfl (putL_all ra) (sput_nodup rn))) h)
end
noncomputable def Own (env : Env) (b : Addr) : Prop:=b = env.locals \/ ∃ x,env.cells.lookup x = some b
open Classical in
noncomputable def frz (cx : Cx) (h : Heap) : Addr -> Option Obj:=fun b=>if Own cx.env b then h.get? b else cx.G b
theorem frz_own {cx : Cx} {h : Heap} {b : Addr} (o : Own cx.env b) : frz cx h b = h.get? b:=by unfold frz;rw [if_pos o]
theorem frz_not {cx : Cx} {h : Heap} {b : Addr} (o : ¬ Own cx.env b) : frz cx h b = cx.G b:=by unfold frz;rw [if_neg o]
section
variable {cx cx' : Cx} {loc loc' : Loc} {mem m' : Mem} {s s' : Shared}
theorem InSt.ownM (I : InSt cx loc mem s) {b : Addr} (o : Own cx.env b) : mem b = none:=by
 rcases o with rfl | ⟨x,hx⟩
 ·exact I.fm.ownM
 ·exact (I.fm.cells x b hx).1
theorem InSt.ownGet (I : InSt cx loc mem s) {b : Addr} (o : Own cx.env b) : ∃ ob,s.heap.get? b = some ob /\ ((∃ es n,ob.data = .dict es n) \/ ∃ v,ob.data = .cell v):=by
 rcases o with rfl | ⟨x,hx⟩
 ·refine eX1b (I.fm.ns) fun m zz76 _=>?_;refine eX3c zz76 fun ob es n h1 h2 _=>?_
  exact (iX1b ob h1 (.inl (iX2a es n h2)))
 ·refine eX0d (I.fm.cells x b hx) fun _ _ zz77 _=>?_;refine eX2b zz77 fun v ob h1 h2=>?_
  exact (iX1b ob h1 (.inr (iX1a v h2)))
theorem InSt.frzSize (I : InSt cx loc mem s) {b : Addr} (h : s.heap.get? b = none) : frz cx s.heap b = none:=by
 by_cases o : Own cx.env b
 ·rw [frz_own o,h]
 ·rw [frz_not o]
  cases q : cx.G b with
  | none=>rfl
  | some ob =>
   by_cases hf : b ∈ frs cx.l
   ·refine eX1a (I.fr b ob q hf) fun sl e=>?_;rw [h] at e;cases e
   ·rw [I.st.kept b ob q hf] at h;cases h
theorem InSt.frzGet (I : InSt cx loc mem s) {b : Addr} {o : Obj} (e : frz cx s.heap b = some o) : (b ∉ frs cx.l -> s.heap.get? b = some o) /\ (b ∈ frs cx.l -> ∃ sl,s.heap.get? b = some { o with slots:=sl }):=by
 by_cases w : Own cx.env b
 ·rw [frz_own w] at e
  exact (iX0b (fun _=>e) (fun _=>(iX1a o.slots e)))
 ·rw [frz_not w] at e
  exact (iX0b (I.st.kept b o e) (I.fr b o e))
structure Froz (cx cx' : Cx) (h : Heap) : Prop where
 w : cx'.w = cx.w
 hb : cx'.hb = cx.hb
 mg : cx'.mg = cx.mg
 mb : cx'.mb = cx.mb
 loose : cx'.loose = cx.loose
 mean : cx'.mean = cx.mean
 ts : cx'.ts = cx.ts
 G : cx'.G = frz cx h
 g : cx'.g = cx.g
 d : cx'.d = cx.d
 os : cx'.os = cx.os
 fl : ∀ b ∈ frs cx'.l,b ∈ frs cx.l \/ h.get? b = none
 fl' : ∀ b ∈ frs cx.l,b ∈ frs cx'.l
theorem Froz.thawB (z : Froz cx cx' s.heap) (I : InSt cx loc mem s) {B : Heap} (I' : StB cx' m' B) : StB cx m' B:=by
 have gt : ∀ b o,cx.G b = some o -> b ∉ frs cx.l -> cx'.G b = some o /\ b ∉ frs cx'.l:=fun b o e n=>by
  have h1:=I.st.kept b o e n
  refine (iX0b ?_ (fun hm=>(z.fl b hm).elim n fun q=>by rw [h1] at q;cases q))
  rw [z.G]
  by_cases w : Own cx.env b
  ·rw [frz_own w,h1]
  ·rw [frz_not w,e]
 refine ⟨fun b o e n=>let ⟨h1,h2⟩:=gt b o e n;I'.kept b o h1 h2,fun a ao e=>?_,z.ts ▸ I'.tab⟩
 obtain ⟨h1,o,h2,h3⟩:=I'.tr a ao e
 refine ⟨?_,o,h2,z.w ▸ h3⟩
 rw [z.G] at h1
 have w : ¬ Own cx.env a:=fun w=>by
  rw [frz_own w] at h1
  refine eX1b (I.ownGet w) fun ob hob _=>?_
  rw [h1] at hob;cases hob
 rwa [frz_not w] at h1
theorem Froz.thawF (z : Froz cx cx' s.heap) (I : InSt cx loc mem s) {h' : Heap} (I' : Fram cx' h') : Fram cx h':=fun b o e hm=>by
 refine eX1a (I.fr b o e hm) fun sl h1=>?_
 by_cases w : Own cx.env b
 ·refine eX1a (I' b { o with slots:=sl } (by rw [z.G,frz_own w,h1]) (z.fl' b hm)) fun sl' h2=>?_
  exact (iX1a sl' h2)
 ·exact I' b o (by rw [z.G,frz_not w,e]) (z.fl' b hm)
theorem Froz.own (z : Froz cx cx' s.heap) (I : InSt cx loc mem s) {h' : Heap} (K' : ∀ b o,cx'.G b = some o -> b ∉ frs cx'.l -> h'.get? b = some o) (F' : Fram cx' h') {b : Addr} (w : Own cx.env b) {o : Obj} (e : s.heap.get? b = some o) : ∃ sl,h'.get? b = some { o with slots:=sl }:=by
 have g : cx'.G b = some o:=by rw [z.G,frz_own w,e]
 by_cases hm : b ∈ frs cx'.l
 ·exact F' b o g hm
 ·exact (iX1a o.slots (K' b o g hm))
theorem Froz.fm (z : Froz cx cx' s.heap) (I : InSt cx loc mem s) {h' : Heap} (I' : StB cx' m' h') (F' : Fram cx' h') : Fm cx loc m' h':=by
 have mOwn : ∀ b,Own cx.env b -> m' b = none:=fun b w=>by
  cases q : m' b with
  | none=>rfl
  | some ao =>
   refine eX0b (I'.tr b ao q) fun h1 _=>?_
   rw [z.G,frz_own w] at h1
   refine eX1b (I.ownGet w) fun ob hob _=>?_
   rw [h1] at hob;cases hob
 refine eX1b (I.fm.ns) fun m zz78 hm=>?_;refine eX3c zz78 fun oL es ep hL hLd hr=>?_
 refine ⟨(iX1b m ?_ hm),I.fm.own,mOwn _ (.inl rfl),fun x c e=>?_,I.fm.apart,I.fm.bound⟩
 ·refine eX1a (z.own I I'.kept F' (.inl rfl) hL) fun sl h1=>?_
  exact ⟨_,es,ep,h1,hLd,hr⟩
 ·refine eX0e (I.fm.cells x c e) fun c1 c2 zz79 c4 c5=>?_;refine eX2b zz79 fun v o ho hd=>?_
  refine eX1a (z.own I I'.kept F' (.inr (iX1a x e)) ho) fun sl h1=>?_
  refine (iX0e (mOwn c (.inr (iX1a x e))) c2 (iX2b v _ h1 hd) (fun k u hu=>?_) c5)
  refine eX1b (c4 k u hu) fun u' zz80 hu'=>?_;refine eX1b zz80 fun o' ho' hd'=>?_
  rw [ho] at ho';cases ho'
  exact (iX1b u' (iX1b _ h1 hd') hu')
theorem Froz.thaw (z : Froz cx cx' s.heap) (I : InSt cx loc mem s) (I' : InSt cx' loc' m' s') : InSt cx loc m' s' :=
 ⟨I.ok,z.thawB I I'.st,z.thawF I I'.fr,z.fm I I'.st I'.fr,I'.gens.trans z.g,I'.drawn.trans z.d,I'.os.trans z.os⟩
theorem Fram.slots {cx : Cx} {h h' : Heap} (f : Fram cx h) (u : h.UpToSlots h') (hd : ∀ b o,cx.G b = some o -> b ∈ frs cx.l -> ∀ vs,o.data ≠ .fields vs) : Fram cx h':=fun b o e m=>by
 refine eX1a (f b o e m) fun sl h1=>?_
 refine eX1a (u b _ h1 (hd b o e m)) fun sl' h2=>?_
 exact (iX1a sl' h2)
theorem CxOk.frDict (ok : CxOk cx) {b : Addr} {o : Obj} (e : cx.G b = some o) (m : b ∈ frs cx.l) : (∃ es n,o.data = .dict es n) \/ b = cx.env.locals:=by
 refine eX1b (List.mem_filterMap.mp m) fun env he hf=>?_
 obtain ⟨_,L,h1,h2⟩:=ok.outer env he
 rw [hf] at h1;cases h1
 rcases h2 with ⟨o',es,n,h3,h4⟩ | h3
 ·rw [e] at h3;cases h3;exact .inl (iX2a es n h4)
 ·exact .inr h3
theorem leaveX (z : Froz cx cx' s.heap) (I : InSt cx loc mem s) (hl : cx'.l = cx'.env :: cx.l) {L : Addr} (hf : cx'.env.frame = some L) {C : Addr} {e : Value} {s₁ : Shared} {E : Value -> Shared -> Prop} (x : ExcSt cx' C m' e s₁) :
  wpAny (model pw cx.w) cx'.A (leaving cx'.env e) (fun _ s'=>ExcSt cx C m' e s') E s₁:=by
 obtain ⟨ok',h1,h2,h3,fram,_,ea,a0,B,ee81,sb,stays,hen,ff,k⟩:=x;subst ee81
 have hfr : cx'.A.frames = some (cx'.env :: cx.l):=ok'.frames.trans (by rw [hl])
 have hdict : ∀ b o,cx.G b = some o -> b ∈ frs cx.l -> ∀ vs,o.data ≠ .fields vs:=fun b o e m vs q=>by
  rcases I.ok.frDict e m with ⟨es,n,hd⟩ | hd
  ·rw [hd] at q;cases q
  ·exact I.gne e hd
 have nsC : ∀ h',s₁.heap.UpToSlots h' -> ∃ m,h'.Ns cx.env.locals m:=fun h' up=>by
  refine eX1b (I.fm.ns) fun m zz82 _=>?_;refine eX3c zz82 fun o es n e1 e2 e3=>?_
  have g : cx'.G cx.env.locals = some o:=by rw [z.G,frz_own (.inl rfl),e1]
  by_cases hm : cx.env.locals ∈ frs cx'.l
  ·refine eX1a (fram _ _ g hm) fun sl q=>?_
   refine eX1a (up _ _ q (fun vs w=>by rw [show ({ o with slots:=sl } : Obj).data = o.data from rfl,e2] at w;cases w)) fun sl' q'=>?_
   exact (iX4c m _ es n q' e2 e3)
  ·refine eX1a (up _ _ (stays _ _ (sb.kept _ _ g hm)) (fun vs w=>by rw [e2] at w;cases w)) fun sl' q'=>?_
   exact (iX4c m _ es n q' e2 e3)
 have fin : ∀ h',Heap.FlyingW B cx.l ea (.ref C) a0 h' -> s₁.heap.UpToSlots h' -> ExcSt cx C m' (.ref ea) { s₁ with heap:=h' }:=fun h' fl up =>
  ⟨I.ok,h1.trans z.g,h2.trans z.d,h3.trans z.os,(z.thawF I fram).slots up hdict,nsC h' up,ea,a0,B,rfl,z.thawB I sb,fl.1,hen,fl.2.2.1,.inr fl⟩
 rw [hl] at ff k
 rcases k with ⟨oe,vs,g1,g2,g3,g4,g5⟩ | fl
 ·refine wpAny_leaving_firstW hfr ff hf g1 stays hen g3 g5 g4 fun h' hL=>?_
  refine eX0d hL fun k1 zz83 k3 k4=>?_;refine eX0c zz83 fun _ _ k2=>?_
  rw [g2] at k3
  exact fin h' (iX0d k1 hen k2 k3) k4
 ·exact wpAny_leaves_onW hfr hf fl fin
end
noncomputable abbrev Spec:=List AV -> Mem -> MQ AV -> MQ Addr -> Prop
noncomputable def FnC (n : Nat) (a : Addr) (P : Spec) : Prop:=∀ cx args mem Q X,Rm n cx.A -> P args mem Q X -> CallV cx (.ref a) args mem Q X
noncomputable def CodeAt (cx : Cx) (loc : Loc) (f : Value) (as : List AV) (mem : Mem) (Q : MQ AV) (X : MQ Addr) : Prop:=∀ vs s,vs.map er = as -> InSt cx loc mem s ->
 codeAny (model pw cx.w) cx.A (.call f ⟨vs,[]⟩) (fun r s'=>match r with | .ok (.ret v)=>∃ m',InSt cx loc m' s' /\ Q (er v) m' | .ok _=>False | .error e=>∃ C m',ExcSt cx C m' e s' /\ X C m') s
noncomputable def FnH (n : Nat) (a : Addr) (H : Cx -> Loc -> Prop) (P : Spec) : Prop:=∀ cx loc args mem Q X,H cx loc -> Rm n cx.A -> P args mem Q X -> CodeAt cx loc (.ref a) args mem Q X
noncomputable def CodeV (cx : Cx) (f : Value) (as : List AV) (mem : Mem) (Q : MQ AV) (X : MQ Addr) : Prop:=∀ loc,CodeAt cx loc f as mem Q X
theorem CodeV.call {cx : Cx} {f : Value} {as : List AV} {mem : Mem} {Q : MQ AV} {X : MQ Addr} (h : CodeV cx f as mem Q X) : CallV cx f as mem Q X:=fun loc vs hvs s I=>wpAny_call (h loc vs s hvs I)
noncomputable def FnK (n : Nat) (a : Addr) (P : Spec) : Prop:=∀ cx args mem Q X,Rm n cx.A -> P args mem Q X -> CodeV cx (.ref a) args mem Q X
theorem FnK.fn {n : Nat} {a : Addr} {P : Spec} (h : FnK n a P) : FnC n a P:=fun cx args mem Q X rm hP=>(h cx args mem Q X rm hP).call
theorem bindL_of {kindOf : Str -> Option NameKind} {x : Str} {v : AV} (hk : kindOf x = some .local) : ∀ {binds : List (Str × Value)} {m : Str -> Option Value},(binds.map (·.1)).Nodup -> (binds.map fun p=>(p.1,er p.2)).lookup x = some v ->
  ∃ u,bindL kindOf binds m x = some u /\ er u = v
 | [],_,_,h=>by cases h
 | (y,w) :: r,m,hn,h=>by
  have hn':=List.nodup_cons.mp hn
  unfold bindL
  by_cases q : x = y
  ·subst q
   have h' : er w = v:=by
    rw [List.map_cons,List.lookup_cons,beq_self_eq_true] at h;exact Option.some.inj h
   rw [if_pos hk]
   have hr : ∀ (r : List (Str × Value)) (m : Str -> Option Value),x ∉ r.map (·.1) -> bindL kindOf r m x = m x:=by
    intro r
    induction r with
    | nil=>intro m _;rfl
    | cons p r ih =>
     intro m hx
     rw [List.map_cons,List.mem_cons,not_or] at hx
     unfold bindL
     rw [ih _ hx.2]
     split
     ·exact if_neg hx.1
     ·rfl
   rw [hr r _ hn'.1]
   exact (iX1b w (if_pos rfl) h')
  ·rw [List.map_cons,List.lookup_cons,beq_eq_false_iff_ne.mpr q] at h
   exact bindL_of hk hn'.2 h
theorem bindC_of {kindOf : Str -> Option NameKind} {x : Str} {v : AV} (hk : kindOf x ≠ some .local) : ∀ {binds : List (Str × Value)} {m : Str -> Option Value},(binds.map (·.1)).Nodup -> (binds.map fun p=>(p.1,er p.2)).lookup x = some v ->
  ∃ u,bindC kindOf binds m x = some u /\ er u = v
 | [],_,_,h=>by cases h
 | (y,w) :: r,m,hn,h=>by
  have hn':=List.nodup_cons.mp hn
  unfold bindC
  by_cases q : x = y
  ·subst q
   have h' : er w = v:=by
    rw [List.map_cons,List.lookup_cons,beq_self_eq_true] at h;exact Option.some.inj h
   rw [if_neg hk]
   have hr : ∀ (r : List (Str × Value)) (m : Str -> Option Value),x ∉ r.map (·.1) -> bindC kindOf r m x = m x:=by
    intro r
    induction r with
    | nil=>intro m _;rfl
    | cons p r ih =>
     intro m hx
     rw [List.map_cons,List.mem_cons,not_or] at hx
     unfold bindC
     rw [ih _ hx.2]
     split
     ·rfl
     ·exact if_neg hx.1
   rw [hr r _ hn'.1]
   exact (iX1b w (if_pos rfl) h')
  ·rw [List.map_cons,List.lookup_cons,beq_eq_false_iff_ne.mpr q] at h
   exact bindC_of hk hn'.2 h
theorem lookup_binds {x : Str} {v : AV} : ∀ {binds : List (Str × Value)},(binds.map fun p=>(p.1,er p.2)).lookup x = some v -> ∃ p ∈ binds,p.1 = x
 | [],h=>by cases h
 | (y,w) :: r,h=>by
  by_cases q : x = y
  ·exact (iX1b _ (.head _) q.symm)
  ·rw [List.map_cons,List.lookup_cons,beq_eq_false_iff_ne.mpr q] at h
   refine eX1b (lookup_binds h) fun p hp e=>?_
   exact (iX1b p (.tail _ hp) e)
noncomputable def calleeCx (cx : Cx) (h : Heap) (env : Env) : Cx:={ cx with A:=cx.A.deeper env,env:=env,l:=env :: cx.l,G:=frz cx h,wr:=true }
theorem calleeFroz (cx : Cx) {h : Heap} {env : Env} {L : Addr} (hf : env.frame = some L) (hL : h.get? L = none) : Froz cx (calleeCx cx h env) h:=by
 refine ⟨rfl,rfl,rfl,rfl,rfl,rfl,rfl,rfl,rfl,rfl,rfl,fun b hb=>?_,fun b hb=>?_⟩
 ·have : b ∈ frs (env :: cx.l):=hb
  rw [frs,List.filterMap_cons,hf] at this
  rcases List.mem_cons.mp this with rfl | this
  ·exact .inr hL
  ·exact .inl this
 ·show b ∈ frs (env :: cx.l)
  rw [frs,List.filterMap_cons,hf]
  exact List.mem_cons_of_mem _ hb
theorem InSt.enter {cx : Cx} {loc : Loc} {mem : Mem} {s s₁ : Shared} (I : InSt cx loc mem s) {scope : Scope} {qual : Str} {a : Addr} {cd : Value} {cells : List (Str × Addr)} {binds : List (Str × Value)} {m cm : Str -> Option Value}
  (x : InCallC s s.heap.objs.size m cells cm s₁) (hk : scope.kind = .function) (hd : cx.A.depth + 1 <= 900) (hu : cx.A.units + 3 <= 9000)
  (hm : ∀ y v,scope.names.lookup y = some .local -> (binds.map fun p=>(p.1,er p.2)).lookup y = some v -> ∃ u,m y = some u /\ er u = v)
  (hcm : ∀ y v,scope.names.lookup y = some .cell -> (binds.map fun p=>(p.1,er p.2)).lookup y = some v -> ∃ u,cm y = some u /\ er u = v)
  (hcell : ∀ y,scope.names.lookup y = some .cell -> ∃ c,cells.lookup y = some c) (hfree : ∀ y,scope.names.lookup y ≠ some .free)
  (hb : ∀ p ∈ binds,scope.names.lookup p.1 = some .local \/ scope.names.lookup p.1 = some .cell) :
  InSt (calleeCx cx s.heap (envX qual scope s.heap.objs.size a cd cells)) (binds.map fun p=>(p.1,er p.2)) mem s₁:=by
 have fr:=I.fresh
 have keep:=x.toInCall.keep
 have hLn : s.heap.get? s.heap.objs.size = none:=Heap.get?_none_of_le (Nat.le_refl _)
 have above : ∀ b,s.heap.objs.size <= b -> s.heap.get? b = none:=fun b hb=>Heap.get?_none_of_le hb
 have memNone : ∀ b,s.heap.objs.size <= b -> mem b = none:=fun b hb=>by
  cases q : mem b with
  | none=>rfl
  | some ao=>exact absurd (I.lt q) (Nat.not_lt.mpr hb)
 have cAbove : ∀ y c,cells.lookup y = some c -> s.heap.objs.size < c:=fun y c e=>x.above y c (mem_of_lookup e)
 refine ⟨⟨I.ok.X,I.ok.T,fun b o e=>?_,I.ok.sysm,fun b hb=>?_,fun q hq=>?_,hd,hu,I.ok.handled,?_,hk,?_,hcell,rfl,rfl,fun e he=>?_⟩,⟨fun b o e n=>?_,fun a ao e=>?_,?_⟩,fun b o e n=>?_,⟨(iX1b m x.toInCall.ns hm),I.frzSize hLn,fr.1,fun y c e=>?_,fun y z c e1 e2=>?_,fun y v e=>?_⟩,?_,?_,?_⟩
 ·show frz cx s.heap b = some o
  by_cases w : Own cx.env b
  ·rw [frz_own w];exact I.keep b o e
  ·rw [frz_not w];exact I.ok.base b o e
 ·have hb : b ∈ frs (envX qual scope s.heap.objs.size a cd cells :: cx.l):=hb
  rw [frs,List.filterMap_cons] at hb
  rcases List.mem_cons.mp hb with rfl | hb
  ·cases q : cx.hb.get? s.heap.objs.size with
   | none=>exact q
   | some o=>exact absurd (I.keep _ _ q) (by rw [hLn];nofun)
  ·exact I.ok.baseF b hb
 ·show frz cx s.heap q.P = none
  refine eX1b (I.st.tab q hq) fun ps hP _=>?_
  have w : ¬ Own cx.env q.P:=fun w=>by
   refine eX1b (I.ownGet w) fun ob hob hd=>?_
   rw [hP] at hob;cases hob
   rcases hd with ⟨_,_,hd⟩ | ⟨_,hd⟩ <;> cases hd
  rw [frz_not w];exact I.ok.baseT q hq
 ·show (cx.A.deeper _).frames = _
  exact Around.frames_deeper I.ok.frames
 ·show cx.hb.objs.size <= s.heap.objs.size
  refine eX1b (I.fm.ns) fun m0 hn0 _=>?_
  exact Nat.le_of_lt (Nat.lt_of_le_of_lt I.ok.above hn0.lt)
 ·rcases List.mem_cons.mp (show e ∈ envX qual scope s.heap.objs.size a cd cells :: cx.l from he) with rfl | he
  ·exact ⟨by rw [show (envX qual scope s.heap.objs.size a cd cells).scope.kind = .function from hk];decide,_,rfl,.inr rfl⟩
  ·obtain ⟨h1,L,h2,h3⟩:=I.ok.outer e he
   refine ⟨h1,L,h2,.inl ?_⟩
   show ∃ o es n,frz cx s.heap L = some o /\ _
   have hLf : L ∈ frs cx.l:=List.mem_filterMap.mpr (iX1b e he h2)
   by_cases w : Own cx.env L
   ·rw [frz_own w]
    rcases h3 with ⟨o,es,n,h4,h5⟩ | h3
    ·refine eX1a (I.fr L o h4 hLf) fun sl h6=>?_
     exact (iX3b _ es n h6 h5)
    ·refine eX1b (I.fm.ns) fun m0 zz84 _=>?_;refine eX3c zz84 fun o es n h6 h7 _=>?_
     exact (iX3b o es n (h3 ▸ h6) h7)
   ·rw [frz_not w]
    rcases h3 with h3 | h3
    ·exact h3
    ·exact absurd (.inl h3) w
 ·have n' : b ∉ frs cx.l:=fun q=>n (by show b ∈ frs (_ :: cx.l);rw [frs,List.filterMap_cons];exact List.mem_cons_of_mem _ q)
  exact keep b o ((I.frzGet e).1 n')
 ·obtain ⟨h1,o,h2,h3⟩:=I.st.tr a ao e
  refine ⟨?_,o,keep _ _ h2,h3⟩
  have w : ¬ Own cx.env a:=fun w=>by rw [I.ownM w] at e;cases e
  show frz cx s.heap a = none
  rw [frz_not w];exact h1
 ·exact I.st.tab.keep fun b o vs e _ _=>keep b o e
 ·have n : b ∈ frs (envX qual scope s.heap.objs.size a cd cells :: cx.l):=n
  rw [frs,List.filterMap_cons] at n
  rcases List.mem_cons.mp n with rfl | n
  ·have : frz cx s.heap s.heap.objs.size = some o:=e
   rw [I.frzSize hLn] at this;cases this
  ·refine eX1a ((I.frzGet e).2 n) fun sl h1=>?_
   exact (iX1a sl (keep _ _ h1))
 ·have ca:=cAbove y c e
  refine (iX0e (memNone c (Nat.le_of_lt ca)) (Nat.ne_of_gt ca) (iX1a _ (x.cell y c e)) (fun k v hv=>?_) (fun _ _=>I.frzSize (above c (Nat.le_of_lt ca))))
  rcases k with k | k
  ·refine eX1b (hcm y v k hv) fun u h1 h2=>?_
   exact (iX1b u (h1 ▸ x.cell y c e) h2)
  ·exact absurd k (hfree y)
 ·exact name_of_addr x.apart (mem_of_lookup e1) (mem_of_lookup e2)
 ·refine eX1b (lookup_binds e) fun p hp ee85=>?_;subst ee85
  rcases hb p hp with k | k
  ·exact .inl k
  ·exact .inr (iX0b (.inl k) (hcell _ k))
 ·refine eX2a (x.toInCall.same) fun h' tk e=>?_;rw [e];exact I.gens
 ·refine eX2a (x.toInCall.same) fun h' tk e=>?_;rw [e];exact I.drawn
 ·refine eX2a (x.toInCall.same) fun h' tk e=>?_;rw [e];exact I.os
noncomputable def scopeOk (sc : Scope) (ps : List Str) : Bool :=
 decide (sc.kind = .function) && !sc.isCoroutine && !sc.isGenerator && decide ps.Nodup && ps.all (fun x=>sc.names.lookup x == some .local || sc.names.lookup x == some .cell) &&
 sc.names.all (fun p=>p.2 != .free) && decide (((cellsFrom 0 sc.names []).map (·.1)).Nodup)
theorem map_zip_fst {α β : Type} : ∀ (l : List α) (m : List β),l.length = m.length -> (l.zip m).map (·.1) = l
 | [],[],_=>rfl
 | a :: l,b :: m,h=>by simp only [List.zip_cons_cons,List.map_cons];rw [map_zip_fst l m (by simpa using h)]
 | [],_ :: _,h=>by simp at h
 | _ :: _,[],h=>by simp at h
theorem map_zip_er : ∀ (l : List Str) (m : List Value),(l.zip m).map (fun p=>(p.1,er p.2)) = l.zip (m.map er)
 | [],_=>rfl
 | _ :: _,[]=>rfl
 | a :: l,b :: m=>by simp only [List.zip_cons_cons,List.map_cons];rw [map_zip_er l m]
theorem lookup_mem {α : Type} {l : List (Str × α)} {n : Str} {c : α} (h : l.lookup n = some c) : (n,c) ∈ l:=mem_of_lookup h
theorem FnH.mk {n : Nat} {f : Addr} {H : Cx -> Loc -> Prop} {H2 : Cx -> Prop} {P : Spec} {name qual : Str} {params : Arguments} {body : List Stmt} {scope : Scope} {dV kV doc pm cdv ct oc : Value} {an od : Option Addr} {osl : Array (Option Value)} (ps : List Str)
  (ho : ∀ P,(KF P).lookup f = some ⟨oc,od,.func (fnOf name qual params body scope dV kV doc pm an cdv ct),osl⟩) (hcd : ∀ P,codeIn (KF P) cdv qual = true)
  (hsc : scopeOk scope ps = true) (hlen : ∀ args mem Q X,P args mem Q X -> args.length = ps.length)
  (hbind : ∀ (w : World) (s : Shared) (vs : List Value),(KF w.params).In s.heap -> vs.length = ps.length -> BindsTo s (fnOf name qual params body scope dV kV doc pm an cdv ct) ⟨vs,[]⟩ (ps.zip vs))
  (hH : ∀ cx loc mem s,InSt cx loc mem s -> H cx loc -> H2 (calleeCx cx s.heap (envX qual scope s.heap.objs.size f cdv (cellsFrom (s.heap.objs.size + 1) scope.names [])))) (h : ∀ cx args mem Q X,H2 cx -> cx.env.scope = scope -> cx.env.code = cdv -> cx.env.qual = qual ++ ".<locals>." -> cx.wr = true -> Rm n cx.A -> P args mem Q X -> SV cx body (ps.zip args) mem (fun _ m=>Q .none m) Q X) : FnH (n + 1) f H P:=by
 intro cx loc args mem Q X hHc rm hP vs s hvs I
 simp only [scopeOk,Bool.and_eq_true,Bool.not_eq_true',decide_eq_true_eq,List.all_eq_true,Bool.or_eq_true,beq_iff_eq,bne_iff_ne,ne_eq] at hsc
 refine eX0b hsc fun zz86 k7=>?_;refine eX0b zz86 fun zz87 k6=>?_;refine eX0b zz87 fun zz88 k5=>?_;refine eX0b zz88 fun zz89 k4=>?_;refine eX0b zz89 fun zz90 k3=>?_;refine eX0b zz90 fun k1 k2=>?_
 have hl:=hlen _ _ _ _ hP
 have hvl : vs.length = ps.length:=by rw [<- hl,<- hvs,List.length_map]
 refine codeAny_call_function (by have:=rm.depth;show _ < 1000;lia) (I.X _ _ (ho _)) rfl k2 k3 rfl (codeRec_of I.X (hcd _)) (hbind cx.w s vs I.X hvl _ _ _ _ ?_)
 have hbk : ∀ p ∈ ps.zip vs,scope.names.lookup p.1 = some .local \/ scope.names.lookup p.1 = some .cell:=fun p hp=>k5 p.1 (by
  have : p.1 ∈ (ps.zip vs).map (·.1):=List.mem_map_of_mem hp
  rwa [map_zip_fst ps vs hvl.symm] at this)
 have hcells : ∀ k y,scope.names.lookup y = some .cell -> ∃ c,(cellsFrom k scope.names []).lookup y = some c:=fun k y hy=>Option.isSome_iff_exists.mp (cellsFrom_some _ _ _ (.inl hy))
 refine wpAny_newFunctionEnv_cells k1 (fun p hp=>(hbk p hp).imp id fun q=>(iX0b q (Option.isSome_iff_exists.mpr (hcells _ _ q)))) fun env' he s' x=>?_
 subst he
 refine (iX0b ((I.T.nolimit).keeps x.toInCall.keep) (codeAny_func ?_))
 have hnd : ((ps.zip vs).map (·.1)).Nodup:=by rw [map_zip_fst ps vs hvl.symm];exact k4
 have I':=I.enter (scope:=scope) (qual:=qual) (a:=f) (cd:=cdv) (binds:=ps.zip vs) x k1 (by have:=rm.depth;lia) (by have:=rm.units;lia)
  (fun y v hy hv=>bindL_of hy hnd hv) (fun y v hy hv=>bindC_of (show scope.names.lookup y ≠ some .local by rw [hy];decide) hnd hv) (hcells _) (fun y hy=>k6 _ (lookup_mem hy) rfl) hbk
 rw [map_zip_er,hvs] at I'
 have Z:=calleeFroz cx (h:=s.heap) (env:=envX qual scope s.heap.objs.size f cdv (cellsFrom (s.heap.objs.size + 1) scope.names [])) rfl (Heap.get?_none_of_le (Nat.le_refl _))
 have hh:=h (calleeCx cx s.heap (envX qual scope s.heap.objs.size f cdv (cellsFrom (s.heap.objs.size + 1) scope.names []))) args mem Q X (hH _ _ _ _ I hHc) rfl rfl rfl rfl
  ⟨by show cx.A.depth + 1 + 20 * n <= 900;have:=rm.depth;lia,by show cx.A.units + 3 + 200 * n <= 9000;have:=rm.units;lia,rm.handled⟩ hP s' I'
 refine wpAny_mono hh (fun fl s₂ p=>?_) fun e s₂ zq32=>eX2b zq32 fun C m' xx q=>?_
 ·cases fl with
  | next=>refine eX2b p fun l' m' I2 q=>?_;exact (iX1b m' (Z.thaw I I2) q)
  | ret v=>refine eX2b p fun l' m' I2 q=>?_;exact (iX1b m' (Z.thaw I I2) q)
  | _=>exact p.elim
 ·exact wpAny_mono (leaveX Z I rfl rfl xx) (fun _ s₃ y=>(iX2b C m' y q)) fun _ _ y=>y
structure FnHG (n : Nat) (H2 : Cx -> Prop) (d : Stmt) (cdv : Value) (qual : Str) (ps : List Str) (args : List AV) (mem : Mem) (Q : MQ AV) (X : MQ Addr) : Prop where
 len : args.length = ps.length
 go : ∀ cx,H2 cx -> cx.env.scope = dScope d -> cx.env.code = cdv -> cx.env.qual = qual ++ ".<locals>." -> cx.wr = true -> Rm n cx.A -> SV cx (dBody d) (ps.zip args) mem (fun _ m=>Q .none m) Q X
structure FnG (n : Nat) (d : Stmt) (ps : List Str) (args : List AV) (mem : Mem) (Q : MQ AV) (X : MQ Addr) : Prop where
 len : args.length = ps.length
 go : ∀ cx,cx.env.scope = dScope d -> cx.wr = true -> Rm n cx.A -> SV cx (dBody d) (ps.zip args) mem (fun _ m=>Q .none m) Q X
section
variable {n : Nat} {f : Addr} {H : Cx -> Loc -> Prop} {H2 : Cx -> Prop} {P : Spec} {name qual : Str} {d : Stmt} {dV kV doc pm cdv ct oc : Value} {an od : Option Addr} {osl : Array (Option Value)} (ps : List Str)
  (ho : ∀ P,(KF P).lookup f = some ⟨oc,od,.func (fnOf name qual (dArgs d) (dBody d) (dScope d) dV kV doc pm an cdv ct),osl⟩) (hcd : ∀ P,codeIn (KF P) cdv qual = true) (hsc : scopeOk (dScope d) ps = true)
  (hbind : ∀ (w : World) (s : Shared) (g : Nat -> Value),(KF w.params).In s.heap -> BindsTo s (fnOf name qual (dArgs d) (dBody d) (dScope d) dV kV doc pm an cdv ct) ⟨(List.range ps.length).map g,[]⟩ (ps.zip ((List.range ps.length).map g)))
include ho hcd hsc hbind
theorem FnH.go (hH : ∀ cx loc mem s,InSt cx loc mem s -> H cx loc -> H2 (calleeCx cx s.heap (envX qual (dScope d) s.heap.objs.size f cdv (cellsFrom (s.heap.objs.size + 1) (dScope d).names []))))
  (h : ∀ args mem Q X,P args mem Q X -> FnHG n H2 d cdv qual ps args mem Q X) : FnH (n + 1) f H P :=
 FnH.mk ps ho hcd hsc (fun _ _ _ _ p=>(h _ _ _ _ p).len) (fun w s vs hX hl=>by refine eX1a (lnF hl) fun g ee91=>?_;subst ee91;exact hbind w s g hX) hH fun cx _ _ _ _ h0 h1 h2 h3 h4 h5 p=>(h _ _ _ _ p).go cx h0 h1 h2 h3 h4 h5
theorem FnK.go (h : ∀ args mem Q X,P args mem Q X -> FnG n d ps args mem Q X) : FnK (n + 1) f P:=fun cx args mem Q X rm hP loc =>
 (FnH.go (H:=fun _ _=>True) (H2:=fun _=>True) ps ho hcd hsc hbind (fun _ _ _ _ _ x=>x) fun args mem Q X p=>⟨(h _ _ _ _ p).len,fun cx _ h1 _ _ h4 h5=>(h _ _ _ _ p).go cx h1 h4 h5⟩) cx loc args mem Q X trivial rm hP
theorem FnC.go (h : ∀ args mem Q X,P args mem Q X -> FnG n d ps args mem Q X) : FnC (n + 1) f P:=(FnK.go ps ho hcd hsc hbind h).fn
end
set_option genInjectivity false
set_option genSizeOf false
structure DK (w : World) (K : Type) [DecidableEq K] where
 knd : KeyKind pw w K
 ao : Option Nat -> List (K × AV) -> AO
 av : K -> AV
 rep1 : ∀ o ep es,Rep w o (ao ep es) -> ∃ kvs,o.IsDictOf knd kvs /\ kvs.map (fun p=>(p.1,er p.2)) = es
 rep2 : ∀ o kvs,o.IsDictOf knd kvs -> Rep w o (ao none (kvs.map fun p=>(p.1,er p.2)))
 key : ∀ v k,er v = av k -> knd.is k v = true
 part : ∀ v k,er v = av k -> (keyPart v).isSome = true
theorem exact_dict {o : Obj} {es : Array DictEntry} {n : Nat} (h : o.ExactDict) (hd : o.data = .dict es n) : o = dictOf es.toList n:=by
 obtain ⟨c,d,dt,sl⟩:=o
 refine eX0c h fun h1 h2 h3=>?_
 simp only at h1 h2 h3 hd
 subst h1 h2 h3 hd
 rfl
theorem rep_kvs {w : World} {K : Type} [DecidableEq K] {knd : KeyKind pw w K} {R : DictEntry -> K × AV -> Prop} (hR : ∀ e k a,R e (k,a) ↔ knd.is k e.key = true /\ e.hash = knd.hash k /\ er e.val = a) (o : Obj) (es : List (K × AV)) :
  (∃ ents n,o = dictOf ents n /\ All2 R ents es /\ (es.map (·.1)).Nodup) ↔ ∃ kvs,o.IsDictOf knd kvs /\ kvs.map (fun p=>(p.1,er p.2)) = es:=by
 constructor
 ·intro zz92;refine eX2c zz92 ?_;clear zz92;intro ents n ee93 ra rn;subst ee93
  have main : ∀ {ents : List DictEntry} {es : List (K × AV)},All2 R ents es -> ∃ kvs,Pairs knd ents kvs /\ kvs.map (fun p=>(p.1,er p.2)) = es /\ ∀ e ∈ ents,∃ k,knd.is k e.key = true /\ e.hash = knd.hash k:=by
   intro ents es h
   induction h with
   | nil=>exact (iX1c ([]) .nil rfl (fun e he=>nomatch he))
   | @cons e kv l m h1 _ ih =>
    refine eX1c ih ?_;clear ih;intro kvs i1 i2 i3
    obtain ⟨k,a⟩:=kv
    refine eX0c ((hR e k a).mp h1) fun h2 h3 h4=>?_
    refine (iX1c ((k,e.val) :: kvs) (.cons h2 rfl i1) (by rw [List.map_cons,i2,h4]) (fun e' he=>?_))
    rcases List.mem_cons.mp he with rfl | he
    ·exact (iX1b k h2 h3)
    ·exact i3 e' he
  refine eX1c (main ra) fun kvs i1 i2 i3=>?_
  refine (iX1b kvs (iX2e ents.toArray n (iX0c rfl rfl rfl) rfl (fun e he=>i3 e (by simpa using he)) (by simpa using i1) ?_) i2)
  rw [<- i2,List.map_map] at rn
  exact rn
 ·intro zz94;refine eX1b zz94 ?_;clear zz94;intro kvs zz95 ee96;refine eX2e zz95 ?_;clear zz95;intro es' n hx hd hk hp hn;subst ee96
  refine (iX2c es'.toList n (exact_dict hx hd) ?_ (by rw [List.map_map];exact hn))
  have main : ∀ {ents : List DictEntry} {kvs : List (K × Value)},Pairs knd ents kvs -> (∀ e ∈ ents,∃ k,knd.is k e.key = true /\ e.hash = knd.hash k) -> All2 R ents (kvs.map fun p=>(p.1,er p.2)):=by
   intro ents kvs h
   induction h with
   | nil=>exact fun _=>.nil
   | @cons e kv l m h1 h2 _ ih =>
    intro hh
    refine eX1b (hh e (.head _)) fun k' k1 k2=>?_
    have : k' = kv.1:=knd.inj _ _ _ k1 h1
    subst this
    exact .cons ((hR _ _ _).mpr (iX0c h1 k2 (by rw [h2]))) (ih fun e' he=>hh e' (.tail _ he))
  exact main hp fun e he=>hk e (Array.mem_toList_iff.mp he)
theorem entI_iff {w : World} (e : DictEntry) (k : Int) (a : AV) : EntI e (k,a) ↔ (intKind pw w).is k e.key = true /\ e.hash = (intKind pw w).hash k /\ er e.val = a:=by
 constructor
 ·rintro ⟨⟨t,h1⟩,h2,h3⟩;exact (iX0c (by rw [h1];exact intKind_is _ _ _ _) h2 h3)
 ·rintro ⟨h1,h2,h3⟩;exact (iX0c (Value.isInt_shape h1) h2 h3)
theorem entS_iff {w : World} (e : DictEntry) (k : Str) (a : AV) : EntS w e (k,a) ↔ (strKind pw w).is k e.key = true /\ e.hash = (strKind pw w).hash k /\ er e.val = a:=by
 constructor
 ·rintro ⟨⟨t,h1⟩,h2,h3⟩;exact (iX0c (by rw [h1];exact strKind_is _ _ _ _) h2 h3)
 ·rintro ⟨h1,h2,h3⟩;exact (iX0c (Value.isStrOf_shape h1) h2 h3)
noncomputable def dkI (b : Bool) (w : World) : DK w Int where
 knd:=intKind pw w
 ao:=.dictI b
 av:=.int
 rep1:=fun o _ es zq33=>eX2d zq33 fun ents n h1 h2 h3 _=>(rep_kvs entI_iff o es).mp (iX2c ents n h1 h2 h3)
 rep2:=fun o kvs h=>let ⟨ents,n,h1,h2,h3⟩:=(rep_kvs entI_iff o _).mpr (iX1b kvs h rfl);(iX2d ents n h1 h2 h3 (fun _ q=>by cases q))
 key:=fun v k h=>by refine eX1a (er_int h) fun t ee97=>?_;subst ee97;exact intKind_is _ _ _ _
 part:=fun v k h=>by refine eX1a (er_int h) fun t ee98=>?_;subst ee98;rfl
noncomputable def dkS (b : Bool) (w : World) : DK w Str where
 knd:=strKind pw w
 ao:=fun _=>.dictS b
 av:=.str
 rep1:=fun o _ es h=>(rep_kvs entS_iff o es).mp h
 rep2:=fun o kvs h=>(rep_kvs entS_iff o _).mpr (iX1b kvs h rfl)
 key:=fun v k h=>by refine eX1a (er_str h) fun t ee99=>?_;subst ee99;exact strKind_is _ _ _ _
 part:=fun v k h=>by refine eX1a (er_str h) fun t ee100=>?_;subst ee100;rfl
section
variable {K : Type} [DecidableEq K] {cx : Cx} {loc : Loc} {mem : Mem} {s : Shared} {d : Addr} {k : K} {es : List (K × AV)}
theorem InSt.notSys {ao : AO} (I : InSt cx loc mem s) (e : mem d = some ao) : (d == sysModules) = false:=by
 refine beq_eq_false_iff_ne.mpr fun q=>?_
 refine eX0b (I.st.tr d ao e) fun hG _=>?_
 refine eX1a (Option.isSome_iff_exists.mp I.ok.sysm) fun o ho=>?_
 rw [q,I.ok.base _ _ ho] at hG;cases hG
theorem InSt.dict (D : DK cx.w K) (I : InSt cx loc mem s) {ep : Option Nat} (e : mem d = some (D.ao ep es)) : ∃ kvs,s.heap.DictOf D.knd d kvs /\ kvs.map (fun p=>(p.1,er p.2)) = es:=by
 refine eX1b (I.get e) fun o ho r=>?_
 refine eX1b (D.rep1 o ep es r) fun kvs h1 h2=>?_
 exact (iX1b kvs (Heap.dictOf_iff.mpr (iX1b o ho h1)) h2)
theorem InSt.dictUpd (D : DK cx.w K) (I : InSt cx loc mem s) {ao : AO} (e : mem d = some ao) {h' : Heap} {kvs : List (K × Value)} {t : Nat} (x : Heap.ExtBut d s.heap h') (r : h'.DictOf D.knd d kvs) :
  InSt cx loc (mset mem d (D.ao none (kvs.map fun p=>(p.1,er p.2)))) { s with heap:=h',toks:=t }:=by
 refine eX1b (Heap.dictOf_iff.mp r) fun o ho h1=>?_
 exact I.upd e x ho (D.rep2 _ _ h1)
theorem valueAt_cons (k k' : K) (v : Value) (r : List (K × Value)) : valueAt ((k',v) :: r) k = if k' = k then some v else valueAt r k:=by
 unfold valueAt
 rw [List.find?_cons]
 by_cases q : k' = k
 ·simp [q]
 ·rw [show decide (k' = k) = false from decide_eq_false q,if_neg q]
theorem valueAt_lookup : ∀ (kvs : List (K × Value)) (k : K),(valueAt kvs k).map er = (kvs.map fun p=>(p.1,er p.2)).lookup k
 | [],_=>rfl
 | (k',v) :: r,k=>by
  rw [valueAt_cons,List.map_cons,List.lookup_cons]
  by_cases q : k' = k
  ·subst q;simp
  ·rw [if_neg q,beq_eq_false_iff_ne.mpr (Ne.symm q)]
   exact valueAt_lookup r k
theorem stored_map (k : K) (v : Value) : ∀ (kvs : List (K × Value)),(kvs.map (·.1)).Nodup -> (stored kvs k v).map (fun p=>(p.1,er p.2)) = sput (kvs.map fun p=>(p.1,er p.2)) k (er v)
 | [],_=>rfl
 | (k',u) :: r,h=>by
  rw [List.map_cons,List.nodup_cons] at h
  have ih:=stored_map k v r h.2
  unfold stored at ih ⊢
  rw [List.any_cons,List.map_cons (l:=r)]
  by_cases q : k' = k
  ·subst q
   simp only [decide_true,Bool.true_or,if_true,List.map_cons]
   rw [map_store_of_not_mem r k' v h.1]
   show _ = if k' = k' then _ else _
   rw [if_pos rfl]
  ·rw [show decide (k' = k) = false from decide_eq_false q,Bool.false_or]
   show _ = if k' = k then _ else _
   rw [if_neg q,<- ih]
   split
   ·simp only [List.map_cons,if_neg q]
   ·rfl
theorem without_map (k : K) : ∀ (kvs : List (K × Value)),(without kvs k).map (fun p=>(p.1,er p.2)) = (kvs.map fun p=>(p.1,er p.2)).filter fun p=>decide (p.1 ≠ k)
 | []=>rfl
 | (k',u) :: r=>by
  have ih:=without_map k r
  unfold without at ih ⊢
  rw [List.filter_cons,List.map_cons,List.filter_cons]
  by_cases q : k' ≠ k
  ·rw [if_pos (decide_eq_true q),if_pos (decide_eq_true q),List.map_cons,ih]
  ·rw [if_neg (by simpa using q),if_neg (by simpa using q),ih]
end
section
variable {K : Type} [DecidableEq K] (D : ∀ w,DK w K) {cx : Cx} {X : MQ Addr} {loc : Loc} {mem : Mem} {Q : MQ AV} {d : Addr} {k : K} {es : List (K × AV)}
theorem Op2.inD {ep : Option Nat} (e : mem d = some ((D cx.w).ao ep es)) (h : Q (.bool (es.lookup k).isSome) mem) : Op2 cx (compareOp .In) ((D cx.w).av k) (.ref d) mem Q X:=fun loc v1 v2 h1 h2 s I=>by
 cases er_ref h2
 refine eX1b (I.dict (D cx.w) e) fun kvs hd ee101=>?_;subst ee101
 refine wpAny_in_of ((D cx.w).key _ _ h1) (I.notSys e) hd.mapOf (iX1b mem I.toks ?_)
 rw [<- valueAt_lookup,Option.isSome_map] at h
 exact h
theorem Op2.notInD {ep : Option Nat} (e : mem d = some ((D cx.w).ao ep es)) (h : Q (.bool (!(es.lookup k).isSome)) mem) : Op2 cx (compareOp .NotIn) ((D cx.w).av k) (.ref d) mem Q X:=fun loc v1 v2 h1 h2 s I=>by
 cases er_ref h2
 refine eX1b (I.dict (D cx.w) e) fun kvs hd ee102=>?_;subst ee102
 refine wpAny_notIn_of ((D cx.w).key _ _ h1) (I.notSys e) hd.mapOf (iX1b mem I.toks ?_)
 rw [<- valueAt_lookup,Option.isSome_map] at h
 exact h
noncomputable def SubV (cx : Cx) (ov iv : AV) (mem : Mem) (Q : MQ AV) (X : MQ Addr) : Prop:=∀ loc o i s,er o = ov -> er i = iv -> InSt cx loc mem s -> SubscriptOn (model pw cx.w) cx.A o i (TPost cx loc (EvQ Q)) (EPost cx X) s
noncomputable abbrev KSub2 (cx : Cx) (X : MQ Addr) (ov : AV) (Q : MQ AV) : MQ AV:=fun iv m=>SubV cx ov iv m Q X
noncomputable abbrev KSub (cx : Cx) (X : MQ Addr) (loc : Loc) (slice : Expr) (Q : MQ AV) : MQ AV:=fun ov m=>EV cx slice loc m (KSub2 cx X ov Q) X
theorem EV.sub {value slice : Expr} {pos : Pos} (h : EV cx value loc mem (KSub cx X loc slice Q) X)
  (hs : ∀ o i,subscripted slice false o i = operate [o,i] (getItem o i):=by intro _ _;rfl) : EV cx (.Subscript value slice pos) loc mem Q X:=fun s I=>by
 rw [eval_Subscript]
 refine wpAny_bind (TV.go h I fun o s₁ m1 I1 h₁=>wpAny_bind (wpAny_holding (TV.go h₁ I1 fun i s₂ m2 I2 h₂=>wpAny_bind (wpAny_standAt ?_))))
 refine eX2c (h₂ loc o i s₂ rfl rfl I2) fun T id hl hT hg=>?_
 refine wpAny_bind ?_
 rw [getitemInPython_of_ne hT.not_modules]
 refine wpAny_bind (wpAny_specialOf hT hl ?_)
 refine wpAny_pure (wpAny_bind ?_)
 rw [hs]
 exact wpAny_operating (wpAny_mono hg (fun r s₃ h₃=>wpAny_bind (wpAny_letTemporaryGo (wpAny_pure h₃))) fun _ _ x=>x)
theorem EV.subS {value slice : Expr} {pos : Pos} {ov iv : AV} (h1 : evS loc value = some ov) (h2 : evS loc slice = some iv) (h : SubV cx ov iv mem Q X)
  (hs : ∀ o i,subscripted slice false o i = operate [o,i] (getItem o i):=by intro _ _;rfl) : EV cx (.Subscript value slice pos) loc mem Q X:=EV.sub (EV.s h1 (EV.s h2 h)) hs
theorem SubV.dict {av : AV} {ep : Option Nat} (e : mem d = some ((D cx.w).ao ep es)) (hl : es.lookup k = some av) (h : Q av mem) : SubV cx (.ref d) ((D cx.w).av k) mem Q X:=fun loc o i s h1 h2 I=>by
 cases er_ref h1
 refine eX1b (I.dict (D cx.w) e) fun kvs hd ee103=>?_;subst ee103
 rw [<- valueAt_lookup] at hl
 refine eX1b (Option.map_eq_some_iff.mp hl) fun v hv ee104=>?_;subst ee104
 exact (iX2c ("dict") _ slot_dict_getitem.lookup hd.typeIs (wpAny_getItem_of ((D cx.w).key _ _ h2) hd.mapOf hv (iX1b mem I.toks h)))
noncomputable def SetV (cx : Cx) (ov iv av : AV) (mem : Mem) (Q : Mem -> Prop) (X : MQ Addr) : Prop:=∀ loc o i v,er o = ov -> er i = iv -> er v = av -> TV cx (setItem o i v) loc mem (fun _ m=>Q m) X
noncomputable abbrev KSet3 (cx : Cx) (X : MQ Addr) (loc : Loc) (a : AV) (ov : AV) (Qn : LQ) : MQ AV:=fun iv m=>SetV cx ov iv a m (KMem loc Qn) X
noncomputable abbrev KSet2 (cx : Cx) (X : MQ Addr) (loc : Loc) (a : AV) (i : Expr) (Qn : LQ) : MQ AV:=fun ov m=>EV cx i loc m (KSet3 cx X loc a ov Qn) X
noncomputable abbrev KSet (cx : Cx) (X : MQ Addr) (loc : Loc) (o : Expr) (i : Expr) (Qn : LQ) : MQ AV:=fun a m=>EV cx o loc m (KSet2 cx X loc a i Qn) X
theorem S1.setSub {o i e : Expr} {p pos : Pos} {sc : Scope} {Qn : LQ} {Qr : MQ AV} (hs : cx.env.scope = sc) (h : EV cx e loc mem (KSet cx X loc o i Qn) X)
  (hw : swapsWith e (some (.Subscript o i p)) pos.line (scEnv sc) = pure false:=by rfl) : S1 cx (.Assign [.Subscript o i p] e pos) loc mem Qn Qr X:=fun s I =>
 wpAny_Assign_Subscript (TV.go h I fun v s' m I1 h1=>wpAny_mono (h1 s' I1) (fun ov s2 zq37=>eX1b zq37 fun m2 I2 h2=>wpAny_mono (h2 s2 I2) (fun iv s3 zq38=>eX1b zq38 fun m3 I3 h3 =>
  wpAny_mono (h3 loc ov iv v rfl rfl rfl s3 I3) (fun _ s4 zq39=>eX1b zq39 fun m4 I4 h4=>(iX2b loc m4 I4 h4)) fun _ _ x=>x) fun _ _ x=>x) fun _ _ x=>x) (by subst hs;exact hw)
theorem SetV.dict {av : AV} {Q : Mem -> Prop} {ep : Option Nat} (e : mem d = some ((D cx.w).ao ep es)) (hlen : es.length <= 1000000) (h : Q (mset mem d ((D cx.w).ao none (sput es k av)))) : SetV cx (.ref d) ((D cx.w).av k) av mem Q X:=fun loc o i v h1 h2 h3 s I=>by
 cases er_ref h1
 subst h3
 refine eX1b (I.dict (D cx.w) e) fun kvs hd ee105=>?_;subst ee105
 have hn : (kvs.map (·.1)).Nodup:=by refine eX3f hd fun _ _ _ _ _ _ _ _ hn=>?_;exact hn
 refine wpAny_setItem_pairs ((D cx.w).key _ _ h2) hd (fun h' hd' hs'=>(iX1b _ (I.dictUpd (D cx.w) e hs'.extBut hd') ?_)) (by rw [List.length_map] at hlen;rw [sizeLine_eq];lia)
 rw [stored_map _ _ _ hn];exact h
noncomputable def DelV (cx : Cx) (ov iv : AV) (mem : Mem) (Q : Mem -> Prop) (X : MQ Addr) : Prop:=∀ loc o i,er o = ov -> er i = iv -> TV cx (delItem o i) loc mem (fun _ m=>Q m) X
noncomputable abbrev KDel2 (cx : Cx) (X : MQ Addr) (loc : Loc) (ov : AV) (Qn : LQ) : MQ AV:=fun iv m=>DelV cx ov iv m (KMem loc Qn) X
noncomputable abbrev KDel (cx : Cx) (X : MQ Addr) (loc : Loc) (i : Expr) (Qn : LQ) : MQ AV:=fun ov m=>EV cx i loc m (KDel2 cx X loc ov Qn) X
theorem S1.delSub {o i : Expr} {p pos : Pos} {Qn : LQ} {Qr : MQ AV} (h : EV cx o loc mem (KDel cx X loc i Qn) X) : S1 cx (.Delete [.Subscript o i p] pos) loc mem Qn Qr X:=fun s I =>
 wpAny_Delete (wpAny_deleteEach_cons (wpAny_delete_Subscript (TV.go h I fun ov s2 m2 I2 h2=>wpAny_mono (h2 s2 I2) (fun iv s3 zq41=>eX1b zq41 fun m3 I3 h3 =>
  wpAny_mono (h3 loc ov iv rfl rfl s3 I3) (fun _ s4 zq42=>eX1b zq42 fun m4 I4 h4=>wpAny_deleteEach_nil (iX2b loc m4 I4 h4)) fun _ _ x=>x) fun _ _ x=>x)))
theorem DelV.dict {Q : Mem -> Prop} {ep : Option Nat} (e : mem d = some ((D cx.w).ao ep es)) (hl : (es.lookup k).isSome = true) (hlen : es.length <= 1000000) (h : Q (mset mem d ((D cx.w).ao none (es.filter fun p=>decide (p.1 ≠ k))))) : DelV cx (.ref d) ((D cx.w).av k) mem Q X:=fun loc o i h1 h2 s I=>by
 cases er_ref h1
 refine eX1b (I.dict (D cx.w) e) fun kvs hd ee106=>?_;subst ee106
 rw [<- valueAt_lookup,Option.isSome_map] at hl
 refine wpAny_delItem_slot hd.typeIs (by decide) F.slot_dict_delitem (call_meetsIn F.slot_dict_delitem hd.typeIs F.entry_dict_delitem (F.args_dict_delitem_2 _ _) (meets_dict_delitem_pairs (D cx.w).knd d ((D cx.w).key _ _ h2))
  (iX1d kvs hd (by rw [List.length_map] at hlen;rw [sizeLine_eq];lia) hl (fun h' hd' hs'=>(iX1b _ (I.dictUpd (D cx.w) e hs'.extBut hd') ?_))))
 rw [without_map];exact h
theorem MethV.blt {name : Str} {ov : AV} {T id : String} {k : Value -> AV -> Mem -> Prop} (pa : PlainAttrs T) (slot : Slot T name id) (hty : typeOf (.builtin id) = pure (.type "method_descriptor"))
  (hT : ∀ loc v s,er v = ov -> InSt cx loc mem s -> s.TypeIs v T /\ ∀ a,v = .ref a -> ∃ ob,s.heap.get? a = some ob /\ ob.dict = none) (h : k (.builtin id) ov mem) : MethV cx name ov mem k X:=fun loc v pl hv s I=>by
 refine eX0b (hT loc v s hv I) fun h1 h2=>?_
 exact getMethod_builtin h1 pa slot hty h2 (iX1d mem I rfl (fun a q=>by cases q) h)
theorem dictType {s : Shared} {v : Value} (I : InSt cx loc mem s) {ep : Option Nat} (e : mem d = some ((D cx.w).ao ep es)) (hv : er v = .ref d) : s.TypeIs v "dict" /\ ∀ a,v = .ref a -> ∃ ob,s.heap.get? a = some ob /\ ob.dict = none:=by
 cases er_ref hv
 refine eX1b (I.dict (D cx.w) e) fun kvs hd _=>?_
 exact (iX0b hd.typeIs hd.mapOf.noDict)
theorem MethV.dictGet {k : Value -> AV -> Mem -> Prop} {ep : Option Nat} (e : mem d = some ((D cx.w).ao ep es)) (h : k (.builtin "dict.get") (.ref d) mem) : MethV cx "get" (.ref d) mem k X :=
 .blt F.plainAttrs_dict F.slot_dict_get F.type_dict_get (fun _ _ _ hv I=>dictType D I e hv) h
theorem MethV.dictPop {k : Value -> AV -> Mem -> Prop} {ep : Option Nat} (e : mem d = some ((D cx.w).ao ep es)) (h : k (.builtin "dict.pop") (.ref d) mem) : MethV cx "pop" (.ref d) mem k X :=
 .blt F.plainAttrs_dict F.slot_dict_pop F.type_dict_pop (fun _ _ _ hv I=>dictType D I e hv) h
theorem CallV.dictGet {ep : Option Nat} (e : mem d = some ((D cx.w).ao ep es)) (h : Q ((es.lookup k).getD .none) mem) : CallV cx (.builtin "dict.get") [.ref d,(D cx.w).av k] mem Q X:=fun loc vs hvs s I=>by
 refine eX2c (two_of hvs) fun x y ee107 h1 h2=>?_;subst ee107
 cases er_ref h1
 refine eX1b (I.dict (D cx.w) e) fun kvs hd ee108=>?_;subst ee108
 refine call_meetsIn F.slot_dict_get hd.typeIs F.entry_dict_get (F.args_dict_get_2 _ _) (meets_dict_get (D cx.w).knd d ((D cx.w).key _ _ h2) (I.notSys e)) ⟨_,hd.mapOf,mem,I.toks,?_⟩
 rw [<- valueAt_lookup] at h
 cases q : valueAt kvs k with
 | none=>rw [q] at h;exact h
 | some v=>rw [q] at h;exact h
theorem CallV.dictPop {av : AV} {ep : Option Nat} (e : mem d = some ((D cx.w).ao ep es)) (hl : es.lookup k = some av) (hlen : es.length <= 1000000) (h : Q av (mset mem d ((D cx.w).ao none (es.filter fun p=>decide (p.1 ≠ k))))) : CallV cx (.builtin "dict.pop") [.ref d,(D cx.w).av k] mem Q X:=fun loc vs hvs s I=>by
 refine eX2c (two_of hvs) fun x y ee109 h1 h2=>?_;subst ee109
 cases er_ref h1
 refine eX1b (I.dict (D cx.w) e) fun kvs hd ee110=>?_;subst ee110
 rw [<- valueAt_lookup] at hl
 refine eX1b (Option.map_eq_some_iff.mp hl) fun v hv ee111=>?_;subst ee111
 refine call_meetsIn F.slot_dict_pop hd.typeIs F.entry_dict_pop (F.args_dict_pop_2 _ _) (meets_dict_pop_there (D cx.w).knd d ((D cx.w).key _ _ h2) [] (.inl rfl) ((D cx.w).part _ _ h2))
  (iX2d kvs v hd (by rw [List.length_map] at hlen;rw [sizeLine_eq];lia) hv (fun h' hd' hs'=>(iX1b _ (I.dictUpd (D cx.w) e hs'.extBut hd') ?_)))
 rw [without_map];exact h
theorem CallV.dictLen {ep : Option Nat} (e : mem d = some ((D cx.w).ao ep es)) (hlen : es.length <= 1000000) (h : Q (.int es.length) mem) : CallV cx (.builtin "len") [.ref d] mem Q X:=fun loc vs hvs s I=>by
 refine eX1b (one_of hvs) fun x ee112 h1=>?_;subst ee112
 cases er_ref h1
 refine eX1b (I.dict (D cx.w) e) fun kvs hd ee113=>?_;subst ee113
 rw [List.length_map] at hlen h
 exact call_len_dict (I.notSys e) hd (by lia) (iX1b mem I.toks h)
end
noncomputable def mdel (m : Mem) (a : Addr) : Mem:=fun b=>if b = a then none else m b
theorem mdel_same (m : Mem) (a : Addr) : mdel m a a = none:=by simp [mdel]
theorem mdel_ne {m : Mem} {a b : Addr} (h : b ≠ a) : mdel m a b = m b:=by simp [mdel,h]
theorem mset_mset (m : Mem) (a : Addr) (x y : AO) : mset (mset m a x) a y = mset m a y:=by
 funext b;unfold mset;split <;> rfl
theorem mset_comm {a b : Addr} (h : a ≠ b) (m : Mem) (x y : AO) : mset (mset m a x) b y = mset (mset m b y) a x:=by
 funext c;unfold mset
 by_cases h1 : c = a
 ·subst h1;rw [if_pos rfl,if_neg h,if_pos rfl]
 ·rw [if_neg h1,if_neg h1]
theorem mdel_mset {m : Mem} {a : Addr} (h : m a = none) (x : AO) : mdel (mset m a x) a = m:=by
 funext b;unfold mdel mset
 by_cases q : b = a
 ·subst q;simp [h]
 ·simp [q]
theorem mset_self {m : Mem} {a : Addr} {x : AO} (h : m a = some x) : mset m a x = m:=by
 funext b;unfold mset
 by_cases q : b = a
 ·subst q;rw [if_pos rfl,h]
 ·rw [if_neg q]
noncomputable def Cx.withG (cx : Cx) (G : Addr -> Option Obj) : Cx:={ cx with G:=G }
noncomputable def hideCx (cx : Cx) (a : Addr) (o : Obj) : Cx:=cx.withG fun b=>if b = a then some o else cx.G b
structure Free (cx : Cx) (a : Addr) : Prop where
 G : cx.G a = none
 L : a ≠ cx.env.locals
 C : ∀ y c,cx.env.cells.lookup y = some c -> c ≠ a
section
variable {cx : Cx} {loc : Loc} {mem : Mem} {s : Shared} {a : Addr} {o : Obj} {ao : AO}
theorem InSt.free (I : InSt cx loc mem s) (e : mem a = some ao) : Free cx a :=
 ⟨(I.st.tr a ao e).1,(fun q=>by rw [q,I.fm.ownM] at e;cases e),(fun y c ec q=>by have:=(I.fm.cells y c ec).1;rw [q,e] at this;cases this)⟩
theorem CxOk.notFr (ok : CxOk cx) (hG : cx.G a = none) (hL : a ≠ cx.env.locals) : a ∉ frs cx.l:=fun m=>by
 refine eX1b (List.mem_filterMap.mp m) fun env he hf=>?_
 obtain ⟨_,L,h1,h2⟩:=ok.outer env he
 rw [hf] at h1;cases h1
 rcases h2 with ⟨o',es,n,h3,h4⟩ | h3
 ·rw [hG] at h3;cases h3
 ·exact hL h3
theorem InSt.hideObj (I : InSt cx loc mem s) (f : Free cx a) (ho : s.heap.get? a = some o) (hT : ∀ vs,o.data = .fields vs -> ¬ Tabby o vs) : InSt (hideCx cx a o) loc (mdel mem a) s:=by
 have nf:=I.ok.notFr f.G f.L
 have gne : ∀ b o',cx.G b = some o' -> b ≠ a:=fun b o' e q=>by rw [q,f.G] at e;cases e
 have gN : ∀ b,b ≠ a -> (hideCx cx a o).G b = cx.G b:=fun b h=>if_neg h
 have tne : ∀ q ∈ cx.ts,q.P ≠ a:=fun q hq z=>by
  refine eX1b (I.st.tab q hq) fun ps hP _=>?_
  rw [z,ho] at hP;cases hP
  exact hT ps rfl (.inl rfl)
 refine ⟨⟨I.ok.X,I.ok.T,fun b o' e=>(gN b (gne b _ (I.ok.base b o' e))).trans (I.ok.base b o' e),I.ok.sysm,I.ok.baseF,fun q hq=>(gN _ (tne q hq)).trans (I.ok.baseT q hq),I.ok.depth,I.ok.units,I.ok.handled,I.ok.frames,I.ok.kind,I.ok.above,I.ok.cellsAll,I.ok.glob,I.ok.blt,fun e he=>?_⟩,
  ⟨fun b o' e n=>?_,fun b ao e=>?_,I.st.tab⟩,fun b o' e n=>?_,⟨I.fm.ns,(gN _ (Ne.symm f.L)).trans I.fm.own,?_,fun y c e=>?_,I.fm.apart,I.fm.bound⟩,I.gens,I.drawn,I.os⟩
 ·obtain ⟨h1,L,h2,h3⟩:=I.ok.outer e he
  exact ⟨h1,L,h2,h3.imp (fun zq43=>eX3b zq43 fun o' es n h4 h5=>(iX3b o' es n ((gN _ (gne _ _ h4)).trans h4) h5)) id⟩
 ·by_cases q : b = a
  ·subst q
   have e2 : (if b = b then some o else cx.G b) = some o':=e
   rw [if_pos rfl] at e2;cases e2;exact ho
  ·rw [gN b q] at e;exact I.st.kept b o' e n
 ·have q : b ≠ a:=fun q=>by rw [q,mdel_same] at e;cases e
  rw [mdel_ne q] at e
  refine eX0b (I.st.tr b ao e) fun h1 h2=>?_
  exact (iX0b ((gN b q).trans h1) h2)
 ·have q : b ≠ a:=fun q=>nf (q ▸ n)
  rw [gN b q] at e;exact I.fr b o' e n
 ·show mdel mem a cx.env.locals = none
  rw [mdel_ne (Ne.symm f.L)];exact I.fm.ownM
 ·refine eX0e (I.fm.cells y c e) fun c1 c2 c3 c4 c5=>?_
  have q:=f.C y c e
  exact (iX0e (by rw [mdel_ne q];exact c1) c2 c3 c4 (fun w k=>(gN c q).trans (c5 w k)))
theorem InSt.hide (I : InSt cx loc mem s) (e : mem a = some ao) : ∃ o,s.heap.get? a = some o /\ Rep cx.w o ao /\ InSt (hideCx cx a o) loc (mdel mem a) s:=by
 refine eX1b (I.get e) fun o ho r=>?_
 exact (iX1c o ho r (I.hideObj (I.free e) ho r.notTab))
theorem InSt.unhide (ok : CxOk cx) (f : Free cx a) (I : InSt (hideCx cx a o) loc mem s) : InSt cx loc mem s /\ s.heap.get? a = some o /\ mem a = none:=by
 have nf:=ok.notFr f.G f.L
 have gne : ∀ b o',cx.G b = some o' -> b ≠ a:=fun b o' e q=>by rw [q,f.G] at e;cases e
 have gN : ∀ b,b ≠ a -> (hideCx cx a o).G b = cx.G b:=fun b h=>if_neg h
 have gA : (hideCx cx a o).G a = some o:=if_pos rfl
 have dn : ∀ b,(hideCx cx a o).G b = none -> cx.G b = none:=fun b h=>by
  by_cases q : b = a
  ·rw [q];exact f.G
  ·rw [gN b q] at h;exact h
 refine ⟨⟨ok,⟨fun b o' e n=>I.st.kept b o' ((gN b (gne b _ e)).trans e) n,fun b ao e=>let ⟨h1,h2⟩:=I.st.tr b ao e;(iX0b (dn b h1) h2),I.st.tab⟩,fun b o' e n=>I.fr b o' ((gN b (gne b _ e)).trans e) n,
  ⟨I.fm.ns,dn _ I.fm.own,I.fm.ownM,fun y c e=>let ⟨c1,c2,c3,c4,c5⟩:=I.fm.cells y c e;(iX0e c1 c2 c3 c4 (fun w k=>dn c (c5 w k))),I.fm.apart,I.fm.bound⟩,I.gens,I.drawn,I.os⟩,I.st.kept a o gA nf,?_⟩
 cases q : mem a with
 | none=>rfl
 | some ao=>refine eX0b (I.st.tr a ao q) fun h1 _=>?_;rw [gA] at h1;cases h1
theorem InSt.track (I : InSt cx loc mem s) (f : Free cx a) (ho : s.heap.get? a = some o) (r : Rep cx.w o ao) : InSt cx loc (mset mem a ao) s :=
 ⟨I.ok,⟨I.st.kept,fun b ao' e=>by
  by_cases q : b = a
  ·subst q;rw [mset_same] at e;cases e;exact ⟨f.G,o,ho,r⟩
  ·rw [mset_ne q] at e;exact I.st.tr b ao' e,I.st.tab⟩,I.fr,⟨I.fm.ns,I.fm.own,by rw [mset_ne (Ne.symm f.L)];exact I.fm.ownM,fun y c e=>let ⟨c1,r⟩:=I.fm.cells y c e;(iX0b (by rw [mset_ne (f.C y c e)];exact c1) r),I.fm.apart,I.fm.bound⟩,I.gens,I.drawn,I.os⟩
theorem InSt.lose (I : InSt cx loc mem s) (e : mem a = some ao) {h' : Heap} {t : Nat} (x : Heap.ExtBut a s.heap h') : InSt cx loc (mdel mem a) { s with heap:=h',toks:=t }:=by
 have f:=I.free e
 refine eX1b (I.get e) fun o ho r=>?_
 refine I.ext x f.G f.L f.C (fun o2 vs e2=>by rw [ho] at e2;cases e2;exact r.notTab vs) (fun b ao2 e2=>?_) (by rw [mdel_ne (Ne.symm f.L)];exact I.fm.ownM) fun y c ec=>by rw [mdel_ne (f.C y c ec)];exact (I.fm.cells y c ec).1
 have q : b ≠ a:=fun q=>by rw [q,mdel_same] at e2;cases e2
 rw [mdel_ne q] at e2
 obtain ⟨h1,o2,h2,h3⟩:=I.st.tr b ao2 e2
 exact ⟨h1,o2,x b o2 q h2,h3⟩
theorem InSt.loseObj (I : InSt cx loc mem s) (f : Free cx a) (e : mem a = none) (ho : s.heap.get? a = some o) (hT : ∀ vs,o.data = .fields vs -> ¬ Tabby o vs) {h' : Heap} {t : Nat} (x : Heap.ExtBut a s.heap h') : InSt cx loc mem { s with heap:=h',toks:=t } :=
 I.ext x f.G f.L f.C (fun o2 vs e2=>by rw [ho] at e2;cases e2;exact hT vs) (fun b ao2 e2=>by
  have q : b ≠ a:=fun q=>by rw [q,e] at e2;cases e2
  obtain ⟨h1,o2,h2,h3⟩:=I.st.tr b ao2 e2
  exact ⟨h1,o2,x b o2 q h2,h3⟩) I.fm.ownM fun y c ec=>(I.fm.cells y c ec).1
end
noncomputable def rngVals (x : Int) : Nat -> Int -> List AV
 | 0,_=>[]
 | n + 1,c=>.int x :: rngVals (x + c) n c
noncomputable def Yld (m : Mem) : IK -> List AV -> Prop
 | .list l i,xs=>∃ its,m l = some (.list its) /\ xs = its.drop i
 | .tup l i,xs=>∃ its,m l = some (.tuple its) /\ xs = its.drop i
 | .range x left c,xs=>xs = rngVals x left.toNat c
 | .key d i n ep,xs=>∃ b es,m d = some (.dictI b (some ep) es) /\ n = es.length /\ xs = (es.map fun p=>AV.int p.1).drop i
noncomputable def ksrc : IK -> Option Addr
 | .list l _=>some l
 | .tup l _=>some l
 | .range ..=>none
 | .key d ..=>some d
theorem Yld.keep {m m' : Mem} {k : IK} {xs : List AV} (y : Yld m k xs) (h : ∀ d,ksrc k = some d -> m' d = m d) : Yld m' k xs:=by
 cases k with
 | list l i=>refine eX1b y fun its h1 h2=>?_;exact (iX1b its ((h l rfl).trans h1) h2)
 | tup l i=>refine eX1b y fun its h1 h2=>?_;exact (iX1b its ((h l rfl).trans h1) h2)
 | range=>exact y
 | key d i n ep=>refine eX2b y fun b es h1 h2=>?_;exact (iX2b b es ((h d rfl).trans h1) h2)
theorem drop_cons {α : Type} {l : List α} {i : Nat} {x : α} {xs : List α} (h : x :: xs = l.drop i) : l[i]? = some x /\ xs = l.drop (i + 1):=by
 have h1 : (l.drop i)[0]? = some x:=by rw [<- h];rfl
 refine (iX0b (by simpa using h1) ?_)
 rw [<- List.tail_drop,<- h];rfl
theorem drop_nil {α : Type} {l : List α} {i : Nat} (h : [] = l.drop i) : l[i]? = none:=by
 have : (l.drop i).length = 0:=by rw [<- h];rfl
 rw [List.length_drop] at this
 exact List.getElem?_eq_none (by lia)
theorem map_get {its : Array Value} {xs : List AV} (h : its.toList.map er = xs) {i : Nat} {v : AV} (e : xs[i]? = some v) : ∃ u,its[i]? = some u /\ er u = v:=by
 rw [<- h,List.getElem?_map] at e
 refine eX1b (Option.map_eq_some_iff.mp e) fun u h1 h2=>?_
 exact (iX1b u (by simpa using h1) h2)
theorem map_none {its : Array Value} {xs : List AV} (h : its.toList.map er = xs) {i : Nat} (e : xs[i]? = none) : its[i]? = none:=by
 rw [<- h,List.getElem?_map] at e
 simpa using e
section
variable {cx : Cx} {loc : Loc} {m : Mem} {s : Shared} {it : Addr} {k : IK} {E : Value -> Shared -> Prop}
theorem rep_dictAt {w : World} {h : Heap} {d : Addr} {o : Obj} {b : Bool} {ep : Nat} {es : List (Int × AV)} (ho : h.get? d = some o) (r : Rep w o (.dictI b (some ep) es)) :
  ∃ kvs,h.DictAt (intKind pw w) d kvs ep /\ kvs.map (fun p=>(p.1,er p.2)) = es:=by
 refine eX2d r ?_;clear r;intro ents n ee114 h2 h3 h4;subst ee114
 have h4:=h4 ep rfl
 subst h4
 obtain ⟨kvs,zz115,h10⟩:=(rep_kvs entI_iff (dictOf ents n) es).mp (iX2c ents n rfl h2 h3);refine eX2e zz115 fun es' n' h5 h6 h7 h8 h9=>?_
 cases h6
 exact (iX1b kvs (⟨_,_,ho,h5,rfl,h7,h8,h9⟩) h10)
theorem nextItem (I : InSt cx loc (mset m it (.iter k)) s) (hn : m it = none) {v : AV} {xs : List AV} (y : Yld m k (v :: xs)) {Q : Option Value -> Shared -> Prop}
  (h : ∀ u k' s',er u = v -> InSt cx loc (mset m it (.iter k')) s' -> Yld m k' xs -> ksrc k' = ksrc k -> Q (some u) s') : wpAny (model pw cx.w) cx.A (pyNext (.ref it)) Q E s:=by
 refine eX1b (I.get (mset_same m it _)) fun oi hoi ri=>?_
 have up : ∀ (h' : Heap) (t : Nat) (k' : IK) (o' : Obj),Heap.SameBut it s.heap h' -> h'.get? it = some o' -> Rep cx.w o' (.iter k') -> InSt cx loc (mset m it (.iter k')) { s with heap:=h',toks:=t }:=fun h' t k' o' hs e r=>by
  have:=I.upd (mset_same m it _) hs.extBut e r (t:=t)
  rwa [mset_mset] at this
 cases k with
 | list l i =>
  refine eX1b y fun its h1 h2=>?_
  have hl : l ≠ it:=neN hn h1
  obtain ⟨ol,hol,vs,n,ee116,rl⟩:=I.get ((mset_ne hl).trans h1);subst ee116
  refine eX0b (drop_cons h2) fun g1 g2=>?_
  refine eX1b (map_get rl g1) fun u hu hv=>?_
  exact wpAny_pyNext_list_item (iX1b oi hoi ri) ⟨_,hol,rfl,n,rfl⟩ hu fun h' zq44 hs=>eX1b zq44 fun o' e r=>h u (.list l (i + 1)) _ hv (up h' s.toks _ o' hs e r) (iX1b its h1 g2) rfl
 | tup l i =>
  refine eX1b y fun its h1 h2=>?_
  have hl : l ≠ it:=neN hn h1
  obtain ⟨ol,hol,vs,n,ee117,rl⟩:=I.get ((mset_ne hl).trans h1);subst ee117
  refine eX0b (drop_cons h2) fun g1 g2=>?_
  refine eX1b (map_get rl g1) fun u hu hv=>?_
  exact wpAny_pyNext_tuple_item (iX1b oi hoi ri) ⟨_,hol,rfl,n,rfl⟩ hu fun h' zq45 hs=>eX1b zq45 fun o' e r=>h u (.tup l (i + 1)) _ hv (up h' s.toks _ o' hs e r) (iX1b its h1 g2) rfl
 | range x left c =>
  simp only [Rep] at ri
  subst ri
  have hl : 0 < left:=by
   cases q : left.toNat with
   | zero=>simp only [Yld] at y;rw [q] at y;cases y
   | succ n=>lia
  have e1 : left.toNat = (left - 1).toNat + 1:=by lia
  simp only [Yld] at y
  rw [e1] at y
  injection y with y1 y2
  exact wpAny_pyNext_range_item hoi hl fun h' e hs=>h _ (.range (x + c) (left - 1) c) _ y1.symm (up h' _ _ _ hs e rfl) y2 rfl
 | key d i n ep =>
  refine eX2c y ?_;clear y;intro b es h1 ee118 h2;subst ee118
  have hl : d ≠ it:=neN hn h1
  refine eX1b (I.get ((mset_ne hl).trans h1)) fun ol hol rl=>?_
  refine eX1b (rep_dictAt hol rl) fun kvs hd ee119=>?_;subst ee119
  refine eX0b (drop_cons h2) fun g1 g2=>?_
  rw [List.map_map,List.getElem?_map] at g1
  refine eX1b (Option.map_eq_some_iff.mp g1) fun zz120 hu hv=>?_;obtain ⟨kk,u⟩:=zz120
  rw [List.length_map] at ri
  refine wpAny_pyNext_dict_item (iX1b oi hoi ri) hd hu fun key h' hk zq46 hs=>eX1b zq46 fun o' e r=>?_
  refine eX1a (Value.isInt_shape hk) fun t ee121=>?_;subst ee121
  exact h _ (.key d (i + 1) kvs.length ep) _ hv (up h' s.toks _ o' hs e r) (iX2c b _ h1 (by rw [List.length_map]) g2) rfl
theorem nextEnd (I : InSt cx loc (mset m it (.iter k)) s) (hn : m it = none) (y : Yld m k []) {Q : Option Value -> Shared -> Prop} (h : ∀ s',InSt cx loc m s' -> Q none s') :
  wpAny (model pw cx.w) cx.A (pyNext (.ref it)) Q E s:=by
 refine eX1b (I.get (mset_same m it _)) fun oi hoi ri=>?_
 have up : ∀ (h' : Heap),Heap.ExtBut it s.heap h' -> InSt cx loc m { s with heap:=h' }:=fun h' hs=>by
  have:=I.lose (mset_same m it _) hs (t:=s.toks)
  rwa [mdel_mset hn] at this
 have hh:=I.ok.handled
 cases k with
 | list l i =>
  refine eX1b y fun its h1 h2=>?_
  have hl : l ≠ it:=neN hn h1
  obtain ⟨ol,hol,vs,n,ee122,rl⟩:=I.get ((mset_ne hl).trans h1);subst ee122
  exact wpAny_pyNext_list_end hh (iX1b oi hoi ri) ⟨_,hol,rfl,n,rfl⟩ (map_none rl (drop_nil h2)) fun h' hs=>h _ (up h' hs)
 | tup l i =>
  refine eX1b y fun its h1 h2=>?_
  have hl : l ≠ it:=neN hn h1
  obtain ⟨ol,hol,vs,n,ee123,rl⟩:=I.get ((mset_ne hl).trans h1);subst ee123
  exact wpAny_pyNext_tuple_end hh (iX1b oi hoi ri) ⟨_,hol,rfl,n,rfl⟩ (map_none rl (drop_nil h2)) fun h' hs=>h _ (up h' hs)
 | range x left c =>
  simp only [Rep] at ri
  subst ri
  have hl : left <= 0:=by
   cases q : left.toNat with
   | zero=>lia
   | succ n=>simp only [Yld] at y;rw [q] at y;cases y
  exact wpAny_pyNext_range_end hh hoi hl fun h' hs=>h _ (up h' hs)
 | key d i n ep =>
  refine eX2c y ?_;clear y;intro b es h1 ee124 h2;subst ee124
  have hl : d ≠ it:=neN hn h1
  refine eX1b (I.get ((mset_ne hl).trans h1)) fun ol hol rl=>?_
  refine eX1b (rep_dictAt hol rl) fun kvs hd ee125=>?_;subst ee125
  have g1:=drop_nil h2
  rw [List.map_map,List.getElem?_map] at g1
  rw [List.length_map] at ri
  exact wpAny_pyNext_dict_end hh (iX1b oi hoi ri) hd (by simpa using g1) fun h' hs=>h _ (up h' hs)
theorem iterSelf {Q : Value -> Shared -> Prop} (I : InSt cx loc m s) (e : m it = some (.iter k)) (h : Q (.ref it) s) : wpAny (model pw cx.w) cx.A (pyIter (.ref it)) Q E s:=by
 refine eX1b (I.get e) fun oi hoi ri=>?_
 cases k with
 | list l i=>exact wpAny_pyIter_listiter (iX1b oi hoi ri) h
 | tup l i=>exact wpAny_pyIter_tupleiter (iX1b oi hoi ri) h
 | range x left c=>simp only [Rep] at ri;subst ri;exact wpAny_pyIter_rangeiter hoi h
 | key d i n ep=>exact wpAny_pyIter_keyiter (iX1b oi hoi ri) h
end
noncomputable def ItV (cx : Cx) (a : AV) (mem : Mem) (xs : List AV) (R : Option Addr -> Mem -> Prop) : Prop:=∀ loc v s E,er v = a -> InSt cx loc mem s ->
 wpAny (model pw cx.w) cx.A (pyIter v) (fun r s'=>∃ it k m',r = .ref it /\ InSt cx loc (mset m' it (.iter k)) s' /\ m' it = none /\ Yld m' k xs /\ R (ksrc k) m') E s
section
variable {cx : Cx} {mem : Mem} {xs : List AV} {R : Option Addr -> Mem -> Prop} {l : Addr}
theorem ItV.list (e : mem l = some (.list xs)) (h : R (some l) mem) : ItV cx (.ref l) mem xs R:=fun loc v s E hv I=>by
 cases er_ref hv
 obtain ⟨ol,hol,vs,n,ee126,rl⟩:=I.get e;subst ee126
 exact wpAny_pyIter_list ⟨_,hol,rfl,n,rfl⟩ (iX3e s.heap.objs.size (.list l 0) mem rfl (I.push (t:=s.toks) (iX0b rfl rfl)) I.fresh.1 (iX1b xs e rfl) h)
theorem ItV.tup (e : mem l = some (.tuple xs)) (h : R (some l) mem) : ItV cx (.ref l) mem xs R:=fun loc v s E hv I=>by
 cases er_ref hv
 obtain ⟨ol,hol,vs,n,ee127,rl⟩:=I.get e;subst ee127
 exact wpAny_pyIter_tuple ⟨_,hol,rfl,n,rfl⟩ (iX3e s.heap.objs.size (.tup l 0) mem rfl (I.push (t:=s.toks) (iX0b rfl rfl)) I.fresh.1 (iX1b xs e rfl) h)
theorem ItV.range {a b c : Int} (e : mem l = some (.range a b c)) (hs : Builtin.Range.small a b c = true) (hx : rngVals a (Builtin.Range.rangeSize a b c).toNat c = xs) (h : R none mem) : ItV cx (.ref l) mem xs R:=fun loc v s E hv I=>by
 cases er_ref hv
 obtain ⟨ol,hol,t,u,v,ee128⟩:=I.get e;subst ee128
 subst hx
 exact wpAny_pyIter_range hol hs (iX3e s.heap.objs.size (.range a _ c) mem rfl (I.push (t:=s.toks) rfl) I.fresh.1 rfl h)
theorem ItV.dict {b : Bool} {ep : Option Nat} {es : List (Int × AV)} (e : mem l = some (.dictI b ep es)) (h : ∀ n,R (some l) (mset mem l (.dictI b (some n) es))) : ItV cx (.ref l) mem (es.map fun p=>.int p.1) R:=fun loc v s E hv I=>by
 cases er_ref hv
 obtain ⟨ol,hol,ents,n,ee129,h2,h3,_⟩:=I.get e;subst ee129
 have r : Rep cx.w (dictOf ents n) (.dictI b (some n) es):=(iX2d ents n rfl h2 h3 (fun _ q=>by cases q;rfl))
 have I2:=I.track (I.free e) hol r
 refine eX1b (rep_dictAt hol r) fun kvs hd h4=>?_
 have hlen : kvs.length = es.length:=by rw [<- h4,List.length_map]
 refine wpAny_pyIter_dict (I.notSys e) hd (iX3e s.heap.objs.size (.key l 0 es.length n) _ rfl (I2.push (t:=s.toks) (by rw [hlen];exact (iX0b rfl rfl))) I2.fresh.1 (iX2c b es (mset_same ..) rfl rfl) (h n))
end
noncomputable def AsgV (cx : Cx) (target : Expr) (v : AV) (loc : Loc) (mem : Mem) (Q : LQ) : Prop:=∀ u s E,er u = v -> InSt cx loc mem s ->
 wpAny (model pw cx.w) cx.A (assign target cx.env u) (fun _ s'=>∃ loc' m',InSt cx loc' m' s' /\ Q loc' m') E s
section
variable {cx : Cx} {loc : Loc} {mem : Mem} {Q : LQ} {v : AV} {x : Str} {pos : Pos}
theorem AsgV.name {sc : Scope} (hs : cx.env.scope = sc) (h : Q ((x,v) :: loc) mem) (hk : sc.names.lookup x = some .local:=by rfl) : AsgV cx (.Name x pos) v loc mem Q:=fun u s E hu I=>by
 subst hs hu
 exact wpAny_assign_Name (I.setLocal hk fun s' I'=>(iX2b _ _ I' h))
theorem AsgV.cell {sc : Scope} (hs : cx.env.scope = sc) (h : Q ((x,v) :: loc) mem) (hk : storable sc x = true:=by rfl) (hw : cx.wr = true:=by assumption) : AsgV cx (.Name x pos) v loc mem Q:=fun u s E hu I=>by
 subst hu
 exact wpAny_assign_Name (I.store hs hw hk fun s' I'=>(iX2b _ _ I' h))
noncomputable def isStar : Expr -> Bool
 | .Starred ..=>true
 | _=>false
theorem assignEach_cons {t : Expr} {ts : List Expr} {env : Env} (h : isStar t = false) : assignEach (t :: ts) env = (false,assign t env) :: assignEach ts env:=by
 cases t <;> first | rfl | cases h
theorem assignEach_len {env : Env} : ∀ {ts : List Expr},ts.all (fun t=>!isStar t) = true -> (assignEach ts env).length = ts.length /\ (assignEach ts env).findIdx? (·.1) = none
 | [],_=>(iX0b rfl rfl)
 | t :: ts,h=>by
  rw [List.all_cons,Bool.and_eq_true] at h
  refine eX0b (assignEach_len (env:=env) h.2) fun h1 h2=>?_
  rw [assignEach_cons (by simpa using h.1)]
  exact (iX0b (by rw [List.length_cons,h1,List.length_cons]) (by rw [List.findIdx?_cons,h2];rfl))
noncomputable def AsgsV (cx : Cx) : List Expr -> List AV -> Loc -> Mem -> LQ -> Prop
 | t :: ts,v :: vs,loc,mem,Q=>AsgV cx t v loc mem fun loc' m'=>AsgsV cx ts vs loc' m' Q
 | _,_,loc,mem,Q=>Q loc mem
theorem AsgsV.run : ∀ {ts : List Expr} {us : List Value} {loc : Loc} {mem : Mem} {Q : LQ} {s : Shared} {E : Value -> Shared -> Prop},AsgsV cx ts (us.map er) loc mem Q -> InSt cx loc mem s -> ts.all (fun t=>!isStar t) = true ->
  wpAny (model pw cx.w) cx.A (assignInOrder ((assignEach ts cx.env).map (·.2)) us) (fun _ s'=>∃ loc' m',InSt cx loc' m' s' /\ Q loc' m') E s
 | [],us,loc,mem,Q,s,E,h,I,_=>by
  cases us <;> exact wpAny_pure (iX2b loc mem I h)
 | t :: ts,[],loc,mem,Q,s,E,h,I,hn=>by
  have : ∀ l,assignInOrder l [] = pure ():=fun l=>by cases l <;> rfl
  rw [this]
  exact wpAny_pure (iX2b loc mem I h)
 | t :: ts,u :: us,loc,mem,Q,s,E,h,I,hn=>by
  rw [List.all_cons,Bool.and_eq_true] at hn
  rw [assignEach_cons (by simpa using hn.1)]
  show wpAny _ _ (holding us (assign t cx.env u) >>= fun _=>assignInOrder ((assignEach ts cx.env).map (·.2)) us) _ _ _
  exact wpAny_bind (wpAny_holding (wpAny_mono (h u s E rfl I) (fun _ s' zq47=>eX2b zq47 fun l' m' I' h'=>AsgsV.run h' I' hn.2) fun _ _ x=>x))
theorem AsgV.tuple {ts : List Expr} {k : Nat} {t : Addr} {vs : List AV} (e : mem t = some (.tuple vs)) (h : AsgsV cx ts vs loc mem Q) (hl : ts.length = vs.length:=by rfl) (hst : ts.all (fun t=>!isStar t) = true:=by rfl) : AsgV cx (.Tuple ts k pos) (.ref t) loc mem Q:=fun u s E hu I=>by
 cases er_ref hu
 obtain ⟨o,ho,its,n,ee130,ee131⟩:=I.get e;subst ee130;subst ee131
 refine eX0b (assignEach_len (env:=cx.env) hst) fun h1 h2=>?_
 refine wpAny_assign_Tuple I.ok.handled ⟨_,ho,rfl,n,rfl⟩ (by rw [h1,hl];simp) h2 fun h' x=>?_
 exact AsgsV.run h (I.grow (t:=s.toks) fun b o e=>x b o (Nat.ne_of_lt (Heap.lt_size e)) e) hst
theorem Loc.le_skip {l : Loc} {x : Str} {v : AV} (h : l.lookup x = none) : Loc.le l ((x,v) :: l):=fun y u e=>by
 rw [lookup_cons_ne fun q=>by rw [q,h] at e;cases e];exact e
theorem Loc.le_trans {a b c : Loc} (h : Loc.le a b) (h' : Loc.le b c) : Loc.le a c:=fun y u e=>h' y u (h y u e)
end
noncomputable abbrev KKeep (mem : Mem) (src : Option Addr) (R : LQ) : LQ:=fun l m=>(∀ d,src = some d -> m d = mem d) /\ R l m
noncomputable abbrev KBody (cx : Cx) (Qr : MQ AV) (mem : Mem) (body : List Stmt) (src : Option Addr) (R : LQ) : LQ:=fun l m=>SV cx body l m (KKeep mem src R) Qr NoX
noncomputable def ForP (cx : Cx) (target : Expr) (body : List Stmt) (Qn : LQ) (Qr : MQ AV) (src : Option Addr) : List AV -> LQ
 | []=>Qn
 | v :: xs=>fun loc mem=>∀ G',AsgV (cx.withG G') target v loc mem (KBody (cx.withG G') Qr mem body src (ForP cx target body Qn Qr src xs))
theorem letGo_load {target : Expr} {prog : Program} {w : World} {A : Around} {it : Addr} {u : Value} {n : String} {vs : Array Value} {o : Obj} {s : Shared} {Q : Unit -> Shared -> Prop} {E : Value -> Shared -> Prop} (ho : s.heap.get? it = some o) (hc : o.cls = .type n) (hd : o.data = .fields vs)
  (hn : ["enumerate","zip","dict_itemiterator","dict_reverseitemiterator","odict_iterator","itertools.zip_longest","itertools.pairwise"].contains n = false) (h : Q () s) : wpAny (model prog w) A (letOwnedTupleGo target (.ref it) u) Q E s:=by
 have key : ∀ a,wpAny (model prog w) A (do
   let o <- load it
   match o.cls,o.data with
   | .type n,.fields vs =>
    if ["enumerate","zip","dict_itemiterator","dict_reverseitemiterator","odict_iterator","itertools.zip_longest","itertools.pairwise"].contains n && vs[0]? == some (rawInt a) then
     rule "for.unpacks-the-owned-tuple"
     updateField it 0 .none
   | _,_=>pure ()) Q E s:=fun a=>by
  refine wpAny_bind (wpAny_load ho ?_)
  rw [hc,hd]
  dsimp only
  rw [if_neg (by rw [hn,Bool.false_and];exact Bool.false_ne_true)]
  exact wpAny_pure h
 cases target <;> first | exact wpAny_pure h | (cases u <;> first | exact wpAny_pure h | exact key _)
theorem letGo {cx : Cx} {loc : Loc} {mem : Mem} {s : Shared} {it : Addr} {k : IK} {target : Expr} {u : Value} {Q : Unit -> Shared -> Prop} {E : Value -> Shared -> Prop} (I : InSt cx loc mem s) (e : mem it = some (.iter k)) (h : Q () s) : wpAny (model pw cx.w) cx.A (letOwnedTupleGo target (.ref it) u) Q E s:=by
 refine eX1b (I.get e) fun o ho r=>?_
 cases k with
 | list l i=>exact letGo_load ho r.1 r.2 (by rfl) h
 | tup l i=>exact letGo_load ho r.1 r.2 (by rfl) h
 | range x left c=>simp only [Rep] at r;subst r;exact letGo_load ho rfl rfl (by rfl) h
 | key d i n ep=>exact letGo_load ho r.1 r.2 (by rfl) h
theorem SV.any {cx : Cx} {ss : List Stmt} {loc : Loc} {mem : Mem} {Qn : LQ} {Qr : MQ AV} {s : Shared} {E : Value -> Shared -> Prop} (h : SV cx ss loc mem Qn Qr NoX) (I : InSt cx loc mem s) : wpAny (model pw cx.w) cx.A (execs ss cx.env) (SPost cx Qn Qr) E s :=
 wpAny_mono (h s I) (fun _ _ x=>x) fun _ _ zq48=>eX2b zq48 fun _ _ _ x=>x.elim
theorem TV.any {α : Type} {cx : Cx} {t : Sem α} {loc : Loc} {mem : Mem} {Q : MQ α} {s : Shared} {E : Value -> Shared -> Prop} (h : TV cx t loc mem Q NoX) (I : InSt cx loc mem s) : wpAny (model pw cx.w) cx.A t (TPost cx loc Q) E s :=
 wpAny_mono (h s I) (fun _ _ x=>x) fun _ _ zq49=>eX2b zq49 fun _ _ _ x=>x.elim
noncomputable abbrev KFor (cx : Cx) (Qr : MQ AV) (loc : Loc) (target : Expr) (body : List Stmt) (Qn : LQ) : MQ AV:=fun a m=>∃ xs,ItV cx a m xs fun src m'=>ForP cx target body Qn Qr src xs loc m'
theorem S1.for {cx : Cx} {X : MQ Addr} {Qr : MQ AV} {loc : Loc} {mem : Mem} {Qn : LQ} {target iter : Expr} {body : List Stmt} {pos : Pos}
  (h : EV cx iter loc mem (KFor cx Qr loc target body Qn) X)
  (hs : ∀ x,foldedSetIterable iter cx.env x = pure x:=by intro _;rfl) : S1 cx (.For target iter body [] pos) loc mem Qn Qr X:=fun s I=>by
 refine wpAny_For (TV.go h I fun v s₁ m1 I1 z=>eX1a z fun xs hi=>wpAny_mono (hi loc v s₁ _ rfl I1) (fun r s₂ h₂=>?_) fun _ _ x=>x) hs
 refine eX3e h₂ ?_;clear h₂;intro it k m2 ee132 I2 hn y hP;subst ee132
 refine codeAny_forLoop_any (fun n s'=>∃ xs k loc' m',n = xs.length /\ InSt cx loc' (mset m' it (.iter k)) s' /\ m' it = none /\ Yld m' k xs /\ ForP cx target body Qn Qr (ksrc k) xs loc' m') ?_ xs.length (iX4e xs k loc m2 rfl I2 hn y hP)
 intro n s' zz133;refine eX4e zz133 ?_;clear zz133;intro xs k loc' m' ee134 I3 hn y hP;subst ee134
 cases xs with
 | nil =>
  refine nextEnd I3 hn y fun s₄ I4=>?_
  exact wpAny_execs_nil (iX2b loc' m' I4 hP)
 | cons v xs =>
  refine nextItem I3 hn y fun u k' s₄ hu I4 y' hk=>?_
  refine letGo I4 (mset_same m' it _) ?_
  have fr:=I4.free (mset_same m' it _)
  refine eX1c (I4.hide (mset_same m' it _)) fun oi hoi ri I5=>?_
  rw [mdel_mset hn] at I5
  refine wpAny_mono (hP (fun b=>if b = it then some oi else cx.G b) u s₄ _ hu I5) (fun _ s₅ zq53=>eX2b zq53 fun l5 m5 I6 h5=>wpAny_mono (h5.any I6) (fun f s₆ h6=>?_) fun _ _ x=>x) fun _ _ x=>x
  cases f with
  | next =>
   refine eX2c h6 fun l6 m6 I7 hsrc hP6=>?_
   refine eX0c (InSt.unhide (o:=oi) I4.ok fr I7) fun I8 hoi' hn'=>?_
   refine ⟨xs.length,by simp,xs,k',l6,m6,rfl,I8.track fr hoi' ri,hn',y'.keep fun d hd=>hsrc d (hk ▸ hd),by rw [hk];exact hP6⟩
  | ret v =>
   refine eX2b h6 fun l6 m6 I7 hr=>?_
   exact (iX2b l6 m6 ((InSt.unhide (o:=oi) I4.ok fr I7).1) hr)
  | _=>exact h6.elim
theorem closure_loop {env : Env} : ∀ (names : List (Str × NameKind)) (acc : List (Str × Addr)),(∀ p ∈ names,p.2 = .free -> ∃ c,env.cells.lookup p.1 = some c) ->
  ∃ cl,(forIn names acc (fun (x : Str × NameKind) r=>if (x.2 == NameKind.free) = true then do let a <- cellOf env x.1;pure (ForInStep.yield ((x.1,a) :: r)) else pure (ForInStep.yield r)) : Sem (List (Str × Addr))) = pure cl /\
   (∀ y c,cl.lookup y = some c -> acc.lookup y = some c \/ ((y,.free) ∈ names /\ env.cells.lookup y = some c)) /\
   (∀ y,(y,.free) ∈ names -> cl.lookup y = env.cells.lookup y) /\ (∀ y,(y,NameKind.free) ∉ names -> cl.lookup y = acc.lookup y)
 | [],acc,_=>(iX1d acc rfl (fun _ _ h=>.inl h) (fun _ h=>nomatch h) (fun _ _=>rfl))
 | (n,k) :: r,acc,h=>by
  rw [List.forIn_cons]
  by_cases q : k = .free
  ·subst q
   refine eX1a (h _ (.head _) rfl) fun c hc=>?_
   have e : cellOf env n = pure c:=by unfold cellOf;rw [hc]
   refine eX1d (closure_loop r ((n,c) :: acc) fun p hp=>h p (.tail _ hp)) fun cl h1 h2 h3 h4=>?_
   refine (iX1d cl ?_ (fun y c' e'=>?_) (fun y hy=>?_) (fun y hy=>?_))
   ·rw [if_pos (by rfl)]
    dsimp only
    rw [e];exact h1
   ·rcases h2 y c' e' with h5 | ⟨h5,h6⟩
    ·rw [List.lookup_cons] at h5
     by_cases q : y = n
     ·subst q
      rw [beq_self_eq_true] at h5;cases h5
      exact .inr (iX0b (.head _) hc)
     ·rw [beq_eq_false_iff_ne.mpr q] at h5;exact .inl h5
    ·exact .inr (iX0b (.tail _ h5) h6)
   ·by_cases q : (y,NameKind.free) ∈ r
    ·exact h3 y q
    ·rw [h4 y q]
     rcases List.mem_cons.mp hy with e1 | e1
     ·cases e1
      rw [List.lookup_cons,beq_self_eq_true,hc]
     ·exact absurd e1 q
   ·rw [List.mem_cons,not_or] at hy
    rw [h4 y hy.2,List.lookup_cons]
    by_cases q : y = n
    ·subst q;exact absurd rfl hy.1
    ·rw [beq_eq_false_iff_ne.mpr q]
  ·refine eX1d (closure_loop r acc fun p hp=>h p (.tail _ hp)) fun cl h1 h2 h3 h4=>?_
   refine (iX1d cl ?_ (fun y c' e'=>(h2 y c' e').imp id fun zq54=>eX0b zq54 fun a b=>(iX0b (.tail _ a) b)) (fun y hy=>?_) (fun y hy=>?_))
   ·rw [if_neg (by simpa using q)];exact h1
   ·rcases List.mem_cons.mp hy with e1 | e1
    ·cases e1;exact absurd rfl q
    ·exact h3 y e1
   ·rw [List.mem_cons,not_or] at hy
    exact h4 y hy.2
theorem closureFor_of {scope : Scope} {env : Env} (h : ∀ p ∈ scope.names,p.2 = .free -> ∃ c,env.cells.lookup p.1 = some c) :
  ∃ cl,closureFor scope env = pure cl /\ (∀ y c,cl.lookup y = some c -> (y,.free) ∈ scope.names /\ env.cells.lookup y = some c) /\ ∀ y,(y,.free) ∈ scope.names -> cl.lookup y = env.cells.lookup y:=by
 refine eX1d (closure_loop scope.names [] h) fun cl h1 h2 h3 _=>?_
 refine (iX1c cl ?_ (fun y c e=>(h2 y c e).elim (fun h=>nomatch h) id) h3)
 have e : closureFor scope env = (forIn scope.names [] (fun (x : Str × NameKind) r=>if (x.2 == NameKind.free) = true then do let a <- cellOf env x.1;pure (ForInStep.yield ((x.1,a) :: r)) else pure (ForInStep.yield r)) : Sem (List (Str × Addr))) >>= pure:=rfl
 rw [e,h1];rfl
noncomputable def relKind (env : Env) (n : Str) (k : NameKind) : NameKind:=if (k == .free && env.scope.kind == .function && env.kindOf n == some .cell) then .cell else k
theorem relabel_lookup {env : Env} : ∀ (names : List (Str × NameKind)) (x : Str),
  (names.map fun (n,k)=>if (k == NameKind.free && env.scope.kind == .function && env.kindOf n == some .cell) then (n,NameKind.cell) else (n,k)).lookup x = (names.lookup x).map (relKind env x)
 | [],_=>rfl
 | (n,k) :: r,x=>by
  have ih:=relabel_lookup (env:=env) r x
  rw [List.map_cons,List.lookup_cons]
  have e : (if (k == NameKind.free && env.scope.kind == .function && env.kindOf n == some .cell) = true then (n,NameKind.cell) else (n,k)) = (n,relKind env n k):=by
   unfold relKind;split <;> rfl
  dsimp only
  rw [e,List.lookup_cons]
  by_cases q : x = n
  ·subst q;rw [beq_self_eq_true];rfl
  ·rw [beq_eq_false_iff_ne.mpr q];exact ih
noncomputable def compOk (scope sc : Scope) : Bool :=
 decide (scope.kind = .function) && scope.names.all (fun p=>p.2 != .cell) && scope.names.all (fun p=>p.2 != .local || scope.names.lookup p.1 == some .local) && scope.names.all (fun p=>p.2 != .free || sc.names.lookup p.1 == some .cell)
theorem compOk_elim {scope sc : Scope} (hc : compOk scope sc = true) : scope.kind = .function /\ (∀ x ∈ scope.names,x.2 ≠ .cell) /\ (∀ x ∈ scope.names,x.2 ≠ .local \/ scope.names.lookup x.1 = some .local) /\ ∀ x ∈ scope.names,x.2 ≠ .free \/ sc.names.lookup x.1 = some .cell:=by
 simp only [compOk,Bool.and_eq_true,decide_eq_true_eq,List.all_eq_true,bne_iff_ne,Bool.or_eq_true,beq_iff_eq] at hc
 exact ⟨hc.1.1.1,hc.1.1.2,hc.1.2,hc.2⟩
noncomputable def locOk (scope : Scope) (l : Loc) : Bool:=l.all fun p=>scope.names.lookup p.1 == some .free
noncomputable def compCx (cx : Cx) (h : Heap) (env : Env) : Cx:={ cx with env:=env,G:=frz cx h,wr:=false }
theorem compFroz (cx : Cx) (h : Heap) (env : Env) : Froz cx (compCx cx h env) h:=⟨rfl,rfl,rfl,rfl,rfl,rfl,rfl,rfl,rfl,rfl,rfl,fun _ hb=>.inl hb,fun _ hb=>hb⟩
section
variable {cx : Cx} {loc locC : Loc} {mem : Mem} {s : Shared} {scope sc : Scope} {cl : List (Str × Addr)}
theorem InSt.enterC (I : InSt cx loc mem s) (hs : cx.env.scope = sc) (hc : compOk scope sc = true) (hl : Loc.le locC loc) (ho : locOk scope locC = true) {h₁ : Heap} {t : Nat}
  (hcl1 : ∀ y c,cl.lookup y = some c -> (y,.free) ∈ scope.names /\ cx.env.cells.lookup y = some c) (hcl2 : ∀ y,(y,.free) ∈ scope.names -> cl.lookup y = cx.env.cells.lookup y)
  (hns : h₁.Ns s.heap.objs.size fun _=>none) (hsb : Heap.SameBut s.heap.objs.size (s.heap.push { cls:=.type "dict",dict:=none,data:=.dict #[] }) h₁) :
  InSt (compCx cx s.heap (compEnvC scope cl s.heap.objs.size cx.env)) locC mem { s with heap:=h₁,toks:=t }:=by
 refine eX0d (compOk_elim hc) fun k1 k2 k3 k4=>?_
 simp only [locOk,List.all_eq_true,beq_iff_eq] at ho
 subst hs
 have fr:=I.fresh
 have hCn : s.heap.get? s.heap.objs.size = none:=Heap.get?_none_of_le (Nat.le_refl _)
 have keep : ∀ b o,s.heap.get? b = some o -> h₁.get? b = some o:=fun b o e=>hsb.extBut b o (Nat.ne_of_lt (Heap.lt_size e)) (Heap.get?_push_of_some _ e)
 have kind : ∀ y,(compEnvC scope cl s.heap.objs.size cx.env).kindOf y = (scope.names.lookup y).map (relKind cx.env y):=fun y=>relabel_lookup scope.names y
 have memC : mem s.heap.objs.size = none:=fr.1
 have cells : ∀ y c,cl.lookup y = some c -> cx.env.kindOf y = some .cell /\ cx.env.cells.lookup y = some c:=fun y c e=>by
  refine eX0b (hcl1 y c e) fun h1 h2=>?_
  exact (iX0b ((k4 _ h1).resolve_left fun h=>h rfl) h2)
 refine ⟨⟨I.ok.X,I.ok.T,fun b o e=>?_,I.ok.sysm,I.ok.baseF,fun q hq=>?_,I.ok.depth,I.ok.units,I.ok.handled,I.ok.frames,k1,?_,fun y hy=>?_,I.ok.glob,I.ok.blt,fun e he=>?_⟩,⟨fun b o e n=>keep b o ((I.frzGet e).1 n),fun a ao e=>?_,I.st.tab.keep fun b o vs e _ _=>keep b o e⟩,fun b o e n=>?_,
  ⟨(iX1b _ hns (fun y v ky hy=>?_)),I.frzSize hCn,memC,fun y c e=>?_,fun y z c e1 e2=>?_,fun y v hy=>?_⟩,I.gens,I.drawn,I.os⟩
 ·show frz cx s.heap b = some o
  by_cases w : Own cx.env b
  ·rw [frz_own w];exact I.keep b o e
  ·rw [frz_not w];exact I.ok.base b o e
 ·show frz cx s.heap q.P = none
  refine eX1b (I.st.tab q hq) fun ps hP _=>?_
  have w : ¬ Own cx.env q.P:=fun w=>by
   refine eX1b (I.ownGet w) fun ob hob hd=>?_
   rw [hP] at hob;cases hob
   rcases hd with ⟨_,_,hd⟩ | ⟨_,hd⟩ <;> cases hd
  rw [frz_not w];exact I.ok.baseT q hq
 ·show cx.hb.objs.size <= s.heap.objs.size
  refine eX1b (I.fm.ns) fun m0 hn0 _=>?_
  exact Nat.le_of_lt (Nat.lt_of_le_of_lt I.ok.above hn0.lt)
 ·have hy : (compEnvC scope cl s.heap.objs.size cx.env).kindOf y = some .cell:=hy
  rw [kind] at hy
  refine eX1b (Option.map_eq_some_iff.mp hy) fun k h1 h2=>?_
  have hm:=mem_of_lookup h1
  have hk : k = .free:=by
   unfold relKind at h2
   split at h2
   ·rename_i q;simp only [Bool.and_eq_true,beq_iff_eq] at q;exact q.1.1
   ·subst h2;exact absurd rfl (k2 _ hm)
  subst hk
  have hcell:=(k4 _ hm).resolve_left fun h=>h rfl
  refine eX1a (I.ok.cellsAll y hcell) fun c hc=>?_
  exact (iX1a c ((hcl2 y hm).trans hc))
 ·obtain ⟨h1,L,h2,h3⟩:=I.ok.outer e he
  refine ⟨h1,L,h2,.inl ?_⟩
  show ∃ o es n,frz cx s.heap L = some o /\ _
  have hLf : L ∈ frs cx.l:=List.mem_filterMap.mpr (iX1b e he h2)
  by_cases w : Own cx.env L
  ·rw [frz_own w]
   rcases h3 with ⟨o,es,n,h4,h5⟩ | h3
   ·refine eX1a (I.fr L o h4 hLf) fun sl h6=>?_
    exact (iX3b _ es n h6 h5)
   ·refine eX1b (I.fm.ns) fun m0 zz137 _=>?_;refine eX3c zz137 fun o es n h6 h7 _=>?_
    exact (iX3b o es n (h3 ▸ h6) h7)
  ·rw [frz_not w]
   rcases h3 with h3 | h3
   ·exact h3
   ·exact absurd (.inl h3) w
 ·obtain ⟨h1,o,h2,h3⟩:=I.st.tr a ao e
  refine ⟨?_,o,keep _ _ h2,h3⟩
  have w : ¬ Own cx.env a:=fun w=>by rw [I.ownM w] at e;cases e
  show frz cx s.heap a = none
  rw [frz_not w];exact h1
 ·refine eX1a ((I.frzGet e).2 n) fun sl h1=>?_
  exact (iX1a sl (keep _ _ h1))
 ·have ky : (compEnvC scope cl s.heap.objs.size cx.env).kindOf y = some .local:=ky
  have hf:=ho _ (mem_of_lookup hy)
  rw [kind,hf] at ky
  unfold relKind at ky
  simp only [Option.map_some] at ky
  split at ky <;> cases ky
 ·refine eX0b (cells y c e) fun h1 h2=>?_
  refine eX0e (I.fm.cells y c h2) fun c1 c2 zz138 c4 c5=>?_;refine eX2b zz138 fun v o c3 c3'=>?_
  refine (iX0e c1 (fun q=>fr.2.2.2 y c h2 q) (iX2b v o (keep _ _ c3) c3') (fun _ v hv=>?_) (fun w=>by cases w))
  refine eX1b (c4 (.inl h1) v (hl y v hv)) fun u zz139 hu=>?_;refine eX1b zz139 fun o' ho' hd'=>?_
  exact (iX1b u (iX1b o' (keep _ _ ho') hd') hu)
 ·exact I.fm.apart y z c (cells y c e1).2 (cells z c e2).2
 ·have hf:=ho _ (mem_of_lookup hy)
  have hm:=mem_of_lookup hf
  have hcell:=(k4 _ hm).resolve_left fun h=>h rfl
  refine eX1a (I.ok.cellsAll y hcell) fun c hc=>?_
  refine .inr ⟨?_,c,(hcl2 y hm).trans hc⟩
  have ke : (compEnvC scope cl s.heap.objs.size cx.env).kindOf y = some (relKind cx.env y .free):=by rw [kind,hf];rfl
  unfold relKind at ke
  split at ke
  ·exact .inl ke
  ·exact .inr ke
end
noncomputable def TestsV (cx : Cx) (ifs : List Expr) (loc : Loc) (mem : Mem) (Q : MQ Bool) : Prop:=∀ s E,InSt cx loc mem s ->
 wpAny (model pw cx.w) cx.A (forIn ifs true fun c r=>if r = true then do let ok <- isTrue c cx.env (eval c cx.env);pure (ForInStep.yield ok) else pure (ForInStep.yield r)) (TPost cx loc Q) E s
theorem TestsV.nil {cx : Cx} {loc : Loc} {mem : Mem} {Q : MQ Bool} (h : Q true mem) : TestsV cx [] loc mem Q:=fun s E I=>by
 rw [List.forIn_nil];exact wpAny_pure (iX1b mem I h)
theorem TestsV.one {cx : Cx} {loc : Loc} {mem : Mem} {Q : MQ Bool} {c : Expr} (h : BV cx c loc mem Q NoX) : TestsV cx [c] loc mem Q:=fun s E I=>by
 rw [List.forIn_cons,if_pos rfl]
 refine wpAny_bind (wpAny_bind (wpAny_mono (TV.any h I) (fun ok s' h'=>wpAny_pure ?_) fun _ _ x=>x))
 dsimp only
 rw [List.forIn_nil]
 exact wpAny_pure h'
noncomputable abbrev KItem (mem : Mem) (src : Option Addr) (ys : List AV) (R : List AV -> Mem -> Prop) : MQ AV:=fun y m=>(∀ d,src = some d -> m d = mem d) /\ R (ys ++ [y]) m
noncomputable abbrev KTest (cx : Cx) (loc : Loc) (mem : Mem) (elt : Expr) (src : Option Addr) (ys : List AV) (R : List AV -> Mem -> Prop) : MQ Bool:=fun ok m =>
 if ok = true then EV cx elt loc m (KItem mem src ys R) NoX else (∀ d,src = some d -> m d = mem d) /\ R ys m
noncomputable abbrev KTgt (cx : Cx) (loc : Loc) (mem : Mem) (ifs : List Expr) (elt : Expr) (src : Option Addr) (ys : List AV) (R : List AV -> Mem -> Prop) : LQ:=fun loc' m'=>Loc.le loc loc' /\ TestsV cx ifs loc' m' (KTest cx loc' mem elt src ys R)
noncomputable def CompP (A : Around) (sc' : Scope) (target : Expr) (ifs : List Expr) (elt : Expr) (loc : Loc) (src : Option Addr) (Fin : List AV -> Mem -> Prop) : List AV -> List AV -> Mem -> Prop
 | [],ys,mem=>Fin ys mem
 | v :: xs,ys,mem=>∀ cx',cx'.env.scope = sc' -> cx'.A = A -> AsgV cx' target v loc mem (KTgt cx' loc mem ifs elt src ys (CompP A sc' target ifs elt loc src Fin xs))
theorem Yld.src {m : Mem} {k : IK} {xs : List AV} (y : Yld m k xs) {d : Addr} (h : ksrc k = some d) : m d ≠ none:=by
 cases k with
 | list l i=>cases h;refine eX1b y fun its h1 _=>?_;rw [h1];nofun
 | tup l i=>cases h;refine eX1b y fun its h1 _=>?_;rw [h1];nofun
 | range=>cases h
 | key d i n ep=>cases h;refine eX2b y fun b es h1 _=>?_;rw [h1];nofun
theorem Yld.put {m : Mem} {k : IK} {xs : List AV} (y : Yld m k xs) {D : Addr} {ao : AO} (h : m D = none) : Yld (mset m D ao) k xs :=
 y.keep fun d hd=>mset_ne fun q=>y.src hd (q ▸ h)
theorem loop_tests {prog : Program} {w : World} {A : Around} {R : Result -> Shared -> Prop} {s : Shared} {elt target iter : Expr} {ifs : List Expr} {scope : Scope} {pos : Pos} {it acc : Value} {env : Env} (I : Nat -> Shared -> Prop)
  (turn : ∀ n s,I n s -> wpAny (model prog w) A (pyNext it) (fun r s₁=>match r with
   | none=>R (.ok .next) s₁
   | some v=>wpAny (model prog w) A (letOwnedTupleGo target it v) (fun _ s₀=>wpAny (model prog w) A (assign target env v) (fun _ s₂ =>
     wpAny (model prog w) A (forIn ifs true fun c r=>if r = true then do let ok <- isTrue c env (eval c env);pure (ForInStep.yield ok) else pure (ForInStep.yield r)) (fun ok s₃ =>
      if ok = true then wpAny (model prog w) A (eval elt env) (fun x s₄ =>
       wpAny (model prog w) A (call (.builtin "list.append") [acc,x]) (fun _ s₅=>∃ m,m < n /\ I m s₅) (notedBy (model prog w) A env fun e s'=>R (.error e) s') s₄) (notedBy (model prog w) A env fun e s'=>R (.error e) s') s₃
      else ∃ m,m < n /\ I m s₃) (notedBy (model prog w) A env fun e s'=>R (.error e) s') s₂) (notedBy (model prog w) A env fun e s'=>R (.error e) s') s₀) (notedBy (model prog w) A env fun e s'=>R (.error e) s') s₁) (notedBy (model prog w) A env fun e s'=>R (.error e) s') s)
  (n : Nat) (h : I n s) : codeAny (model prog w) A (.compLoop (.ListComp elt [⟨target,iter,ifs,0⟩] scope pos) 0 it acc env) R s:=by
 refine codeAny_loop rfl I (fun n s hI=>?_) n h
 show wpAny _ A ((compTurn (.ListComp elt [⟨target,iter,ifs,0⟩] scope pos) 0 it acc env).onRaise (fun x=>do noteFrame x env;theTreesLotGoes x)) _ _ s
 refine wpAny_noted ?_
 rw [compTurn_list]
 refine wpAny_bind (wpAny_standAt (wpAny_bind (wpAny_mono (turn n s hI) (fun r s₁ h₁=>?_) fun _ _ h'=>h')))
 cases r with
 | none=>exact wpAny_pure h₁
 | some v =>
  refine wpAny_bind (wpAny_mono h₁ (fun _ s₀ h₁=>?_) fun _ _ h'=>h')
  refine wpAny_bind (wpAny_mono h₁ (fun _ s₂ h₂=>wpAny_bind (wpAny_mono h₂ (fun ok s₃ h₃=>?_) fun _ _ h'=>h')) fun _ _ h'=>h')
  cases ok with
  | false=>exact wpAny_pure (iX0b rfl h₃)
  | true =>
   exact wpAny_bind (wpAny_bind (wpAny_mono h₃ (fun x s₄ h₄=>wpAny_bind (wpAny_mono h₄ (fun _ s₅ h₅=>wpAny_pure (wpAny_pure (iX0b rfl h₅))) fun _ _ h'=>h')) fun _ _ h'=>h'))
noncomputable def CInv (c : Cx) (sc' : Scope) (target : Expr) (ifs : List Expr) (elt : Expr) (locC : Loc) (Fin : List AV -> Mem -> Prop) (it D : Addr) (n : Nat) (s' : Shared) : Prop:=∃ xs k ys m',n = xs.length /\ InSt c locC (mset (mset m' it (.iter k)) D (.list ys)) s' /\ m' it = none /\ m' D = none /\ Yld m' k xs /\ ys.length + xs.length <= 1000000 /\
 CompP c.A sc' target ifs elt locC (ksrc k) Fin xs ys m'
theorem compLoop1 {c : Cx} {locC : Loc} {m : Mem} {s : Shared} {sc' scope : Scope} {target iter elt : Expr} {ifs : List Expr} {pos : Pos} {it D : Addr} {k : IK} {xs : List AV} {R : Result -> Shared -> Prop} {Fin : List AV -> Mem -> Prop}
  (sceq : c.env.scope = sc') (hne : D ≠ it) (I3 : InSt c locC (mset (mset m it (.iter k)) D (.list [])) s) (hn : m it = none) (hD : m D = none) (y : Yld m k xs) (hx : xs.length <= 1000000) (hP : CompP c.A sc' target ifs elt locC (ksrc k) Fin xs [] m)
  (hR : ∀ ys m' s',InSt c locC (mset m' D (.list ys)) s' -> m' D = none -> Fin ys m' -> R (.ok .next) s') :
  codeAny (model pw c.w) c.A (.compLoop (.ListComp elt [⟨target,iter,ifs,0⟩] scope pos) 0 (.ref it) (.ref D) c.env) R s:=by
 refine loop_tests (CInv c sc' target ifs elt locC Fin it D) ?_ xs.length (iX4g xs k ([]) m rfl I3 hn hD y ((List.length_nil (α:=AV)).symm ▸ (Nat.zero_add _).symm ▸ hx) hP)
 clear hP y hx hn hD I3
 intro n s' z;refine eX4g z ?_;clear z;intro xs k ys m' e I4 hn hDn y hlen hP;subst e
 rw [mset_comm (Ne.symm hne)] at I4
 have hMi : mset m' D (.list ys) it = none:=(mset_ne (Ne.symm hne)).trans hn
 cases xs with
 | nil=>exact nextEnd I4 hMi (y.put hDn) fun s₄ I5=>hR ys m' s₄ I5 hDn hP
 | cons v xs =>
  refine nextItem I4 hMi (y.put hDn) fun u k' s₄ hu I5 y' hk=>?_
  refine letGo I5 (mset_same _ it _) ?_
  have fi:=I5.free (mset_same _ it _)
  refine eX1c (I5.hide (mset_same _ it _)) fun oi hoi ri I6=>?_
  rw [mdel_mset hMi] at I6
  have fD:=I6.free (mset_same _ D _)
  refine eX1c (I6.hide (mset_same _ D _)) fun oD hoD rD I7=>?_
  rw [mdel_mset hDn] at I7
  have back : ∀ {l' m3 s6},InSt (hideCx (hideCx c it oi) D oD) l' m3 s6 -> Loc.le locC l' ->
    InSt c locC (mset (mset m3 it (.iter k')) D (.list ys)) s6 /\ m3 it = none /\ m3 D = none:=fun {l' m3 s6} J hle=>by
   refine eX0c (InSt.unhide I6.ok fD J) fun J1 g1 n1=>?_
   refine eX0c (InSt.unhide I5.ok fi J1) fun J2 g2 n2=>?_
   exact (iX0c ((((J2.track fi g2 ri).track (I4.free ((mset_ne hne).trans (mset_same ..))) g1 rD)).wloc hle) n2 n1)
  have hyl : ∀ m3 : Mem,(∀ d,ksrc k = some d -> m3 d = m' d) -> Yld m3 k' xs:=fun m3 h1=>y'.keep fun d hd =>
   (mset_ne fun q=>(y.src (hk ▸ hd)) (q ▸ hDn)).trans (h1 d (hk ▸ hd)).symm |>.symm
  have hl : ys.length + xs.length + 1 <= 1000000:=hlen
  refine wpAny_mono (hP (hideCx (hideCx c it oi) D oD) sceq rfl u s₄ _ hu I7) (fun _ s₅ z=>eX2c z fun l5 m5 I8 hle h5=>wpAny_mono (h5 s₅ _ I8) (fun ok s₆ z=>eX1b z fun m6 I9 h6=>?_) fun _ _ x=>x) fun _ _ x=>x
  clear hP I7 I8
  cases ok with
  | false =>
   refine eX0c (back I9 hle) fun J j1 j2=>?_
   refine eX0b h6 fun h6a h6b=>?_
   exact (iX1b xs.length (Nat.lt_succ_self _) (iX4g xs k' ys m6 rfl J j1 j2 (hyl _ h6a) (Nat.le_of_succ_le hl) (hk.symm ▸ h6b)) : ∃ m,m < xs.length + 1 /\ CInv c sc' target ifs elt locC Fin it D m s₆)
  | true =>
   refine wpAny_mono (TV.any (cx:=hideCx (hideCx c it oi) D oD) h6 I9) (fun x s₇ z=>eX1c z fun m7 I10 hsrc h7=>?_) fun _ _ x=>x
   refine eX0c (back I10 hle) fun J j1 j2=>?_
   refine eX1b (J.get (mset_same _ D _)) fun oD' hoD' z=>?_;refine eX2b z fun its n e hits=>?_;subst e
   have hz : its.size = ys.length:=by rw [<- hits];simp
   refine wpAny_list_append_plain (iX1a n hoD') (fun h' z hs'=>eX1a z fun n' hl'=>?_) (by rw [sizeLine_eq];lia)
   have J2:=J.upd (t:=s₇.toks) (mset_same _ D _) hs'.extBut hl' (ao':=.list (ys ++ [er x])) (iX2b (its.push x) n' rfl (by rw [<- hits];simp))
   rw [mset_mset] at J2
   exact iX1b xs.length (Nat.lt_succ_self _) (iX4g xs k' (ys ++ [er x]) m7 rfl J2 j1 j2 (hyl _ hsrc) (by rw [List.length_append];show ys.length + 1 + _ <= _;lia) (hk.symm ▸ h7))
theorem compLoop {cx : Cx} {loc locC : Loc} {m : Mem} {s : Shared} {scope sc : Scope} {target iter elt : Expr} {ifs : List Expr} {pos : Pos} {it : Addr} {k : IK} {xs : List AV} {E : Value -> Shared -> Prop} {cl : List (Str × Addr)} {R : Value -> Addr -> Result -> Shared -> Prop} {Fin : List AV -> Mem -> Prop}
  (I : InSt cx loc (mset m it (.iter k)) s) (hn : m it = none) (y : Yld m k xs) (hx : xs.length <= 1000000)
  (hs : cx.env.scope = sc) (hc : compOk scope sc = true) (hl : Loc.le locC loc) (ho : locOk scope locC = true)
  (hcl1 : ∀ y c,cl.lookup y = some c -> (y,.free) ∈ scope.names /\ cx.env.cells.lookup y = some c) (hcl2 : ∀ y,(y,.free) ∈ scope.names -> cl.lookup y = cx.env.cells.lookup y)
  (hP : CompP cx.A (relabel scope (scEnv sc)) target ifs elt locC (ksrc k) Fin xs [] m)
  (hR : ∀ D C ys m' s',Free cx C -> mset m' D (.list ys) C = none -> (∃ mm,s'.heap.Ns C mm) -> InSt cx loc (mset m' D (.list ys)) s' -> m' D = none -> Fin ys m' -> R (.ref D) C (.ok .next) s') :
  wpAny (model pw cx.w) cx.A (newList []) (fun acc s₃=>wpAny (model pw cx.w) cx.A (newFunctionEnv scope cx.env.globals cl [] cx.env.qual none .none (some cx.env)) (fun cenv s₄ =>
   codeAny (model pw cx.w) cx.A (.compStart (.ListComp elt [⟨target,iter,ifs,0⟩] scope pos) 0 (.ref it) acc { cenv with scope:=relabel scope cx.env }) (R acc cenv.locals) s₄) E s₃) E s:=by
 refine eX0d (compOk_elim hc) fun k1 k2 _ _=>?_
 refine wpAny_newObj_type ?_
 have ID : InSt cx loc (mset (mset m it (.iter k)) s.heap.objs.size (.list [])) { s with heap:=s.heap.push (listOf #[] 0) }:=I.push (t:=s.toks) (ao:=.list []) (o:=listOf #[] 0) (iX2b (#[]) 0 rfl rfl)
 have hDn : mset m it (.iter k) s.heap.objs.size = none:=I.fresh.1
 have hne : s.heap.objs.size ≠ it:=(neN hDn (mset_same ..)).symm
 have hD : m s.heap.objs.size = none:=(mset_ne hne).symm.trans hDn
 refine wpAny_newFunctionEnv (fun x hx=>k2 x hx) (fun y hy=>nomatch hy) (fun h₁ hns hsb=>?_) k1
 generalize s.heap.objs.size = D at *
 have IC:=ID.enterC (t:=s.toks + ([] : List (Str × Value)).length) hs hc hl ho hcl1 hcl2 hns hsb
 have fC:=ID.fresh
 have Z:=compFroz cx (s.heap.push (listOf #[] 0)) (compEnvC scope cl (s.heap.push (listOf #[] 0)).objs.size cx.env)
 have fin : ∀ ys m' s',InSt (compCx cx (s.heap.push (listOf #[] 0)) (compEnvC scope cl (s.heap.push (listOf #[] 0)).objs.size cx.env)) locC (mset m' D (.list ys)) s' -> m' D = none -> Fin ys m' -> R (.ref D) (s.heap.push (listOf #[] 0)).objs.size (.ok .next) s' :=
  fun ys m' s' J h1 h2=>hR D _ ys m' s' ⟨fC.2.1,fC.2.2.1,fC.2.2.2⟩ J.fm.ownM (J.fm.ns.imp fun _ h=>h.1) (Z.thaw ID J) h1 h2
 have sceq : relabel scope cx.env = relabel scope (scEnv sc):=hs ▸ rfl
 have loop:=fun s₃ (I3 : InSt (compCx cx (s.heap.push (listOf #[] 0)) (compEnvC scope cl (s.heap.push (listOf #[] 0)).objs.size cx.env)) locC (mset (mset m it (.iter k)) D (.list [])) s₃) =>
  compLoop1 (iter:=iter) (scope:=scope) (pos:=pos) (R:=R (.ref D) (s.heap.push (listOf #[] 0)).objs.size) sceq hne I3 hn hD y hx hP fin
 exact codeAny_compStart_list (loop _ IC) (iterSelf (cx:=compCx cx (s.heap.push (listOf #[] 0)) (compEnvC scope cl (s.heap.push (listOf #[] 0)).objs.size cx.env)) IC ((mset_ne (Ne.symm hne)).trans (mset_same m it _)) (loop _ IC))
theorem mdel_none {m : Mem} {a : Addr} (h : m a = none) : mdel m a = m:=by
 funext b;unfold mdel
 by_cases q : b = a
 ·subst q;simp [h]
 ·simp [q]
section
variable {cx : Cx} {X : MQ Addr} {loc : Loc} {mem : Mem} {Q : MQ AV} {pos : Pos} {scope sc : Scope} {target iter elt : Expr} {ifs : List Expr}
theorem InSt.closure {s : Shared} (I : InSt cx loc mem s) (hs : cx.env.scope = sc) (hc : compOk scope sc = true) :
  ∃ cl,closureFor scope cx.env = pure cl /\ (∀ y c,cl.lookup y = some c -> (y,.free) ∈ scope.names /\ cx.env.cells.lookup y = some c) /\ ∀ y,(y,.free) ∈ scope.names -> cl.lookup y = cx.env.cells.lookup y:=by
 refine eX0d (compOk_elim hc) fun _ _ _ k4=>?_
 subst hs
 exact closureFor_of fun p hp hf=>I.ok.cellsAll p.1 ((k4 p hp).resolve_left fun h=>h hf)
theorem compKind (hc : compOk scope sc = true) : scope.kind = .function /\ ∀ x ∈ scope.names,x.2 = .local -> scope.names.lookup x.1 = some .local:=by
 refine eX0d (compOk_elim hc) fun k1 k2 k3 k4=>?_
 exact (iX0b k1 (fun x hx hl=>(k3 x hx).resolve_left fun h=>h hl))
noncomputable abbrev KFin (F : AV -> Mem -> Prop) : List AV -> Mem -> Prop:=fun ys m=>∀ D,m D = none -> F (.ref D) (mset m D (.list ys))
noncomputable abbrev KComp (cx : Cx) (scope sc : Scope) (target : Expr) (ifs : List Expr) (elt : Expr) (locC : Loc) (F : MQ AV) : MQ AV:=fun a m=>∃ xs,xs.length <= 1000000 /\ ItV cx a m xs fun src m'=>CompP cx.A (relabel scope (scEnv sc)) target ifs elt locC src (KFin F) xs [] m'
theorem EV.comp (locC : Loc) (hs : cx.env.scope = sc)
  (h : EV cx iter loc mem (KComp cx scope sc target ifs elt locC Q) X)
  (hl : Loc.le locC loc) (hc : compOk scope sc = true:=by rfl) (ho : locOk scope locC = true:=by rfl)
  (hf : ∀ x,foldedSetIterable iter cx.env x = pure x:=by intro _;rfl) :
  EV cx (.ListComp elt [⟨target,iter,ifs,0⟩] scope pos) loc mem Q X:=fun s I=>by
 refine eX1c (I.closure hs hc) fun cl c1 c2 c3=>?_
 rw [eval_ListComp]
 refine wpAny_comprehension_free (use:=none) rfl hf c1 (compKind hc).1 (compKind hc).2 (TV.go h I fun v s₁ m1 I1 z=>eX1b z fun xs hx hi=>wpAny_mono (hi loc v s₁ _ rfl I1) (fun r s₂ zq62=>eX3e zq62 fun it k m2 e I2 hn y hP=>?_) fun _ _ x=>x)
 subst e
 refine compLoop I2 hn y hx hs hc hl ho c2 c3 hP (fun D C ys m' s' fC hC zq63 I3 hD hF=>eX1a zq63 fun mm hns=>?_)
 refine (iX1b mm hns (fun h' hsb=>?_))
 refine eX3c hns fun oC es n hoC hd _=>?_
 exact (iX1b _ (I3.loseObj (t:=s'.toks) fC hC hoC (fun vs q=>by rw [hd] at q;cases q) hsb.extBut) (hF D hD))
theorem S1.assignComp {x : Str} {p : Pos} {Qn : LQ} {Qr : MQ AV} {spos : Pos} (locC : Loc) (hs : cx.env.scope = sc)
  (h : EV cx iter loc mem (KComp cx scope sc target ifs elt locC (KAsg loc x Qn)) X)
  (hl : Loc.le locC loc) (hc : compOk scope sc = true:=by rfl) (ho : locOk scope locC = true:=by rfl) (hk : storable sc x = true:=by rfl)
  (hw : swapsWith (.ListComp elt [⟨target,iter,ifs,0⟩] scope pos) (some (.Name x p)) spos.line (scEnv sc) = pure true:=by rfl) (hwr : cx.wr = true:=by assumption)
  (hf : ∀ x,foldedSetIterable iter cx.env x = pure x:=by intro _;rfl) :
  S1 cx (.Assign [.Name x p] (.ListComp elt [⟨target,iter,ifs,0⟩] scope pos) spos) loc mem Qn Qr X:=fun s I=>by
 refine eX1c (I.closure hs hc) fun cl c1 c2 c3=>?_
 rw [exec_Assign_Name_used _ _ _ _ (by subst hs;exact hw)]
 refine wpAny_bind (wpAny_standAt (wpAny_bind ?_))
 show wpAny _ _ (do let _ <- comprehension (.ListComp elt [⟨target,iter,ifs,0⟩] scope pos) scope cx.env _ (newList []) false (eval iter cx.env) (some (PySem.assign (.Name x p) cx.env))) _ _ s
 refine wpAny_bind (wpAny_mono (wpAny_comprehension_free (Q:=fun _ s'=>SPost cx Qn Qr .next s') rfl hf c1 (compKind hc).1 (compKind hc).2 (TV.go h I fun v s₁ m1 I1 z=>eX1b z fun xs hx hi=>wpAny_mono (hi loc v s₁ _ rfl I1) (fun r s₂ zq65=>eX3e zq65 fun it k m2 e I2 hn y hP=>?_) fun _ _ x=>x))
  (fun _ s' hq=>wpAny_pure (wpAny_pure hq)) fun _ _ e=>e)
 subst e
 refine compLoop I2 hn y hx hs hc hl ho c2 c3 hP (fun D C ys m' s' fC hC zq66 I3 hD hF=>eX1a zq66 fun mm hns=>?_)
 have hns':=hns
 refine eX3c hns' fun oC es n hoC hd hr=>?_
 have hT : ∀ vs,oC.data = .fields vs -> ¬ Tabby oC vs:=fun vs q=>by rw [hd] at q;cases q
 have I4:=I3.hideObj fC hoC hT
 rw [mdel_none hC] at I4
 refine wpAny_assign_Name (InSt.store (cx:=hideCx cx C oC) I4 hs hwr hk fun s₂ I5=>?_)
 refine eX0c (InSt.unhide I3.ok fC I5) fun I6 hoC' hC'=>?_
 exact (iX1b mm (⟨oC,es,n,hoC',hd,hr⟩) (fun h' hsb=>(iX2b _ _ (I6.loseObj (t:=s₂.toks) fC hC' hoC' hT hsb.extBut) (hF D hD))))
end
theorem CompP.same {A : Around} {sc' : Scope} {x : Str} {p : Pos} {ifs : List Expr} {elt : Expr} {loc : Loc} {src : Option Addr} {Fin : List AV -> Mem -> Prop} {mem : Mem} (t : AV -> Bool) (f : AV -> AV)
  (hk : sc'.names.lookup x = some .local) (hx : loc.lookup x = none) (xs ys : List AV) (h1 : ∀ v ∈ xs,∀ cx',cx'.env.scope = sc' -> cx'.A = A -> TestsV cx' ifs ((x,v) :: loc) mem (fun ok m=>ok = t v /\ m = mem))
  (h2 : ∀ v ∈ xs,t v = true -> ∀ cx',cx'.env.scope = sc' -> cx'.A = A -> EV cx' elt ((x,v) :: loc) mem (fun y m=>y = f v /\ m = mem) NoX)
  (hF : Fin (ys ++ (xs.filter t).map f) mem) : CompP A sc' (.Name x p) ifs elt loc src Fin xs ys mem:=by
 induction xs generalizing ys with
 | nil=>exact (List.append_nil ys ▸ hF : Fin ys mem)
 | cons v xs ih =>
  intro cx' hs hA
  replace ih:=fun ys=>ih ys (fun u hu=>h1 u (.tail _ hu)) (fun u hu=>h2 u (.tail _ hu))
  refine AsgV.name hs (iX0b (Loc.le_skip hx) (fun s E I=>wpAny_mono (h1 v (.head _) cx' hs hA s E I) (fun ok s' zq67=>eX1c zq67 fun m I' e1 e2=>(iX1b m I' ?_)) fun _ _ x=>x)) hk
  rw [e1,e2]
  unfold KTest
  split
  ·rename_i q
   refine (h2 v (.head _) q cx' hs hA).mono (fun y m e=>?_) fun _ _ x=>x
   refine eX0b e fun e3 e4=>?_
   rw [e3,e4]
   refine (iX0b (fun _ _=>rfl) (ih _ ?_))
   rw [List.filter_cons,if_pos q] at hF
   simpa using hF
  ·rename_i q
   refine (iX0b (fun _ _=>rfl) (ih _ ?_))
   rw [List.filter_cons,if_neg q] at hF
   exact hF
section
variable {cx : Cx} {X : MQ Addr} {loc : Loc} {mem : Mem} {Q : MQ AV} {pos : Pos}
theorem InSt.list {s : Shared} {l : Addr} {xs : List AV} (I : InSt cx loc mem s) (e : mem l = some (.list xs)) : ∃ its n,s.heap.get? l = some (listOf its n) /\ its.toList.map er = xs /\ its.size = xs.length:=by
 obtain ⟨o,ho,its,n,ee147,r⟩:=I.get e;subst ee147
 exact (iX2c its n ho r (by rw [<- r];simp))
theorem InSt.tuple {s : Shared} {l : Addr} {xs : List AV} (I : InSt cx loc mem s) (e : mem l = some (.tuple xs)) : ∃ its n,s.heap.get? l = some (tupOf its n) /\ its.toList.map er = xs /\ its.size = xs.length:=by
 obtain ⟨o,ho,its,n,ee148,r⟩:=I.get e;subst ee148
 exact (iX2c its n ho r (by rw [<- r];simp))
noncomputable abbrev KList (Q : MQ AV) : MQ (List AV):=fun as m=>as.length <= 16777216 /\ ∀ l,m l = none -> Q (.ref l) (mset m l (.list as))
noncomputable abbrev KTup (Q : MQ AV) : MQ (List AV):=fun as m=>as.length <= 16777216 /\ ∀ l,m l = none -> Q (.ref l) (mset m l (.tuple as))
theorem EV.list {es : List Expr} (h : EVs cx es pos loc mem (KList Q) X) : EV cx (.List es pos) loc mem Q X:=fun s I =>
 List_ (wpAny_mono (h s I) (fun vs s₁ zq68=>eX1c zq68 fun m I1 hl h1=>wpAny_newObj_type (iX1b _ (I1.push (t:=s₁.toks) (ao:=.list (vs.map er)) (iX2b vs.toArray 0 rfl (by simp))) (h1 _ I1.fresh.1)) (by show vs.toArray.size <= sizeLine;rw [sizeLine_eq];simpa using hl)) fun _ _ x=>x)
theorem EV.tuple {es : List Expr} {k : Nat} (h : EVs cx es pos loc mem (KTup Q) X) : EV cx (.Tuple es k pos) loc mem Q X:=fun s I =>
 Tuple_ (wpAny_mono (h s I) (fun vs s₁ zq69=>eX1c zq69 fun m I1 hl h1=>wpAny_newObj_type (iX1b _ (I1.push (t:=s₁.toks) (ao:=.tuple (vs.map er)) (iX2b vs.toArray 0 rfl (by simp))) (h1 _ I1.fresh.1)) (by show vs.toArray.size <= sizeLine;rw [sizeLine_eq];simpa using hl)) fun _ _ x=>x)
end
theorem ints_of : ∀ {vs : List Value} {ns : List Int},vs.map er = ns.map .int -> IntsAre vs ns
 | [],[],_=>.nil
 | [],_ :: _,h=>by cases h
 | _ :: _,[],h=>by cases h
 | v :: vs,n :: ns,h=>by
  simp only [List.map_cons,List.cons.injEq] at h
  refine eX1a (er_int h.1) fun t ee149=>?_;subst ee149
  exact .cons n t (ints_of h.2)
theorem er_ints {vs : List Value} {ns : List Int} (x : IntsAre vs ns) : vs.map er = ns.map .int:=by
 induction x with
 | nil=>rfl
 | cons n t r ih=>exact congrArg (AV.int n :: ·) ih
section
variable {cx : Cx} {X : MQ Addr} {mem : Mem} {Q : MQ AV} {l : Addr} {ns : List Int}
theorem CallV.listLen {xs : List AV} (e : mem l = some (.list xs)) (hn : xs.length <= 1000000) (h : Q (.int xs.length) mem) : CallV cx (.builtin "len") [.ref l] mem Q X:=fun loc vs hvs s I=>by
 refine eX1b (one_of hvs) fun x ee150 h1=>?_;subst ee150
 cases er_ref h1
 refine eX2c (I.list e) fun its n ho r hs=>?_
 exact call_len_list ⟨_,ho,rfl,n,rfl⟩ (by lia) (iX1b mem I.toks (by rw [<- hs] at h;exact h))
theorem ints_items {its : Array Value} (hi : IntsAre its.toList ns) : ∃ xs : Array (Int × Tok),its = intItems xs /\ xs.toList.map (·.1) = ns:=by
 refine eX1a ((show AllInts its by simpa using hi.allInts).items) fun xs hx=>?_
 refine (iX1b xs hx ?_)
 have h1:=hi.numsOf
 rw [hx,nums_intItems] at h1
 exact h1
theorem CallV.sum (e : mem l = some (.list (ns.map .int))) (h : Q (.int ns.sum) mem) : CallV cx (.builtin "sum") [.ref l] mem Q X:=fun loc vs hvs s I=>by
 refine eX1b (one_of hvs) fun x ee152 h1=>?_;subst ee152
 cases er_ref h1
 refine eX2c (I.list e) fun its n ho r _=>?_
 refine eX1b (ints_items (ints_of r)) fun xs ee153 hx=>?_;subst ee153
 refine sum_intListG I.ok.handled ⟨_,ho,rfl,n,rfl⟩ fun h' tk t' hk=>(iX1b mem (I.grow hk) ?_)
 show Q (.int _) mem
 rw [preSum_eq,hx,List.take_of_length_le (by rw [<- hx];simp)]
 exact h
theorem CallV.max (e : mem l = some (.list (ns.map .int))) (hne : ns ≠ []) (h : ∀ M ∈ ns,(∀ a ∈ ns,a <= M) -> Q (.int M) mem) : CallV cx (.builtin "max") [.ref l] mem Q X:=fun loc vs hvs s I=>by
 refine eX1b (one_of hvs) fun x ee154 h1=>?_;subst ee154
 cases er_ref h1
 refine eX2c (I.list e) fun its n ho r _=>?_
 refine eX1b (ints_items (ints_of r)) fun xs ee155 hx=>?_;subst ee155
 have hsz : 0 < xs.size:=by
  have : ns.length = xs.size:=by rw [<- hx];simp
  have:=List.length_pos_iff.mpr hne
  lia
 refine max_intList I.ok.handled ⟨_,ho,rfl,n,rfl⟩ hsz fun v h' tk hv hk=>(iX1b mem (I.grow hk) ?_)
 refine eX1a (intItems_at hv) fun t ee156=>?_;subst ee156
 refine eX0b (argBest_gt (numAt xs) (xs.size - 1)) fun h1 h2=>?_
 refine h _ ?_ fun a ha=>?_
 ·rw [<- hx,numAt_eq];exact getD_mem (by rw [List.length_map,Array.length_toList];lia)
 ·rw [<- hx] at ha
  refine eX1b (mem_getD ha) fun j hj ee157=>?_;subst ee157
  rw [List.length_map,Array.length_toList] at hj
  rw [<- numAt_eq];exact h2 j (by lia)
end
section
variable {cx : Cx} {X : MQ Addr} {mem : Mem} {Q : MQ AV} {l : Addr}
theorem CallV.abs {a : Int} (h : Q (.int (if a < 0 then -a else a)) mem) : CallV cx (.builtin "abs") [.int a] mem Q X:=fun loc vs hvs s I=>by
 refine eX1b (one_of hvs) fun x ee158 h1=>?_;subst ee158
 refine eX1a (er_int h1) fun t ee159=>?_;subst ee159
 exact call_abs_int fun u tk=>(iX1b mem I.toks h)
theorem CallV.max2 {a b : Int} (h : Q (.int (if b > a then b else a)) mem) : CallV cx (.builtin "max") [.int a,.int b] mem Q X:=fun loc vs hvs s I=>by
 refine eX2c (two_of hvs) fun x y ee160 h1 h2=>?_;subst ee160
 refine eX1a (er_int h1) fun t ee161=>?_;subst ee161
 refine eX1a (er_int h2) fun u ee162=>?_;subst ee162
 refine max_two_ints I.ok.handled fun h' tk hk=>(iX1b mem (I.grow hk) ?_)
 split at h <;> rename_i q
 ·rw [if_pos q];exact h
 ·rw [if_neg q];exact h
theorem CallV.min2 {a b : Int} (h : Q (.int (if b < a then b else a)) mem) : CallV cx (.builtin "min") [.int a,.int b] mem Q X:=fun loc vs hvs s I=>by
 refine eX2c (two_of hvs) fun x y ee163 h1 h2=>?_;subst ee163
 refine eX1a (er_int h1) fun t ee164=>?_;subst ee164
 refine eX1a (er_int h2) fun u ee165=>?_;subst ee165
 refine min_two_ints I.ok.handled fun h' tk hk=>(iX1b mem (I.grow hk) ?_)
 split at h <;> rename_i q
 ·rw [if_pos q];exact h
 ·rw [if_neg q];exact h
theorem CallV.range1 {n : Int} (h : ∀ r,mem r = none -> Q (.ref r) (mset mem r (.range 0 n 1))) : CallV cx (.type "range") [.int n] mem Q X:=fun loc vs hvs s I=>by
 refine eX1b (one_of hvs) fun x ee166 h1=>?_;subst ee166
 refine eX1a (er_int h1) fun t ee167=>?_;subst ee167
 exact call_range_1 (iX1b _ (I.push (t:=s.toks + 1 + 1) (ao:=.range 0 n 1) ⟨s.toks,t,s.toks + 1,rfl⟩) (h _ I.fresh.1))
theorem CallV.range3 {a b c : Int} (hc : c ≠ 0) (hp : Builtin.divisionGoesByPylong (b - a) c = false) (h : ∀ r,mem r = none -> Q (.ref r) (mset mem r (.range a b c))) : CallV cx (.type "range") [.int a,.int b,.int c] mem Q X:=fun loc vs hvs s I=>by
 refine eX3d (three_of hvs) fun x y z ee168 h1 h2 h3=>?_;subst ee168
 refine eX1a (er_int h1) fun t ee169=>?_;subst ee169
 refine eX1a (er_int h2) fun u ee170=>?_;subst ee170
 refine eX1a (er_int h3) fun v ee171=>?_;subst ee171
 exact call_range_3 hc (iX1b _ (I.push (t:=s.toks) (ao:=.range a b c) ⟨t,u,v,rfl⟩) (h _ I.fresh.1)) (.inl hp)
theorem CallV.tupleOf {xs : List AV} (e : mem l = some (.list xs)) (hn : xs.length <= 1000000) (h : ∀ t,mem t = none -> Q (.ref t) (mset mem t (.tuple xs))) : CallV cx (.type "tuple") [.ref l] mem Q X:=fun loc vs hvs s I=>by
 refine eX1b (one_of hvs) fun x ee172 h1=>?_;subst ee172
 cases er_ref h1
 refine eX2c (I.list e) fun its n ho r hs=>?_
 refine call_tuple_list ⟨_,ho,rfl,n,rfl⟩ (fun h' hk=>?_) (by rw [sizeLine_eq];lia)
 have I2 : InSt cx loc mem { s with heap:=h' }:=I.grow (t:=s.toks) hk
 exact (iX1b _ (I2.push (t:=s.toks) (ao:=.tuple xs) (iX2b its 0 rfl r)) (h _ I2.fresh.1))
theorem InSt.made {cx : Cx} {loc : Loc} {mem : Mem} {s : Shared} (I : InSt cx loc mem s) {h' : Heap} {o : Obj} {ao : AO} {t : Nat} (hk : ∀ b o,s.heap.get? b = some o -> h'.get? b = some o) (ho : h'.get? s.heap.objs.size = some o) (r : Rep cx.w o ao) :
  InSt cx loc (mset mem s.heap.objs.size ao) { s with heap:=h',toks:=t } :=
 have f:=I.fresh
 (I.grow (t:=t) hk).track ⟨f.2.1,Ne.symm (Ne.symm f.2.2.1),f.2.2.2⟩ ho r
theorem CallV.listOf {xs : List AV} (e : mem l = some (.list xs)) (hn : xs.length <= 1000000) (h : ∀ t,mem t = none -> Q (.ref t) (mset mem t (.list xs))) : CallV cx (.type "list") [.ref l] mem Q X:=fun loc vs hvs s I=>by
 refine eX1b (one_of hvs) fun x ee173 h1=>?_;subst ee173
 cases er_ref h1
 refine eX2c (I.list e) fun its n ho r hs=>?_
 exact call_list_seq l (.inl rfl) ho rfl rfl (fun h' c' hk hS=>(iX1b _ (I.made (t:=s.toks) (ao:=.list xs) hk hS (iX2b its c' rfl r)) (h _ I.fresh.1))) (by rw [sizeLine_eq];lia)
theorem MethV.listM {name : Str} {id : String} {k : Value -> AV -> Mem -> Prop} {xs : List AV} (slot : Slot "list" name id) (hty : typeOf (.builtin id) = pure (.type "method_descriptor")) (e : mem l = some (.list xs)) (h : k (.builtin id) (.ref l) mem) : MethV cx name (.ref l) mem k X :=
 .blt F.plainAttrs_list slot hty (fun loc v s hv I=>by
  cases er_ref hv
  refine eX2c (I.list e) fun its n ho _ _=>?_
  exact (iX0b (iX1b _ ho rfl) (fun a q=>by cases q;exact (iX1b _ ho rfl)))) h
theorem MethV.append {k : Value -> AV -> Mem -> Prop} {xs : List AV} (e : mem l = some (.list xs)) (h : k (.builtin "list.append") (.ref l) mem) : MethV cx "append" (.ref l) mem k X:=.listM F.slot_list_append F.type_list_append e h
theorem MethV.extend {k : Value -> AV -> Mem -> Prop} {xs : List AV} (e : mem l = some (.list xs)) (h : k (.builtin "list.extend") (.ref l) mem) : MethV cx "extend" (.ref l) mem k X:=.listM F.slot_list_extend F.type_list_extend e h
theorem CallV.append {xs : List AV} {v : AV} (e : mem l = some (.list xs)) (hn : xs.length <= 1000000) (h : Q .none (mset mem l (.list (xs ++ [v])))) : CallV cx (.builtin "list.append") [.ref l,v] mem Q X:=fun loc vs hvs s I=>by
 refine eX2c (two_of hvs) fun x y ee174 h1 ee175=>?_;subst ee174;subst ee175
 cases er_ref h1
 refine eX2c (I.list e) fun its n ho r hs=>?_
 exact wpAny_list_append_plain (iX1a n ho) (fun h' zq70 hs'=>eX1a zq70 fun n' hl'=>(iX1b _ (I.upd (t:=s.toks) (ao':=.list (xs ++ [er y])) e hs'.extBut hl' (iX2b (its.push y) n' rfl (by rw [<- r];simp))) h)) (by rw [sizeLine_eq];lia)
theorem CallV.extend {l2 : Addr} {xs ys : List AV} (e : mem l = some (.list xs)) (e2 : mem l2 = some (.list ys)) (hn : xs.length + ys.length <= 1000000) (h : Q .none (mset mem l (.list (xs ++ ys)))) : CallV cx (.builtin "list.extend") [.ref l,.ref l2] mem Q X:=fun loc vs hvs s I=>by
 refine eX2c (two_of hvs) fun x y ee176 h1 h2=>?_;subst ee176
 cases er_ref h1
 cases er_ref h2
 refine eX2c (I.list e) fun its n ho r hs=>?_
 refine eX2c (I.list e2) fun its2 n2 ho2 r2 hs2=>?_
 have hz : its.size + its2.size <= sizeLine:=by rw [sizeLine_eq];lia
 refine call_meets PySem.F.slot_list_extend (iX1b _ ho rfl) PySem.F.entry_list_extend (PySem.F.args_list_extend_2 _ _) (AutoSeq1.list_extend_list_list_0 l its n l2 its2 n2 (extend_door hz) (by lia) (by lia)) (iX0c ho ho2 ?_)
 exact (iX1b _ (I.upd (t:=s.toks) (ao':=.list (xs ++ ys)) e (Heap.SameBut.update ..).extBut (Heap.get?_update_self _ ho (by rfl)) (iX2b (its ++ its2) _ rfl (by rw [<- r,<- r2];simp))) h)
end
section
variable {cx : Cx} {X : MQ Addr} {mem : Mem} {Q : MQ AV} {l : Addr} {xs : List AV} {i : Int} {v : AV}
theorem SubV.list (e : mem l = some (.list xs)) (h0 : 0 <= i) (h1 : i < 1000000) (hx : xs[i.toNat]? = some v) (h : Q v mem) : SubV cx (.ref l) (.int i) mem Q X:=fun loc o j s h1 h2 I=>by
 cases er_ref h1
 refine eX1a (er_int h2) fun t ee177=>?_;subst ee177
 refine eX2c (I.list e) fun its n ho r hs=>?_
 refine eX1b (map_get r hx) fun u hu ee178=>?_;subst ee178
 exact (iX2c ("list") _ F.slot_list_getitem.lookup (iX1b _ ho rfl) (wpAny_getItem_list ⟨_,ho,rfl,n,rfl⟩ h0 (by lia) hu (iX1b mem I h)))
theorem SubV.last (e : mem l = some (.list (xs ++ [v]))) (hn : xs.length <= 1000000) (h : Q v mem) : SubV cx (.ref l) (.int (-1)) mem Q X:=fun loc o j s h1 h2 I=>by
 cases er_ref h1
 refine eX1a (er_int h2) fun t ee179=>?_;subst ee179
 refine eX2c (I.list e) fun its n ho r hs=>?_
 rw [List.length_append,List.length_singleton] at hs
 have hx : (xs ++ [v])[((-1 : Int) + its.size).toNat]? = some v:=by
  have : ((-1 : Int) + its.size).toNat = xs.length:=by lia
  rw [this];simp
 refine eX1b (map_get r hx) fun u hu ee180=>?_;subst ee180
 exact (iX2c ("list") _ F.slot_list_getitem.lookup (iX1b _ ho rfl) (wpAny_getItem_list_neg ⟨_,ho,rfl,n,rfl⟩ (by lia) (by lia) (by lia) hu (iX1b mem I h)))
theorem setItem_at {A : Around} {w : World} {E : Value -> Shared -> Prop} {s : Shared} {items : Array Value} {n : Nat} {k : Int} {t : Tok} {u : Value} {Q : Unit -> Shared -> Prop} (ho : s.heap.get? l = some (listOf items n)) (h0 : 0 <= k) (hn : k < items.size) (hf : k < 2 ^ 63)
  (hQ : Q () { s with heap:=s.heap.update l (Obj.mapSeq (·.setIfInBounds k.toNat u)) }) : wpAny (model pw w) A (setItem (.ref l) (.int k t) u) Q E s:=by
 have hT : s.TypeIs (.ref l) "list":=(iX1b _ ho rfl)
 unfold setItem
 try with_reducible refine wpAny_holding ?_
 first | refine wpAny_bind (wpAny_pure ?_) | skip
 refine wpAny_bind (wpAny_sequenceKey hT (by decide) ?_)
 refine wpAny_bind (wpAny_callSpecial?_slot (name:=Str.ofString "__setitem__") hT slot_list_setitem (wpAny_call_entry slot_list_setitem hT entry_list_setitem ?_ (args_list_setitem _ _ _)))
 show wpAny _ _ (Builtin.List.listSubscript? (.int k t) >>= _) _ _ s
 refine wpAny_bind (wpAny_listSubscript_int (fitsIndex_of h0 hf) ?_)
 clear hf
 refine eX1a (Int.eq_ofNat_of_zero_le h0) fun j ee181=>?_;subst ee181
 have hj : j < items.size:=by lia
 show wpAny _ _ ((seqItemAt l j >>= fun r=>pure (r.map (j,·))) >>= _) _ _ s
 refine wpAny_bind (wpAny_bind (wpAny_seqItemAt ho rfl (wpAny_pure ?_)))
 rw [Array.getElem?_eq_getElem hj]
 show wpAny _ _ (setSeqItemAt l j u >>= _) _ _ s
 refine wpAny_bind (wpAny_setSeqItemAt ho rfl ?_)
 first
  | exact wpAny_bind (wpAny_pure (wpAny_pure ⟨.none,rfl,wpAny_pure hQ⟩))
  | exact wpAny_pure ⟨.none,rfl,wpAny_pure hQ⟩
theorem SetV.list {Q : Mem -> Prop} {j : Nat} (e : mem l = some (.list xs)) (h1 : j < xs.length) (hn : xs.length <= 1000000) (h : Q (mset mem l (.list (xs.set j v)))) : SetV cx (.ref l) (.int (j : Int)) v mem Q X:=fun loc o j' u h1 h2 h3 s I=>by
 cases er_ref h1
 refine eX1a (er_int h2) fun t ee182=>?_;subst ee182
 subst h3
 refine eX2c (I.list e) fun its n ho r hs=>?_
 exact setItem_at ho (Int.natCast_nonneg j) (by lia) (by lia) (iX1b _ (I.upd (t:=s.toks) (ao':=.list (xs.set j (er u))) e (Heap.SameBut.update ..).extBut (Heap.get?_update_self _ ho (by rfl)) (iX2b (its.setIfInBounds j u) _ rfl (by rw [<- r];simp [List.map_set]))) h)
end
inductive Dat (m : Mem) : AV -> PyData -> Prop
 | none : Dat m .none .none
 | bool (b) : Dat m (.bool b) (.bool b)
 | int (i) : Dat m (.int i) (.int i)
 | str (x) : Dat m (.str x) (.str x)
 | list {l xs ds} : m l = some (.list xs) -> All2 (Dat m) xs ds -> Dat m (.ref l) (.list ds)
 | tuple {l xs ds} : m l = some (.tuple xs) -> All2 (Dat m) xs ds -> Dat m (.ref l) (.tuple ds)
theorem Dat.keep {m m' : Mem} (h : ∀ a xs,(m a = some (.list xs) -> m' a = some (.list xs)) /\ (m a = some (.tuple xs) -> m' a = some (.tuple xs))) {a : AV} {d : PyData} (x : Dat m a d) : Dat m' a d :=
 Dat.rec (motive_1:=fun a d _=>Dat m' a d) (motive_2:=fun xs ds _=>All2 (Dat m') xs ds) .none .bool .int .str (fun e _ ih=>.list ((h _ _).1 e) ih) (fun e _ ih=>.tuple ((h _ _).2 e) ih) .nil (fun _ _ h1 h2=>.cons h1 h2) x
section
variable {cx : Cx} {loc : Loc} {mem : Mem} {s : Shared}
theorem InSt.reads (I : InSt cx loc mem s) {a : AV} {d : PyData} (x : Dat mem a d) : ∀ v,er v = a -> ∃ as,Reads s.heap v d as:=by
 refine Dat.rec (motive_1:=fun a d _=>∀ v,er v = a -> ∃ as,Reads s.heap v d as) (motive_2:=fun xs ds _=>∀ vs : List Value,vs.map er = xs -> ∃ as,ReadsAll s.heap vs ds as) ?_ ?_ ?_ ?_ ?_ ?_ ?_ ?_ x
 ·intro v h;rw [er_none h];exact (iX1a _ .none)
 ·intro b v h;rw [er_bool h];exact (iX1a _ (.bool b))
 ·intro i v h;refine eX1a (er_int h) fun t ee183=>?_;rw [ee183];exact (iX1a _ (.int i t))
 ·intro x v h;refine eX1a (er_str h) fun t ee184=>?_;rw [ee184];exact (iX1a _ (.str x t))
 ·intro l xs ds e _ ih v h
  rw [er_ref h]
  refine eX2c (I.list e) fun its n ho r' _=>?_
  refine eX1a (ih its.toList r') fun as q=>?_
  exact (iX1a _ (reads_list_at ho rfl rfl q))
 ·intro l xs ds e _ ih v h
  rw [er_ref h]
  refine eX2c (I.tuple e) fun its n ho r' _=>?_
  refine eX1a (ih its.toList r') fun as q=>?_
  exact (iX1a _ (reads_tuple_at ho rfl rfl q))
 ·intro vs h;rw [List.map_eq_nil_iff.mp h];exact (iX1a _ .nil)
 ·intro a b l m _ _ ih1 ih2 vs h
  refine eX2c (oneS h) fun v vs' e h1 h2=>?_
  refine eX1a (ih1 v h1) fun as q=>?_
  refine eX1a (ih2 vs' h2) fun bs q'=>?_
  exact e ▸ (iX1a _ (.cons q q'))
end
section
variable {cx : Cx} {X : MQ Addr} {mem : Mem} {Q : MQ AV} {a b : AV} {d e : PyData}
theorem Op2.eqD (h1 : Dat mem a d) (h2 : Dat mem b e) (s1 : SeqAt.shaped d = true) (s2 : SeqAt.shaped e = true) (h : Q (.bool (PyData.eqv d e)) mem) : Op2 cx (compareOp .Eq) a b mem Q X:=fun loc v1 v2 e1 e2 s I=>by
 refine eX1a (I.reads h1 v1 e1) fun as r1=>?_
 refine eX1a (I.reads h2 v2 e2) fun bs r2=>?_
 exact eq_dataH r1 r2 s1 s2 (by have:=I.ok.units;show _ < 9900;lia) (iX1b mem I h)
theorem Op2.neD (h1 : Dat mem a d) (h2 : Dat mem b e) (s1 : SeqAt.shaped d = true) (s2 : SeqAt.shaped e = true) (h : Q (.bool (!PyData.eqv d e)) mem) : Op2 cx (compareOp .NotEq) a b mem Q X:=fun loc v1 v2 e1 e2 s I=>by
 refine eX1a (I.reads h1 v1 e1) fun as r1=>?_
 refine eX1a (I.reads h2 v2 e2) fun bs r2=>?_
 exact ne_dataH r1 r2 s1 s2 (by have:=I.ok.units;show _ < 9900;lia) (iX1b mem I h)
theorem Op2.neNil {l l2 : Addr} {xs : List AV} (e1 : mem l = some (.list xs)) (e2 : mem l2 = some (.list [])) (h : Q (.bool (!xs.isEmpty)) mem) : Op2 cx (compareOp .NotEq) (.ref l) (.ref l2) mem Q X:=fun loc v1 v2 h1 h2 s I=>by
 cases er_ref h1
 cases er_ref h2
 refine eX2c (I.list e1) fun its n ho r hs=>?_
 refine eX2c (I.list e2) fun its2 n2 ho2 r2 hs2=>?_
 have hu : cx.A.units < cLine:=by have:=I.ok.units;show _ < 9900;lia
 show wpAny _ _ (richCompare .NotEq _ _) _ _ _
 cases xs with
 | nil =>
  have hz : its.size = its2.size:=by rw [hs,hs2]
  refine SeqAt.RcNeAt.lists (e:=fun _=>true) ⟨_,ho,rfl,n,rfl⟩ ⟨_,ho2,rfl,n2,rfl⟩ hz hu (fun j h1=>?_) _ _ _ _ (iX1b mem I ?_)
  ·rw [hs] at h1;exact absurd h1 (Nat.not_lt_zero _)
  ·rw [hs];exact h
 | cons x r' =>
  refine SeqAt.RcNeAt.lists_lengths ⟨_,ho,rfl,n,rfl⟩ ⟨_,ho2,rfl,n2,rfl⟩ ?_ hu _ _ _ _ (iX1b mem I h)
  rw [hs,hs2];rfl
noncomputable def isNoneB : AV -> Bool
 | .none=>true
 | _=>false
theorem none_beq {v : Value} : (v == Value.none) = isNoneB (er v):=by cases v <;> rfl
theorem Op2.isNone (hb : ∀ i,a ≠ .builtin i) (h : Q (.bool (isNoneB a)) mem) : Op2 cx (compareOp .Is) a .none mem Q X:=fun loc v1 v2 h1 h2 s I=>by
 cases er_none h2
 subst h1
 refine wpAny_is_plain (by cases v1 <;> first | rfl | exact absurd rfl (hb _)) (iX1b mem I ?_)
 rw [none_beq];exact h
theorem Op2.isNotNone (hb : ∀ i,a ≠ .builtin i) (h : Q (.bool (!isNoneB a)) mem) : Op2 cx (compareOp .IsNot) a .none mem Q X:=fun loc v1 v2 h1 h2 s I=>by
 cases er_none h2
 subst h1
 refine wpAny_isNot_plain (by cases v1 <;> first | rfl | exact absurd rfl (hb _)) (iX1b mem I ?_)
 rw [none_beq];exact h
theorem Op2.inInts {l : Addr} {ns : List Int} {k : Int} (e1 : mem l = some (.list (ns.map .int))) (h : Q (.bool (ns.any (· == k))) mem) : Op2 cx (compareOp .In) (.int k) (.ref l) mem Q X:=fun loc v1 v2 h1 h2 s I=>by
 cases er_ref h2
 refine eX1a (er_int h1) fun t ee185=>?_;subst ee185
 refine eX2c (I.list e1) fun its n ho r hs=>?_
 exact in_list_ints (vs:=its.toList) (by rw [Array.toArray_toList];exact ⟨_,ho,rfl,n,rfl⟩) (ints_of r) (iX1b mem I h)
theorem Op2.addList {l l2 : Addr} {xs ys : List AV} (e1 : mem l = some (.list xs)) (e2 : mem l2 = some (.list ys)) (hn : xs.length + ys.length <= 1000000) (h : ∀ q,mem q = none -> Q (.ref q) (mset mem q (.list (xs ++ ys)))) : Op2 cx (binaryOp .Add) (.ref l) (.ref l2) mem Q X:=fun loc v1 v2 h1 h2 s I=>by
 cases er_ref h1
 cases er_ref h2
 refine eX2c (I.list e1) fun its n ho r hs=>?_
 refine eX2c (I.list e2) fun its2 n2 ho2 r2 hs2=>?_
 exact P.add_list ho ho2 (iX1b _ (I.push (t:=s.toks) (ao:=.list (xs ++ ys)) (iX2b (its ++ its2) 0 rfl (by rw [<- r,<- r2];simp))) (h _ I.fresh.1)) (by rw [sizeLine_eq];lia)
theorem Op2.addTuple {l l2 : Addr} {xs ys : List AV} (e1 : mem l = some (.tuple xs)) (e2 : mem l2 = some (.tuple ys)) (hx : xs ≠ []) (hy : ys ≠ []) (hn : xs.length + ys.length <= 1000000) (h : ∀ q,mem q = none -> Q (.ref q) (mset mem q (.tuple (xs ++ ys)))) : Op2 cx (binaryOp .Add) (.ref l) (.ref l2) mem Q X:=fun loc v1 v2 h1 h2 s I=>by
 cases er_ref h1
 cases er_ref h2
 refine eX2c (I.tuple e1) fun its n ho r hs=>?_
 refine eX2c (I.tuple e2) fun its2 n2 ho2 r2 hs2=>?_
 have l1:=List.length_pos_iff.mpr hx
 have l2:=List.length_pos_iff.mpr hy
 exact P.add_tuple ho ho2 (by rw [Array.isEmpty_iff_size_eq_zero];lia) (by rw [Array.isEmpty_iff_size_eq_zero];lia) (iX1b _ (I.push (t:=s.toks) (ao:=.tuple (xs ++ ys)) (iX2b (its ++ its2) 0 rfl (by rw [<- r,<- r2];simp))) (h _ I.fresh.1)) (by rw [sizeLine_eq];lia)
noncomputable def numStr (i : Int) : Str:=Str.ofString (toString i)
theorem CallV.strOf {i : Int} (hi : i.natAbs.log2 < 1920) (h : Q (.str (numStr i)) mem) : CallV cx (.type "str") [.int i] mem Q X:=fun loc vs hvs s I=>by
 refine eX1b (one_of hvs) fun x ee186 h1=>?_;subst ee186
 refine eX1a (er_int h1) fun t ee187=>?_;subst ee187
 exact P.str_of_int hi (iX1b mem I.toks h)
theorem CallV.intOf {i : Int} (h0 : 0 <= i) (h1 : i < 10 ^ 10) (h : Q (.int i) mem) : CallV cx (.type "int") [.str (numStr i)] mem Q X:=fun loc vs hvs s I=>by
 refine eX1b (one_of hvs) fun x ee188 h2=>?_;subst ee188
 refine eX1a (er_str h2) fun t ee189=>?_;subst ee189
 exact KIN.call_num h0 h1 (iX1b mem I.toks h)
theorem numStr_inj {i j : Int} (hi : 0 <= i) (hi2 : i < 10 ^ 10) (hj : 0 <= j) (hj2 : j < 10 ^ 10) (h : numStr i = numStr j) : i = j:=by
 have h1:=KIN.num_reads hi hi2
 have h2:=KIN.num_reads hj hj2
 unfold numStr at h
 rw [h,h2] at h1
 exact (Option.some.inj h1).symm
end
theorem slot_bytes_join : Slot "bytes" "join" "bytes.join" :=
 .of (owner:="bytes") (n:="join") (by rw [typeLookup_type,builtinLookup_eq_fast];kernel_rfl) (by decide +kernel) (by decide +kernel) (by decide +kernel)
  (by first | exact .inl (by decide +kernel) | exact .inr (by decide +kernel)) (by rw [isSubtype_type];kernel_rfl)
theorem type_bytes_join : typeOf (.builtin "bytes.join") = pure (.type "method_descriptor"):=by show builtinType _ = _;rw [builtinType_eq_fast];kernel_rfl
theorem entry_bytes_join : entryFor table "bytes.join" = some Builtin.«bytes.join»:=entryFor_of_tree (by kernel_rfl)
theorem args_bytes_join (a b : Value) : argsOk "bytes.join" ⟨[a,b],[]⟩:=by
 unfold argsOk;rw [signature?_of (id:="bytes.join") (n:=['n','i','o','j']) (o:=['s','e','t','y','b']) (by kernel_rfl) FB.owner_bytes];kernel_rfl
section
variable {cx : Cx} {X : MQ Addr} {mem : Mem} {Q : MQ AV} {l : Addr} {bs cs : List UInt8}
theorem CallV.bytesInts {ns : List Int} (e : mem l = some (.list (ns.map .int))) (hr : ∀ n ∈ ns,0 <= n /\ n < 256) (hn : ns.length <= 1000000) (h : Q (.bytes (ns.map fun n=>n.toNat.toUInt8)) mem) : CallV cx (.type "bytes") [.ref l] mem Q X:=fun loc vs hvs s I=>by
 refine eX1b (one_of hvs) fun x ee190 h1=>?_;subst ee190
 cases er_ref h1
 refine eX2c (I.list e) fun its n ho r hs=>?_
 rw [List.length_map] at hs
 exact call_bytes_ints (vs:=its.toList) (by rw [Array.toArray_toList];exact ⟨_,ho,rfl,n,rfl⟩) (ints_of r) hr (by rw [sizeLine_eq];simp;lia) I.ok.handled fun h' t k hk=>(iX1b mem (I.grow hk) (by show Q (.bytes _) _;simpa [byteArr] using h))
theorem CallV.bytesLen (hn : bs.length <= 1000000) (h : Q (.int bs.length) mem) : CallV cx (.builtin "len") [.bytes bs] mem Q X:=fun loc vs hvs s I=>by
 refine eX1b (one_of hvs) fun x ee191 h1=>?_;subst ee191
 refine eX1a (er_bytes h1) fun t ee192=>?_;subst ee192
 exact len_bytes (by simp;lia) (iX1b mem I.toks h)
theorem Op2.addBytes (hn : bs.length + cs.length <= 1000000) (h : Q (.bytes (bs ++ cs)) mem) : Op2 cx (binaryOp .Add) (.bytes bs) (.bytes cs) mem Q X:=fun loc v1 v2 h1 h2 s I=>by
 refine eX1a (er_bytes h1) fun t ee193=>?_;subst ee193
 refine eX1a (er_bytes h2) fun u ee194=>?_;subst ee194
 exact KBy.add_bytes (by simp;lia) fun t' k=>(iX1b mem I.toks (by show Q (.bytes _) _;simpa using h))
theorem SubV.bytes {i : Int} {c : UInt8} (hn : bs.length <= 1000000) (h0 : 0 <= i) (hc : bs[i.toNat]? = some c) (h : Q (.int c.toNat) mem) : SubV cx (.bytes bs) (.int i) mem Q X:=fun loc o j s h1 h2 I=>by
 refine eX1a (er_bytes h1) fun t ee195=>?_;subst ee195
 refine eX1a (er_int h2) fun u ee196=>?_;subst ee196
 have hi : i.toNat < bs.length:=by
  rcases Nat.lt_or_ge i.toNat bs.length with h | h
  ·exact h
  ·rw [List.getElem?_eq_none h] at hc;cases hc
 refine (iX2c ("bytes") _ FB.slot_bytes_getitem.lookup (typeIs_bytes _ _ _) (getItem_bytes (by lia) h0 (by lia) (iX1b mem I.toks ?_)))
 rw [List.getD_eq_getElem?_getD,hc];exact h
theorem slice_eq (bs : List UInt8) (i j : Nat) : (bs.drop (min i bs.length)).take (min j bs.length - min i bs.length) = (bs.drop i).take (j - i):=by
 by_cases hi : i <= bs.length
 ·rw [Nat.min_eq_left hi]
  by_cases hj : j <= bs.length
  ·rw [Nat.min_eq_left hj]
  ·rw [Nat.min_eq_right (by lia),List.take_of_length_le (by rw [List.length_drop];lia),List.take_of_length_le (by rw [List.length_drop];lia)]
 ·rw [List.drop_of_length_le (i:=min i bs.length) (by lia),List.drop_of_length_le (i:=i) (by lia)];simp
noncomputable abbrev KSl3 (o a : AV) (Q : MQ AV) : MQ AV:=fun b m=>∃ bs,∃ i j : Nat,o = .bytes bs /\ a = .int i /\ b = .int j /\ bs.length <= 1000000 /\ Q (.bytes ((bs.drop i).take (j - i))) m
noncomputable abbrev KSl2 (cx : Cx) (X : MQ Addr) (loc : Loc) (o : AV) (hi : Expr) (Q : MQ AV) : MQ AV:=fun a m=>EV cx hi loc m (KSl3 o a Q) X
noncomputable abbrev KSl (cx : Cx) (X : MQ Addr) (loc : Loc) (lo : Expr) (hi : Expr) (Q : MQ AV) : MQ AV:=fun o m=>EV cx lo loc m (KSl2 cx X loc o hi Q) X
theorem EV.sliceB {cx : Cx} {X : MQ Addr} {loc : Loc} {mem : Mem} {Q : MQ AV} {value lo hi : Expr} {p pos : Pos}
  (h : EV cx value loc mem (KSl cx X loc lo hi Q) X)
  (ht : ∀ o r,letTemporaryGo value o r = pure ():=by intro _ _;rfl) : EV cx (.Subscript value (.Slice (some lo) (some hi) none p) pos) loc mem Q X:=fun s I =>
 wpAny_Subscript_Slice FB.slot_bytes_getitem.lookup (TV.go h I fun o s₁ m1 I1 h1=>wpAny_Slice (by
  rw [evalPart_some]
  refine wpAny_mono (h1 s₁ I1) (fun a s₂ zq72=>eX1b zq72 fun m2 I2 h2=>?_) fun _ _ x=>x
  rw [evalPart_some]
  refine wpAny_mono (h2 s₂ I2) (fun b s₃ z=>eX1b z fun m3 I3 z=>eX3e z fun bs i j e1 e2 e3 hn hq=>?_) fun _ _ x=>x
  rw [evalPart_none]
  refine wpAny_pure ?_
  refine eX1a (er_bytes e1) fun t ee197=>?_;subst ee197
  refine eX1a (er_int e2) fun u ee198=>?_;subst ee198
  refine eX1a (er_int e3) fun v ee199=>?_;subst ee199
  refine (iX0b (typeIs_bytes _ _ _) (getItem_meets (typeIs_bytes _ _ _) (by decide) FB.slot_bytes_getitem FB.entry_bytes_getitem (FB.args_bytes_getitem_2 _ _) (KBc.meets_slice2 bs.toArray t _ (.int _ _) (.int _ _)) (iX0c (Heap.IsSliceOf.new _ _ _ _) ?_ (fun t' k=>?_))))
  ·exact Nat.le_trans (KBc.size_picked_le _ _ _) (by rw [sizeLine_eq];simp;lia)
  ·refine (iX1b m3 (I3.grow (t:=k) fun b o e=>Heap.get?_push_of_some _ e) ?_)
   show Q (.bytes (KBy.picked bs.toArray (some (i : Int)) (some (j : Int))).toList) m3
   rw [KBc.picked_eq]
   simp only [Option.elim_some,clipAt_nat]
   have:=slice_eq bs i j
   simp only [List.size_toArray] at this ⊢
   rw [this];exact hq)) ht
end
section
variable {w : World} {A : Around} {E : Value -> Shared -> Prop} {s : Shared}
theorem bytes_bytes_lookup : typeLookup (.type "bytes") "__bytes__" = pure (some (.builtin "bytes.__bytes__")):=by rw [typeLookup_type,builtinLookup_eq_fast];kernel_rfl
theorem int_no_bytes : typeLookup (.type "int") "__bytes__" = pure none:=by rw [typeLookup_type,builtinLookup_eq_fast];kernel_rfl
theorem new_start {a : Value} {Q : Value -> Shared -> Prop} (h : wpAny (model pw w) A.in1 (Builtin.«bytes.__new__» ⟨[.type "bytes",a],[]⟩)
   (fun fin s'=>match fin with | .done f=>wants Q E (.ok f) s' | .again c'=>c'.quiet = true /\ codeAny (model pw w) A c' (wants Q E) s') (fun e s'=>wants Q E (.error e) s') s) :
  codeAny (model pw w) A (.call (.builtin "bytes.__new__") ⟨[.type "bytes",a],[]⟩) (wants Q E) s:=by
 refine codeAny_of_tree ?_
 show wpAny _ A.in1 (do checkBuiltinCall "bytes.__new__" ⟨[.type "bytes",a],[]⟩;again (.builtin "bytes.__new__" ⟨[.type "bytes",a],[]⟩)) _ _ s
 refine wpAny_bind (wpAny_of_eq (F.bm_newCall _) (wpAny_pure (iX0b (plainId_quiet F.bm_plain _) (codeAny_builtin F.bm_entry ?_))))
 rw [Around.under_plainId F.bm_plain _]
 exact h
theorem new_copy {bs : Array UInt8} {t : Tok} {Q : Value -> Shared -> Prop} (h : Q (.bytes bs t) s) :
  codeAny (model pw w) A (.call (.builtin "bytes.__new__") ⟨[.type "bytes",.bytes bs t],[]⟩) (wants Q E) s:=by
 refine new_start ?_
 unfold Builtin.«bytes.__new__»
 refine wpAny_bind (wpAny_of_eq (a:=true) rfl ?_)
 refine bm_if_false rfl ?_
 refine wpAny_bind (wpAny_of_eq F.bm_sub ?_)
 refine bm_if_false rfl ?_
 refine wpAny_bind (wpAny_of_eq (F.bm_bind _) ?_)
 refine wpAny_bind (wpAny_of_eq (a:=()) rfl ?_)
 refine wpAny_bind (wpAny_of_eq (a:=()) rfl ?_)
 refine bm_if_false rfl ?_
 refine wpAny_bind (wpAny_specialOf (typeIs_bytes _ bs t) bytes_bytes_lookup ?_)
 dsimp only
 refine wpAny_bind (wpAny_rule ?_)
 refine wpAny_bind (wpAny_typeOf (typeIs_bytes _ bs t) ?_)
 refine bm_if_true (by decide +kernel) ?_
 exact wpAny_pure h
theorem slot_int_index_lookup : typeLookup (.type "int") "__index__" = pure (some (.builtin "int.__index__")):=F.slot_int_index.lookup
theorem new_zero {n : Int} {t : Tok} {Q : Value -> Shared -> Prop} (h0 : 0 <= n) (hn : n <= 1000000) (h : ∀ t',Q (.bytes (Array.replicate n.toNat 0) t') { s with toks:=s.toks + 1 }) :
  codeAny (model pw w) A (.call (.builtin "bytes.__new__") ⟨[.type "bytes",.int n t],[]⟩) (wants Q E) s:=by
 refine new_start ?_
 unfold Builtin.«bytes.__new__»
 refine wpAny_bind (wpAny_of_eq (a:=true) rfl ?_)
 refine bm_if_false rfl ?_
 refine wpAny_bind (wpAny_of_eq F.bm_sub ?_)
 refine bm_if_false rfl ?_
 refine wpAny_bind (wpAny_of_eq (F.bm_bind _) ?_)
 refine wpAny_bind (wpAny_of_eq (a:=()) rfl ?_)
 refine wpAny_bind (wpAny_of_eq (a:=()) rfl ?_)
 refine bm_if_false rfl ?_
 refine wpAny_bind (wpAny_specialOf (typeIs_int _ _ t) int_no_bytes ?_)
 dsimp only
 refine wpAny_bind (wpAny_of_eq (a:=false) rfl ?_)
 refine bm_if_false rfl ?_
 refine wpAny_bind (wpAny_specialOf (typeIs_int _ _ t) slot_int_index_lookup ?_)
 refine bm_if_false rfl ?_
 refine wpAny_bind (wpAny_of_eq (a:=.ok n) rfl ?_)
 dsimp only
 have f1 : (!Builtin.Bytes.fitsIndex n) = false:=by simp only [Builtin.Bytes.fitsIndex,Bool.not_eq_false',Bool.and_eq_true,decide_eq_true_eq];lia
 refine bm_if_false f1 ?_
 refine wpAny_ite_split (fun q=>absurd q (by lia)) fun _=>?_
 refine wpAny_ite_split (fun q=>absurd q (by lia)) fun _=>?_
 refine wpAny_ite_split (fun q=>absurd q (by simp only [Builtin.Bytes.tooLong,decide_eq_true_eq,sizeLine_eq];lia)) fun _=>?_
 refine wpAny_bind (wpAny_rule ?_)
 refine wpAny_bind (wpAny_mkBytes ?_ (by rw [sizeLine_eq];simp;lia))
 exact wpAny_pure (h _)
theorem callBytes {a : Value} {Q : Value -> Shared -> Prop} (h : codeAny (model pw w) A.in1 (.call (.builtin "bytes.__new__") ⟨[.type "bytes",a],[]⟩) (wants (fun obj s₁=>s₁.TypeIs obj "bytes" /\ Q obj s₁) E) s) : wpAny (model pw w) A (call (.type "bytes") [a]) Q E s:=by
 refine callType_codes (Q₁:=fun obj s₁=>s₁.TypeIs obj "bytes" /\ Q obj s₁) F.bm_called (F.bm_typeCall _) F.entry_object_init h fun obj s₁ h₁=>?_
 exact (iX0c h₁.1 (F.args_object_init_2 obj _) (object_init_meets F.bm_called.init.lookup F.bm_called.made (by decide) pw w A.in1 _ s₁ (iX0c h₁.1 rfl h₁.2)))
end
section
variable {cx : Cx} {X : MQ Addr} {mem : Mem} {Q : MQ AV} {bs : List UInt8}
theorem CallV.bytesCopy (h : Q (.bytes bs) mem) : CallV cx (.type "bytes") [.bytes bs] mem Q X:=fun loc vs hvs s I=>by
 refine eX1b (one_of hvs) fun x ee200 h1=>?_;subst ee200
 refine eX1a (er_bytes h1) fun t ee201=>?_;subst ee201
 exact callBytes (new_copy ⟨typeIs_bytes _ _ _,mem,I,by show Q (.bytes _) _;simpa using h⟩)
theorem CallV.bytesZero {n : Int} (h0 : 0 <= n) (hn : n <= 1000000) (h : Q (.bytes (List.replicate n.toNat 0)) mem) : CallV cx (.type "bytes") [.int n] mem Q X:=fun loc vs hvs s I=>by
 refine eX1b (one_of hvs) fun x ee202 h1=>?_;subst ee202
 refine eX1a (er_int h1) fun t ee203=>?_;subst ee203
 exact callBytes (new_zero h0 hn fun t'=>⟨typeIs_bytes _ _ _,mem,I.toks,by show Q (.bytes _) _;simpa using h⟩)
end
theorem forL {w : World} {A : Around} {E : Value -> Shared -> Prop} {s : Shared} {σ : Type} {f : Nat -> σ -> Sem (ForInStep σ)} (inv : Nat -> σ -> Prop) {Q : σ -> Shared -> Prop} (n : Nat) (step : ∀ i st,i < n -> inv i st -> wpAny (model pw w) A (f i st) (fun r s'=>s' = s /\ ∃ st',r = .yield st' /\ inv (i + 1) st') E s)
  (hQ : ∀ st,inv n st -> Q st s) : ∀ (k i : Nat) (st : σ),i + k = n -> inv i st -> wpAny (model pw w) A (forIn (List.range' i k) st f) Q E s
 | 0,i,st,h,hi=>by
  simp only [Nat.add_zero] at h;subst h
  rw [List.range'_zero,List.forIn_nil];exact wpAny_pure (hQ st hi)
 | k + 1,i,st,h,hi=>by
  rw [List.range'_succ,List.forIn_cons]
  refine wpAny_bind (wpAny_mono (step i st (by omega) hi) (fun r s' ⟨e,st',e2,h2⟩=>?_) fun _ _ x=>x)
  subst e e2
  exact forL inv n step hQ k (i + 1) st' (by omega) h2
section
variable {w : World} {A : Around} {E : Value -> Shared -> Prop} {s : Shared}
theorem buf_one {bs : Array UInt8} {t : Tok} {id : String} {Q : Option (Array UInt8 × Option Value) -> Shared -> Prop} (h : Q (some (bs,none)) s) : wpAny (model pw w) A (Builtin.Bytes.takeBufferQuiet? id (.bytes bs t) 0) Q E s:=by
 unfold Builtin.Bytes.takeBufferQuiet? Builtin.Bytes.takeBuffer?
 refine wpAny_bind (wpAny_attempt ?_)
 rw [KBy.special_eq KBy.look_buffer]
 refine wpAny_bind (wpAny_pure ?_)
 refine wpAny_bind (wpAny_of_eq KBy.own_buffer ?_)
 refine wpAny_ite_split (fun q=>absurd q (by decide)) fun _=>?_
 refine wpAny_bind (wpAny_pure ?_)
 have f : ((0 : Int) == Builtin.Bytes.fullReadOnly) = false:=by decide
 rw [f,KBy.buffer_eq]
 refine wpAny_bind (wpAny_pure (wpAny_pure ?_))
 exact wpAny_pure h
theorem letGoAll {keep : List Value} {Q : Unit -> Shared -> Prop} (h : Q () s) : ∀ vs : List Value,wpAny (model pw w) A (Builtin.Bytes.joinLetGo (vs.map fun v=>(v,none)) keep) Q E s
 | []=>by
  show wpAny _ _ (Builtin.Bytes.joinLetGo [] keep) _ _ _
  unfold Builtin.Bytes.joinLetGo;exact wpAny_pure h
 | v :: vs=>by
  show wpAny _ _ (Builtin.Bytes.joinLetGo ((v,none) :: vs.map fun v=>(v,none)) keep) _ _ _
  unfold Builtin.Bytes.joinLetGo
  dsimp only
  exact wpAny_bind (wpAny_letGo (letGoAll h vs))
theorem join_tree {l : Addr} {its : Array Value} {n : Nat} {t : Tok} {sep : Array UInt8} {P : Fin -> Shared -> Prop} (ho : s.heap.get? l = some (listOf its n)) (bss : List (Array UInt8)) (hz : bss.length = its.size) (hv : ∀ (i : Nat) b,bss[i]? = some b -> ∃ t,its[i]? = some (Value.bytes b t)) (hl : its.size ≠ 1)
  (hsz : (bss.foldl (· + ·.size) (sep.size * (bss.length - 1))) <= 16777216) (hsz2 : (Builtin.Bytes.joined sep bss).size <= 16777216) (h : ∀ t',P (.done (.ret (.bytes (Builtin.Bytes.joined sep bss) t'))) { s with toks:=s.toks + 1 }) :
  wpAny (model pw w) A (Builtin.«bytes.join» ⟨[.bytes sep t,.ref l],[]⟩) P E s:=by
 have hT : s.TypeIs (.ref l) "list":=(iX1b _ ho rfl)
 unfold Builtin.«bytes.join» Builtin.Bytes.joinM
 refine wpAny_bind (wpAny_of_eq (a:=(Value.bytes sep t,Value.ref l)) rfl ?_)
 dsimp only
 refine wpAny_bind ?_
 unfold Builtin.Bytes.joinItems
 refine wpAny_bind (wpAny_typeOf hT ?_)
 refine wpAny_ite_split (fun _=>?_) fun q=>absurd rfl q
 refine wpAny_pure ?_
 refine wpAny_bind ?_
 unfold seqItems?
 refine wpAny_bind (wpAny_load ho ?_)
 refine wpAny_pure ?_
 dsimp only
 refine wpAny_ite_split (fun _=>?_) fun q=>absurd rfl q
 have main : ∀ (F : Sem PySem.Fin) (G : Value -> Sem PySem.Fin),wpAny (model pw w) A F P E s -> wpAny (model pw w) A (match its with | #[x]=>G x | _=>F) P E s:=fun F G h=>by
  rcases its with ⟨vs⟩
  match vs,hl with
  | [],_=>exact h
  | [x],q=>exact absurd rfl q
  | x :: y :: r,_=>exact h
 refine main _ _ ?_
 rw [Std.Legacy.Range.forIn_eq_forIn_range']
 refine wpAny_bind (forL (fun i st=>st.1.toList = bss.take i /\ st.2 = (its.toList.take i).map fun v=>(v,none)) its.size ?_ ?_ _ 0 _ (by simp [Std.Legacy.Range.size]) (iX0b rfl rfl))
 ·intro i st hi hinv
  refine eX0b hinv fun v1 v2=>?_
  refine wpAny_bind (wpAny_bind (wpAny_load ho (wpAny_pure ?_)))
  dsimp only
  have hb : bss[i]? = some bss[i]:=List.getElem?_eq_getElem (by omega)
  refine eX1a (hv i _ hb) fun u hu=>?_
  have hx : its.getD i Value.none = .bytes bss[i] u:=by rw [Array.getD_eq_getD_getElem?,hu];rfl
  rw [hx]
  have hno : (st.snd.any fun x=>x.fst.onHeap) = false:=by
   rw [v2,List.any_map,List.any_eq_false]
   intro v hm
   refine eX1a (List.mem_iff_getElem?.mp (List.mem_of_mem_take hm)) fun j hj=>?_
   have hj2 : j < its.size:=by
    rcases Nat.lt_or_ge j its.toList.length with h | h
    ·simpa using h
    ·rw [List.getElem?_eq_none h] at hj;cases hj
   refine eX1a (hv j _ (List.getElem?_eq_getElem (by omega : j < bss.length))) fun u' hu'=>?_
   rw [Array.getElem?_toList,hu'] at hj
   cases hj;simp [Value.onHeap]
  refine wpAny_ite_split (fun q=>absurd q (by rw [hno];decide)) fun _=>?_
  refine wpAny_bind (wpAny_holding (buf_one ?_))
  dsimp only
  refine wpAny_bind (wpAny_bind (wpAny_load ho (wpAny_pure ?_)))
  dsimp only
  refine wpAny_ite_split (fun q=>absurd q (by simp)) fun _=>?_
  refine wpAny_pure ⟨rfl,_,rfl,?_,?_⟩
  ·rw [Array.toList_push,v1,List.take_add_one,hb];rfl
  ·rw [v2,List.take_add_one,Array.getElem?_toList,hu];simp
 ·intro st hinv
  refine eX0b hinv fun v1 v2=>?_
  have e1 : st.1.toList = bss:=by rw [v1,List.take_of_length_le (by omega)]
  refine wpAny_bind (wpAny_of_eq (a:=sep) rfl ?_)
  have e2 : Array.foldl (fun x1 x2=>x1 + x2.size) (sep.size * (st.1.size - 1)) st.1 = bss.foldl (· + ·.size) (sep.size * (bss.length - 1)):=by
   have hs : st.1.size = bss.length:=by rw [<- e1];simp
   rw [<- Array.foldl_toList,e1,hs]
  refine wpAny_ite_split (fun q=>absurd q (by rw [e2];simp only [Builtin.Bytes.tooLong,decide_eq_true_eq,sizeLine_eq];omega)) fun _=>?_
  rw [e1]
  refine wpAny_bind (wpAny_mkBytes ?_ (by rw [sizeLine_eq];exact hsz2))
  refine wpAny_bind (wpAny_holding (wpAny_point ?_))
  rw [v2]
  refine wpAny_bind (letGoAll ?_ _)
  exact wpAny_pure (h _)
theorem join_one {l : Addr} {n : Nat} {t u : Tok} {b sep : Array UInt8} {P : Fin -> Shared -> Prop} (ho : s.heap.get? l = some (listOf #[Value.bytes b u] n)) (h : P (.done (.ret (.bytes b u))) s) :
  wpAny (model pw w) A (Builtin.«bytes.join» ⟨[.bytes sep t,.ref l],[]⟩) P E s:=by
 have hT : s.TypeIs (.ref l) "list":=(iX1b _ ho rfl)
 unfold Builtin.«bytes.join» Builtin.Bytes.joinM
 refine wpAny_bind (wpAny_of_eq (a:=(Value.bytes sep t,Value.ref l)) rfl ?_)
 dsimp only
 refine wpAny_bind ?_
 unfold Builtin.Bytes.joinItems
 refine wpAny_bind (wpAny_typeOf hT ?_)
 refine wpAny_ite_split (fun _=>?_) fun q=>absurd rfl q
 refine wpAny_pure ?_
 refine wpAny_bind ?_
 unfold seqItems?
 refine wpAny_bind (wpAny_load ho ?_)
 refine wpAny_pure ?_
 dsimp only
 refine wpAny_ite_split (fun _=>?_) fun q=>absurd rfl q
 refine wpAny_bind (wpAny_typeOf (typeIs_bytes _ b u) ?_)
 refine bm_if_true (by decide +kernel) ?_
 refine wpAny_bind (wpAny_rule ?_)
 exact wpAny_pure h
theorem joined_nil (parts : List (Array UInt8)) : (Builtin.Bytes.joined #[] parts).toList = (parts.map (·.toList)).flatten:=by
 unfold Builtin.Bytes.joined
 have g : ∀ (l : List (Array UInt8 × Nat)) (out : Array UInt8),(l.foldl (fun out (p : Array UInt8 × Nat)=>(if p.2 > 0 then out ++ #[] else out) ++ p.1) out).toList = out.toList ++ (l.map (·.1.toList)).flatten:=by
  intro l
  induction l with
  | nil=>intro out;simp
  | cons p r ih =>
   intro out
   rw [List.foldl_cons,ih]
   have : (if p.2 > 0 then out ++ #[] else out) = out:=by split <;> simp
   rw [this];simp
 have h2 : parts.zipIdx.map (·.1.toList) = parts.map (·.toList):=by
  have : parts.zipIdx.map (·.1.toList) = (parts.zipIdx.map Prod.fst).map (·.toList):=by rw [List.map_map];rfl
  rw [this,List.zipIdx_map_fst]
 rw [<- h2]
 simpa using g parts.zipIdx #[]
theorem sum_sizes : ∀ (parts : List (Array UInt8)) (k : Nat),parts.foldl (· + ·.size) k = k + (parts.map (·.toList)).flatten.length
 | [],k=>by simp
 | p :: r,k=>by
  rw [List.foldl_cons,sum_sizes r]
  simp;omega
end
section
variable {cx : Cx} {X : MQ Addr} {mem : Mem} {Q : MQ AV} {l : Addr}
theorem MethV.join {bs : List UInt8} {k : Value -> AV -> Mem -> Prop} (h : k (.builtin "bytes.join") (.bytes bs) mem) : MethV cx "join" (.bytes bs) mem k X :=
 .blt FB.plainAttrs_bytes slot_bytes_join type_bytes_join (fun loc v s hv I=>by
  refine eX1a (er_bytes hv) fun t ee204=>?_;subst ee204
  exact (iX0b (typeIs_bytes _ _ _) (fun a q=>by cases q))) h
theorem CallV.join {bss : List (List UInt8)} (e : mem l = some (.list (bss.map .bytes))) (hn : bss.flatten.length <= 1000000) (h : Q (.bytes bss.flatten) mem) : CallV cx (.builtin "bytes.join") [.bytes [],.ref l] mem Q X:=fun loc vs hvs s I=>by
 refine eX2c (two_of hvs) fun x y ee205 h1 h2=>?_;subst ee205
 refine eX1a (er_bytes h1) fun t ee206=>?_;subst ee206
 cases er_ref h2
 refine eX2c (I.list e) fun its n ho r hs=>?_
 rw [List.length_map] at hs
 refine wpAny_call_entry slot_bytes_join (typeIs_bytes _ _ _) entry_bytes_join ?_ (args_bytes_join _ _)
 have at_ : ∀ (i : Nat) b,bss[i]? = some b -> ∃ t,its[i]? = some (Value.bytes b.toArray t):=fun i b hb=>by
  refine eX1b (map_get r (i:=i) (v:=.bytes b) (by rw [List.getElem?_map,hb];rfl)) fun u hu hv=>?_
  refine eX1a (er_bytes hv) fun t ee207=>?_;subst ee207
  exact (iX1a t hu)
 by_cases hone : its.size = 1
 ·match bss,hs,at_,h with
  | [b],_,at_,h =>
   refine eX1a (at_ 0 b rfl) fun t ht=>?_
   have : its = #[Value.bytes b.toArray t]:=by
    apply Array.ext_getElem?
    intro i
    cases i with
    | zero=>rw [ht];rfl
    | succ i=>rw [Array.getElem?_eq_none (by omega)];rfl
   subst this
   exact join_one ho ⟨_,rfl,mem,I,by show Q (.bytes _) _;simpa using h⟩
  | [],hs,_,_=>rw [hone] at hs;cases hs
  | _ :: _ :: _,hs,_,_=>rw [hone] at hs;simp at hs
 ·have hf : ((bss.map List.toArray).map (·.toList)).flatten = bss.flatten:=by rw [List.map_map];simp [Function.comp_def]
  refine join_tree ho (bss.map List.toArray) (by rw [List.length_map,hs]) (fun i b hb=>?_) hone ?_ ?_ fun t'=>⟨_,rfl,mem,I.toks,?_⟩
  ·rw [List.getElem?_map] at hb
   refine eX1b (Option.map_eq_some_iff.mp hb) fun c hc ee208=>?_;subst ee208
   exact at_ i c hc
  ·rw [sum_sizes,hf]
   have : (#[] : Array UInt8).size = 0:=rfl
   simp only [List.size_toArray,List.length_nil,Nat.zero_mul,Nat.zero_add]
   omega
  ·have:=congrArg List.length (joined_nil (bss.map List.toArray))
   rw [hf,Array.length_toList] at this
   show (Builtin.Bytes.joined #[] _).size <= _
   omega
  ·show Q (.bytes (Builtin.Bytes.joined #[] (bss.map List.toArray)).toList) mem
   rw [joined_nil,hf];exact h
theorem CallV.anyBytes {bs : List UInt8} (h : Q (.bool (bs.any (· != 0))) mem) : CallV cx (.builtin "any") [.bytes bs] mem Q X:=fun loc vs hvs s I=>by
 refine eX1b (one_of hvs) fun x ee209 h1=>?_;subst ee209
 refine eX1a (er_bytes h1) fun t ee210=>?_;subst ee210
 refine call_any_walk (KBw.pyIter_bytes (iX4a s.heap.objs.size _ _ _ (iX3e _ _ (fun i=>(bs.getD i 0) != 0) rfl (KBw.walks (A:=cx.A.in1) I.ok.handled _ bs.toArray t) (iX1c _ (Heap.get?_push_size _ rfl) rfl rfl) ?_ (fun h' tk hk=>(iX1b mem ?_ ?_)))))
 ·intro i v s' Q' E' zz211 hQ;refine eX2b zz211 ?_;clear zz211;intro c u hc ee212;subst ee212
  have hd : bs.getD i 0 = c:=by rw [List.getD_eq_getElem?_getD];simp at hc;rw [hc];rfl
  simp only [hd] at hQ
  refine PyProof.Rows.truthy_int ?_
  have : ((c.toNat : Int) != 0) = (c != 0):=by
   by_cases q : c = 0
   ·subst q;rfl
   ·have h2 : c.toNat ≠ 0:=fun z=>q (UInt8.toNat_inj.mp (by simpa using z))
    have h3 : ((c.toNat : Int) != 0) = true:=by simpa using h2
    rw [h3];simpa using q
  rw [this];exact hQ
 ·exact I.grow fun b o e=>hk b o (by simpa using Nat.ne_of_lt (Heap.lt_size e)) (Heap.get?_push_of_some _ e)
 ·have : (List.range bs.toArray.size).any (fun i=>(bs.getD i 0) != 0) = bs.any (· != 0):=by
   rw [Bool.eq_iff_iff,List.any_eq_true,List.any_eq_true]
   constructor
   ·intro zz213;refine eX1b zz213 fun i hi hp=>?_
    have hi : i < bs.length:=by simpa using hi
    exact (iX1b (bs[i]) (List.getElem_mem hi) (by simpa [List.getD_eq_getElem?_getD,hi] using hp))
   ·intro zz214;refine eX1b zz214 fun c hc hp=>?_
    obtain ⟨i,hi,ee215⟩:=List.mem_iff_getElem.mp hc;subst ee215
    exact (iX1b i (by simpa using hi) (by simpa [List.getD_eq_getElem?_getD,hi] using hp))
  show Q (.bool _) mem
  rw [this];exact h
end
noncomputable abbrev excObj (C t : Addr) (dd : Option Addr) : Obj:={ cls:=.ref C,dict:=dd,data:=.fields #[.ref t,.none,.none,.none,.bool false,.none],slots:=#[] }
noncomputable abbrev bmB : List Value:=[.type "Exception",.type "BaseException",.type "object"]
section
variable {w : World} {A : Around} {E : Value -> Shared -> Prop} {R : Result -> Shared -> Prop} {h : Heap} {g : Array GenState} {d : Drawn} {t : Nat} {os : OsState}
variable {nm q : Str} {C N : Addr} {bs bm : List Value} {hdct : Bool} {sn : List Str} {sub : List Value} {ab : Bool} {col : Option Bool} {dd : Option Addr} {k0 k1 k2 k3 k5 : Option Value}
theorem exc_check_new (hcont : (Value.ref C :: bm).contains (.type "Exception") = true) {rest : List Value} {Q : Unit -> Shared -> Prop} (hC : h.get? C = some (excClassObj nm q C N bs bm hdct sn sub ab col dd k0 k1 k2 k3 k5 "Exception.__new__"))
  (hq : Q () ⟨h,g,d,t,os⟩) : wpAny (model pw w) A (checkBuiltinCall "Exception.__new__" ⟨.ref C :: rest,[]⟩) Q E ⟨h,g,d,t,os⟩ :=
 wpAny_check_new_subU F.excBase_Exception (show bm.contains (.type "Exception") = true from hcont) .base hC hq
theorem exc_new (hcB : (Value.ref C :: bm).contains (.type "Exception") = true) (hcA : (Value.ref C :: bm).contains (.type "AttributeError") = false) (hcN : (Value.ref C :: bm).contains (.type "NameError") = false)
  {rest : List Value} (hC : h.get? C = some (excClassObj nm q C N bs bm hdct sn sub ab col dd k0 k1 k2 k3 k5 "Exception.__new__"))
  (hq : R (.ok (.ret (.ref (h.objs.size + 1)))) ⟨(h.push { cls:=.type "tuple",data:=.seq rest.toArray }).push (excObj C h.objs.size none),g,d,t,os⟩) (hrest : rest.length <= sizeLine:=by size_fits) :
  codeAny (model pw w) A (.builtin "Exception.__new__" ⟨.ref C :: rest,[]⟩) R ⟨h,g,d,t,os⟩:=by
 have F:=F.excBase_Exception
 have hends:=F.ends
 refine codeAny_builtinAt F.entry ?_
 unfold Builtin.«BaseException.__new__»
 refine PySem.wpAt_bind ?_
 show PySem.wpAt _ _ _ (stack >>= _) _ _ _
 refine PySem.wpAt_bind (PySem.wpAt_stack fun p below=>PySem.wpAt_of_wpAny ?_)
 wp_walk
 refine PySem.wpAt_of_wpAny ?_
 rw [F.owner]
 repeat (first | with_reducible refine wpAny_madeHere_exc F.canon hC ?_ | with_reducible refine wpAny_loadPart_at hC ?_ | (with_reducible refine wpAny_isSubtype_exc hC ?_;first | rw [hcB] | rw [hcA] | rw [hcN]) | wp_step)
 show R _ _
 rw [Heap.size_push]
 exact hq
theorem exc_type_call {K : Frag} {fI : Addr} (X : K.In h) (hi : findIn K (.ref C) "__init__" = some (some (.ref fI))) (hf : typeIn K (.ref fI) = some (.type "function"))
  (hcB : (Value.ref C :: bm).contains (.type "Exception") = true) (hcA : (Value.ref C :: bm).contains (.type "AttributeError") = false) (hcN : (Value.ref C :: bm).contains (.type "NameError") = false)
  {rest : List Value} {Q : Fin -> Shared -> Prop} (hC : h.get? C = some (excClassObj nm q C N bs bm hdct sn sub ab col dd k0 k1 k2 k3 k5 "Exception.__new__"))
  (hq : wpAny (model pw w) A (call (.ref fI) (.ref (h.objs.size + 1) :: rest)) (fun v s'=>v = .none /\ Q (.done (.ret (.ref (h.objs.size + 1)))) s') (fun e s'=>False)
   ⟨(h.push { cls:=.type "tuple",data:=.seq rest.toArray }).push (excObj C h.objs.size none),g,d,t,os⟩) (hrest : rest.length <= sizeLine:=by size_fits) :
  wpAny (model pw w) A (Builtin.«type.__call__» ⟨.ref C :: rest,[]⟩) Q E ⟨h,g,d,t,os⟩:=by
 have F:=F.excBase_Exception
 repeat (first | with_reducible refine wpAny_loadPart_at hC ?_ | with_reducible refine wpAny_madeBy_exc hC ?_ | wp_step)
 refine codeAny_call_builtin_code (Code.quiet_builtin _ F.quiet) (exc_check_new hcB hC ?_)
 refine exc_new hcB hcA hcN hC ?_ hrest
 show wpAny _ _ _ _ _ _
 have hkp : ∀ b o,h.get? b = some o -> ((h.push { cls:=.type "tuple",data:=.seq rest.toArray }).push (excObj C h.objs.size none)).get? b = some o:=fun b o e=>Heap.get?_push_of_some _ (Heap.get?_push_of_some _ e)
 have hC₁:=hkp _ _ hC
 have hget : ((h.push { cls:=.type "tuple",data:=.seq rest.toArray }).push (excObj C h.objs.size none)).get? (h.objs.size + 1) = some (excObj C h.objs.size none):=by heap_get
 have hcC : (Value.ref C :: bm).contains (.ref C) = true:=by simp
 have X₁:=X.keeps hkp
 unfold isInstance
 repeat (first | with_reducible refine wpAny_loadPart_at hget ?_ | (with_reducible refine wpAny_isSubtype_exc hC₁ ?_;rw [hcC]) | wp_step)
 refine looks_findIn X₁ hi _ _ _ _ (fun _ _ e=>e) ?_
 dsimp only
 refine wpAny_holding (wpAny_bind (bind_fn X₁ _ hf _ _ _ _ (fun _ _ e=>e) ?_))
 dsimp only
 refine wpAny_bind (wpAny_mono hq (fun v s' zq75=>eX0b zq75 fun e1 e2=>?_) fun _ _ x=>x.elim)
 subst e1
 exact wpAny_pure (wpAny_pure e2)
theorem exc_call {K : Frag} {fI : Addr} (X : K.In h) (hi : findIn K (.ref C) "__init__" = some (some (.ref fI))) (hf : typeIn K (.ref fI) = some (.type "function"))
  (hcB : (Value.ref C :: bm).contains (.type "Exception") = true) (hcA : (Value.ref C :: bm).contains (.type "AttributeError") = false) (hcN : (Value.ref C :: bm).contains (.type "NameError") = false)
  {rest : List Value} {Q : Value -> Shared -> Prop} (hC : h.get? C = some (excClassObj nm q C N bs bm hdct sn sub ab col dd k0 k1 k2 k3 k5 "Exception.__new__"))
  (hq : wpAny (model pw w) (A.under (.builtin "type.__call__" ⟨.ref C :: rest,[]⟩)) (call (.ref fI) (.ref (h.objs.size + 1) :: rest)) (fun v s'=>v = .none /\ Q (.ref (h.objs.size + 1)) s') (fun e s'=>False)
   ⟨(h.push { cls:=.type "tuple",data:=.seq rest.toArray }).push (excObj C h.objs.size none),g,d,t,os⟩) (hrest : rest.length <= sizeLine:=by size_fits) :
  wpAny (model pw w) A (call (.ref C) rest) Q E ⟨h,g,d,t,os⟩:=by
 have f1:=tc_lookup
 have f2:=tc_bind (.ref C)
 have hT : (⟨h,g,d,t,os⟩ : Shared).TypeIs (.ref C) "type":=(iX1b _ hC rfl)
 refine wpAny_call (codeAny_of_tree ?_)
 show wpAny _ _ (callAny (.ref C) _) _ _ _
 repeat (any_goals (first | assumption | with_reducible refine wpAny_loadPart_at hC ?_ | wp_step))
 refine (iX0b rfl ?_)
 refine codeAny_call_builtin_at (Code.quiet_builtin _ (by decide +kernel)) entry_typeCall (wpAny_check_type_call_sub hC (exc_type_call X hi hf hcB hcA hcN hC (hrest:=hrest) ?_))
 exact hq
theorem exc_raise {env : Env} {s : Shared} {x : Sem Value} {Q : Flow -> Shared -> Prop} (hbase : (Value.ref C :: bm).contains (.type "BaseException") = true) (hh : A.handled = none)
  (h : wpAny (model pw w) A x (fun v s₁=>∃ e t dd',v = .ref e /\ s₁.heap.get? C = some (excClassObj nm q C N bs bm hdct sn sub ab col dd k0 k1 k2 k3 k5 "Exception.__new__") /\
   s₁.heap.get? e = some (excObj C t dd') /\ E (.ref e) s₁) E s) :
  wpAny (model pw w) A (raiseStmt env (some x) none) Q E s:=by
 unfold raiseStmt
 refine wpAny_bind (wpAny_mono h (fun v s₁ h₁=>?_) fun _ _ x=>x)
 refine eX3d h₁ ?_;clear h₁;intro e t dd' ee216 hC he hE;subst ee216
 obtain ⟨hp,g,d,tk,os⟩:=s₁
 repeat (first | with_reducible refine wpAny_loadPart_at he ?_ | with_reducible refine wpAny_loadPart_at hC ?_ | (with_reducible refine wpAny_isSubtype_exc hC ?_;rw [hbase]) | wp_step)
 exact wpAny_raiseNew_none hh hE
end
noncomputable def Cx.withA (cx : Cx) (A : Around) : Cx:={ cx with A:=A }
theorem InSt.withA {cx : Cx} {loc : Loc} {mem : Mem} {s : Shared} (I : InSt cx loc mem s) {A : Around} (h1 : A.depth <= 900) (h2 : A.units <= 9000) (h3 : A.handled = none) (h4 : A.frames = some cx.l) : InSt (cx.withA A) loc mem s :=
 ⟨⟨I.ok.X,I.ok.T,I.ok.base,I.ok.sysm,I.ok.baseF,I.ok.baseT,h1,h2,h3,h4,I.ok.kind,I.ok.above,I.ok.cellsAll,I.ok.glob,I.ok.blt,I.ok.outer⟩,⟨I.st.kept,I.st.tr,I.st.tab⟩,I.fr,⟨I.fm.ns,I.fm.own,I.fm.ownM,I.fm.cells,I.fm.apart,I.fm.bound⟩,I.gens,I.drawn,I.os⟩
theorem InSt.ofA {cx : Cx} {loc : Loc} {mem : Mem} {s : Shared} {A : Around} (ok : CxOk cx) (I : InSt (cx.withA A) loc mem s) : InSt cx loc mem s :=
 ⟨ok,⟨I.st.kept,I.st.tr,I.st.tab⟩,I.fr,⟨I.fm.ns,I.fm.own,I.fm.ownM,I.fm.cells,I.fm.apart,I.fm.bound⟩,I.gens,I.drawn,I.os⟩
structure ExcCls (P : Params) (C : Addr) : Prop where
 obj : ∃ nm q N bs bm sn sub ab col dd k0 k1 k2 k3 k5,(KF P).lookup C = some (excClassObj nm q C N bs bm true sn sub ab col dd k0 k1 k2 k3 k5 "Exception.__new__") /\
  (Value.ref C :: bm).contains (.type "object") = true /\ (∀ self,refuseLoop self "__setattr__" bm = pure ()) /\
  (Value.ref C :: bm).contains (.type "Exception") = true /\ (Value.ref C :: bm).contains (.type "AttributeError") = false /\ (Value.ref C :: bm).contains (.type "NameError") = false /\ (Value.ref C :: bm).contains (.type "BaseException") = true
 init : findIn (KF P) (.ref C) "__init__" = some (some (.ref 28))
 fn : typeIn (KF P) (.ref 28) = some (.type "function")
 sa : findIn (KF P) (.ref C) "__setattr__" = some (some (.builtin "object.__setattr__"))
 why : findIn (KF P) (.ref C) "why" = some none
theorem refuse5 (self : Value) : refuseLoop self "__setattr__" [.ref 31,.type "Exception",.type "BaseException",.type "object"] = pure ():=by
 rw [refuseLoop_ref];exact F.store_Exception.passes self
noncomputable def isExc (C : Addr) : Bool:=decide (C = 44) || decide (C = 56) || decide (C = 68) || decide (C = 80) || decide (C = 92)
theorem excCls44 (P : Params) : ExcCls P 44:=⟨(iX4a _ _ _ _ (iX4a _ _ _ _ (iX4a _ _ _ _ (iX3g _ _ _ rfl (by decide +kernel) refuse5 (by decide +kernel) (by decide +kernel) (by decide +kernel) (by decide +kernel))))),by rfl,by rfl,by rfl,by rfl⟩
theorem excCls56 (P : Params) : ExcCls P 56:=⟨(iX4a _ _ _ _ (iX4a _ _ _ _ (iX4a _ _ _ _ (iX3g _ _ _ rfl (by decide +kernel) refuse5 (by decide +kernel) (by decide +kernel) (by decide +kernel) (by decide +kernel))))),by rfl,by rfl,by rfl,by rfl⟩
theorem excCls68 (P : Params) : ExcCls P 68:=⟨(iX4a _ _ _ _ (iX4a _ _ _ _ (iX4a _ _ _ _ (iX3g _ _ _ rfl (by decide +kernel) refuse5 (by decide +kernel) (by decide +kernel) (by decide +kernel) (by decide +kernel))))),by rfl,by rfl,by rfl,by rfl⟩
theorem excCls80 (P : Params) : ExcCls P 80:=⟨(iX4a _ _ _ _ (iX4a _ _ _ _ (iX4a _ _ _ _ (iX3g _ _ _ rfl (by decide +kernel) refuse5 (by decide +kernel) (by decide +kernel) (by decide +kernel) (by decide +kernel))))),by rfl,by rfl,by rfl,by rfl⟩
theorem excCls92 (P : Params) : ExcCls P 92:=⟨(iX4a _ _ _ _ (iX4a _ _ _ _ (iX4a _ _ _ _ (iX3g _ _ _ rfl (by decide +kernel) refuse5 (by decide +kernel) (by decide +kernel) (by decide +kernel) (by decide +kernel))))),by rfl,by rfl,by rfl,by rfl⟩
theorem excCls {C : Addr} (h : isExc C = true) (P : Params) : ExcCls P C:=by
 simp only [isExc,Bool.or_eq_true,decide_eq_true_eq] at h
 rcases h with (((rfl | rfl) | rfl) | rfl) | rfl
 ·exact excCls44 P
 ·exact excCls56 P
 ·exact excCls68 P
 ·exact excCls80 P
 ·exact excCls92 P
section
variable {cx : Cx} {loc : Loc} {mem : Mem} {s : Shared} {e C : Addr} {f : Bool}
theorem InSt.raised (I : InSt cx loc (mset mem e (.exc C f)) s) (hn : mem e = none) : ExcSt cx C mem (.ref e) s:=by
 have fe:=I.free (mset_same mem e _)
 obtain ⟨oe,hoe,t,dd,hdd,re⟩:=I.get (mset_same mem e _)
 have hB : ∀ b o,s.heap.get? b = some o -> b ≠ e -> b ∉ frs cx.l -> (hideAll s.heap (e :: frs cx.l)).get? b = some o:=fun b o h1 h2 h3=>hideAll_get _ h1 (by rw [List.mem_cons,not_or];exact (iX0b h2 h3))
 have frd : ∀ L ∈ frs cx.l,∃ o,s.heap.get? L = some o /\ ∀ vs,o.data ≠ .fields vs:=fun L hL=>by
  refine eX1b (List.mem_filterMap.mp hL) fun env he hf=>?_
  obtain ⟨_,L',h1,h2⟩:=I.ok.outer env he
  rw [hf] at h1;cases h1
  rcases h2 with ⟨o',es,n,h3,h4⟩ | h3
  ·refine eX1a (I.fr L o' h3 hL) fun sl h5=>?_
   exact (iX1b _ h5 (fun vs q=>by rw [show ({ o' with slots:=sl } : Obj).data = o'.data from rfl,h4] at q;cases q))
  ·refine eX1b (I.fm.ns) fun m zz217 _=>?_;refine eX3c zz217 ?_;clear zz217;intro o es n h5 h6 _
   exact (iX1b o (h3 ▸ h5) (fun vs q=>by rw [h6] at q;cases q))
 refine ⟨I.ok,I.gens,I.drawn,I.os,I.fr,(let ⟨m,hn,_⟩:=I.fm.ns;(iX1a m hn)),e,.ref t,hideAll s.heap (e :: frs cx.l),rfl,⟨fun b o h1 h2=>hB b o (I.st.kept b o h1 h2) (fun q=>by rw [q,fe.G] at h1;cases h1) h2,fun a ao h1=>?_,?_⟩,fun b o h=>of_hideAll _ h,hideAll_none _ (.head _),?_,.inl (iX2e oe _ hoe (by rw [re]) (by rw [re]) rfl rfl)⟩
 ·have hne : a ≠ e:=fun q=>by rw [q,hn] at h1;cases h1
  have h2 : mset mem e (.exc C f) a = some ao:=(mset_ne hne).trans h1
  have fa:=I.free h2
  obtain ⟨h3,o,h4,h5⟩:=I.st.tr a ao h2
  exact ⟨h3,o,hB a o h4 hne (I.ok.notFr fa.G fa.L),h5⟩
 ·refine I.st.tab.keep fun b o vs h1 h2 h3=>hB b o h1 (fun q=>?_) fun q=>?_
  ·subst q
   rw [hoe] at h1;cases h1
   exact Rep.notTab (w:=cx.w) (ao:=.exc C f) (iX2b t dd hdd re) vs h2 h3
  ·refine eX1b (frd b q) fun o' h4 h5=>?_
   rw [h1] at h4;cases h4
   exact h5 vs h2
 ·have go : ∀ l',(∀ env ∈ l',env ∈ cx.l) -> s.heap.FunFrames (hideAll s.heap (e :: frs cx.l)) l':=by
   intro l'
   induction l' with
   | nil=>intro _;trivial
   | cons env r ih =>
    intro hm
    obtain ⟨k1,L,k2,_⟩:=I.ok.outer env (hm _ (.head _))
    have hL : L ∈ frs cx.l:=List.mem_filterMap.mpr (iX1b env (hm _ (.head _)) k2)
    refine eX1b (frd L hL) fun o h4 h5=>?_
    exact (iX0c k1 (iX2d L o k2 (hideAll_none _ (.tail _ hL)) h4 h5) (ih fun x hx=>hm x (.tail _ hx)))
  exact go cx.l fun _ h=>h
end
section
variable {w : World} {A : Around} {E : Value -> Shared -> Prop} {h : Heap} {g : Array GenState} {d : Drawn} {t : Nat} {os : OsState}
variable {nm q : Str} {C N x tt : Addr} {bs bm : List Value} {hdct : Bool} {sn : List Str} {sub : List Value} {ab : Bool} {col : Option Bool} {dd : Option Addr} {k0 k1 k2 k3 k5 : Option Value} {K : Frag} {name : Str} {v : Value}
theorem exc_check_sa {nameV : Value} {Q : Unit -> Shared -> Prop} (hcB : (Value.ref C :: bm).contains (.type "object") = true)
  (hC : h.get? C = some (excClassObj nm q C N bs bm true sn sub ab col dd k0 k1 k2 k3 k5 "Exception.__new__")) (hx : h.get? x = some (excObj C tt none)) (hq : Q () ⟨h,g,d,t,os⟩) :
  wpAny (model pw w) A (checkBuiltinCall "object.__setattr__" ⟨[.ref x,nameV,v],[]⟩) Q E ⟨h,g,d,t,os⟩:=by
 have SF:=F.store_Exception
 have ha:=SF.args (.ref x) nameV v
 simp only [checkBuiltinCall,SF.kind,SF.split]
 refine wpAny_bind ?_
 ·unfold isInstance
  repeat (first | with_reducible refine wpAny_loadPart_at hx ?_ | (with_reducible refine wpAny_isSubtype_exc hC ?_;rw [hcB]) | wp_step)
  exact hq
theorem exc_sa {tk : Tok} {o : Obj} {vs : Array Value} {Q : PySem.Fin -> Shared -> Prop} (X : K.In h) (hb : refuseLoop (.ref x) "__setattr__" bm = pure ())
  (hC : h.get? C = some (excClassObj nm q C N bs bm true sn sub ab col dd k0 k1 k2 k3 k5 "Exception.__new__")) (hn : findIn K (.ref C) name = some none) (hx : h.get? x = some o) (hc : o.cls = .ref C) (hdn : o.dict = none) (hdt : o.data = .fields vs)
  (hq : ∀ h' tk',(∀ b o,b ≠ x -> h.get? b = some o -> h'.get? b = some o) -> h'.get? x = some { o with dict:=some h.objs.size } -> Q (.done (.ret .none)) ⟨h',g,d,tk',os⟩) :
  wpAny (model pw w) A (Builtin.«object.__setattr__» ⟨[.ref x,.str name tk,v],[]⟩) Q E ⟨h,g,d,t,os⟩:=by
 unfold Builtin.«object.__setattr__»
 repeat (first | rw [refuse_eq] | (rw [refuseLoop_ref,hb]) | (with_reducible refine wpAny_loadPart_at hx ?_;rw [hc]) | with_reducible refine wpAny_mroOf_exc hC ?_ | wp_step)
 refine looks_findIn X hn _ _ _ _ (fun _ _ e=>e) ?_
 repeat (first | (with_reducible refine wpAny_loadPart_at hx ?_;rw [hc]) | wp_step)
 rw [hdn,if_neg (by simp [typeHasDict])]
 split
 ·rename_i hcd
  cases hcd
 split
 ·rename_i c hcd
  rw [hdt] at hcd;cases hcd
 ·have hx₁ : (h.push { cls:=.type "dict",data:=.dict #[] }).get? x = some o:=Heap.get?_push_of_some _ hx
  have hxs : x ≠ h.objs.size:=Nat.ne_of_lt (Heap.lt_size hx)
  refine wpAny_bind (wpAny_alloc' ?_)
  refine wpAny_bind (wpAny_update' hx₁ ?_)
  refine wpAny_pure ?_
  have hgd : ((h.push { cls:=.type "dict",data:=.dict #[] }).update x fun o=>{ cls:=o.cls,dict:=some h.objs.size,data:=o.data,slots:=o.slots }).get? h.objs.size = some { cls:=.type "dict",data:=.dict #[] } :=
   (Heap.get?_update_ne _ _ _ _ hxs.symm).trans (Heap.get?_push_at rfl rfl)
  have hnd : ((h.push { cls:=.type "dict",data:=.dict #[] }).update x fun o=>{ cls:=o.cls,dict:=some h.objs.size,data:=o.data,slots:=o.slots }).Ns h.objs.size (fun _=>none) :=
   (iX3d _ (#[]) _ hgd rfl (fun e he=>absurd he (by simp)) (fun _=>rfl))
  show wpAny _ _ (Builtin.ObjectAttr.storeInDict h.objs.size (.str name tk) name v) _ _ _
  unfold Builtin.ObjectAttr.storeInDict Builtin.ObjectAttr.newKeyGuard
  refine wpAny_bind (wpAny_pure (wpAny_bind (wpAny_nsSet1 (Heap.Ns1.of_empty hnd) fun h' hn' hs=>?_)))
  refine eX3c (hn'.count (Within.cons name v Within.nil)) fun oD esD epD hoD hdD hcD=>?_
  refine wpAny_bind (wpAny_lookBehind hoD (by rw [hdD];exact pastItsLine_dict (Nat.le_trans hcD (by rw [List.length_cons,List.length_nil,sizeLine_eq];lia))) ?_)
  refine wpAny_pure (hq h' _ (fun b o hb e=>?_) ?_)
  ·exact (hs.2 b (Nat.ne_of_lt (Heap.lt_size e))).trans ((Heap.get?_update_ne _ _ _ _ hb).trans (Heap.get?_push_of_some _ e))
  ·refine (hs.2 x hxs).trans (Heap.get?_update_self _ hx₁ ?_)
   have hfr:=(Heap.get?_some_iff.mp hx).2
   obtain ⟨oc,od,odt,osl⟩:=o
   cases odt <;> first | rfl | exact hfr
theorem exc_setAttr {tt : Addr} {Q : Unit -> Shared -> Prop} (X : K.In h) (hb : refuseLoop (.ref x) "__setattr__" bm = pure ()) (hcB : (Value.ref C :: bm).contains (.type "object") = true)
  (hC : h.get? C = some (excClassObj nm q C N bs bm true sn sub ab col dd k0 k1 k2 k3 k5 "Exception.__new__")) (hsa : findIn K (.ref C) "__setattr__" = some (some (.builtin "object.__setattr__"))) (hn : findIn K (.ref C) name = some none)
  (hx : h.get? x = some (excObj C tt none))
  (hq : ∀ h' tk',(∀ b o,b ≠ x -> h.get? b = some o -> h'.get? b = some o) -> h'.get? x = some (excObj C tt (some h.objs.size)) -> Q () ⟨h',g,d,tk',os⟩) :
  wpAny (model pw w) A (setAttr (.ref x) name v) Q E ⟨h,g,d,t,os⟩:=by
 have SF:=F.store_Exception
 have f3:=SF.slot.bind (.ref x)
 have e : ∀ o,h.get? x = some o -> o = excObj C tt none:=fun o q=>by rw [hx] at q;cases q;rfl
 refine eX1a ((show ∃ o,h.get? x = some o from (iX1a _ hx))) fun o ho=>?_
 have hc : o.cls = .ref C:=by rw [e o ho]
 unfold setAttr callSpecial? specialOf
 repeat (any_goals (first | assumption | (with_reducible refine wpAny_loadPart_at ho ?_;rw [hc]) | wp_step))
 refine looks_findIn X hsa _ _ _ _ (fun _ _ e=>e) ?_
 repeat (any_goals (first | assumption | wp_step))
 refine codeAny_call_builtin SF.slot.plain SF.entry (exc_check_sa hcB hC hx (exc_sa X hb hC hn ho hc (by rw [e o ho]) (by rw [e o ho]) fun h' tk' hk hx'=>?_))
 repeat (any_goals (first | assumption | wp_step))
 exact hq h' tk' hk (by rw [hx',e o ho])
end
section
variable {w : World} {A : Around} {E : Value -> Shared -> Prop} {h : Heap} {g : Array GenState} {d : Drawn} {t : Nat} {os : OsState}
variable {nm q : Str} {C N x tt : Addr} {bs bm : List Value} {hdct : Bool} {sn : List Str} {sub : List Value} {ab : Bool} {col : Option Bool} {dd dx : Option Addr} {k0 k1 k2 k3 k5 : Option Value} {K : Frag}
theorem exc_check_init {rest : List Value} {Q : Unit -> Shared -> Prop} (hcB : (Value.ref C :: bm).contains (.type "Exception") = true)
  (hC : h.get? C = some (excClassObj nm q C N bs bm hdct sn sub ab col dd k0 k1 k2 k3 k5 "Exception.__new__")) (hx : h.get? x = some (excObj C tt dx)) (hq : Q () ⟨h,g,d,t,os⟩) :
  wpAny (model pw w) A (checkBuiltinCall "Exception.__init__" ⟨.ref x :: rest,[]⟩) Q E ⟨h,g,d,t,os⟩:=by
 have F:=F.excBase_Exception
 have hshort:=F.noStar
 simp only [checkBuiltinCall,F.initKind,F.initSplit,F.initRow]
 repeat (first | with_reducible refine wpAny_loadPart_at hx ?_ | with_reducible refine wpAny_loadPart_at hC ?_ | (with_reducible refine wpAny_isSubtype_exc hC ?_;rw [hcB]) | wp_step)
 refine wpAny_onRaise ?_
 rw [show ∀ (a b : String) (n : Nat),Bind.check ⟨.positional,"*","Exception",.self,[⟨"args",.varPos,false⟩]⟩ a b n (List.map (fun x=>x.fst) ({ pos:=Value.ref x :: rest } : Args).kw) = pure () from
  fun a b n=>check_star_args _ _ _ _ _ _]
 exact wpAny_pure hq
theorem exc_init {v : Value} {Q : Value -> Shared -> Prop} (hcB : (Value.ref C :: bm).contains (.type "Exception") = true)
  (hC : h.get? C = some (excClassObj nm q C N bs bm hdct sn sub ab col dd k0 k1 k2 k3 k5 "Exception.__new__")) (hx : h.get? x = some (excObj C tt dx))
  (hq : ∀ h',(∀ b o,b ≠ x -> h.get? b = some o -> h'.get? b = some o) -> h'.get? x = some (excObj C h.objs.size dx) -> Q .none ⟨h',g,d,t,os⟩) :
  wpAny (model pw w) A (call (.builtin "Exception.__init__") [.ref x,v]) Q E ⟨h,g,d,t,os⟩:=by
 have F:=F.excBase_Exception
 refine wpAny_call (codeAny_call_builtin F.init.plain F.initEntry (exc_check_init hcB hC hx ?_))
 wp_walk
 refine hq _ (fun b o hb e=>?_) ?_
 ·rw [Heap.get?_update_other _ _ (Ne.symm hb)]
  exact Heap.get?_push_of_some _ e
 ·rw [Heap.get?_update_self _ (Heap.get?_push_of_some _ hx) rfl]
  rfl
end
noncomputable def MethU (cx : Cx) (name : Str) (ov : AV) (mem : Mem) (k : Value -> Mem -> Prop) (X : MQ Addr) : Prop :=
 ∀ loc v pl,er v = ov -> TV cx (getMethod v name pl) loc mem (fun r m=>r.2 = [] /\ (∀ a,r.1 ≠ .ref a) /\ k r.1 m) X
section
variable {cx : Cx} {X : MQ Addr} {loc : Loc} {mem : Mem} {Q : MQ AV} {pos : Pos}
noncomputable abbrev KMethU2 (cx : Cx) (X : MQ Addr) (loc : Loc) (pos : Pos) (args : List Expr) (Q : MQ AV) : Value -> Mem -> Prop:=fun f m=>EVs cx args pos loc m (KCall cx X f Q) X
noncomputable abbrev KMethU (cx : Cx) (X : MQ Addr) (loc : Loc) (pos : Pos) (name : Str) (args : List Expr) (Q : MQ AV) : MQ AV:=fun ov m=>MethU cx name ov m (KMethU2 cx X loc pos args Q) X
theorem EV.methU {o : Expr} {name : Str} {apos : Pos} {args : List Expr} (h : EV cx o loc mem (KMethU cx X loc pos name args Q) X)
  (hb : attributeBase o name cx.env (eval o cx.env) = eval o cx.env:=by rfl) (hst : (starEach args cx.env).all (fun x=>!x.1) = true:=by rfl) (hline : (apos.endLine == pos.line) = true:=by rfl) (hlen : args.length < 30:=by decide) :
  EV cx (.Call (.Attribute o name apos) args [] pos) loc mem Q X:=fun s I=>by
 rw [arm_eval_Call,hb]
 refine wpAny_bind (TV.go h I fun ov s' m I1 h1=>wpAny_bind (wpAny_standAt ?_))
 have hform : methodCallForm (args.length + ([] : List Keyword).length) (backTo pos (starEach args cx.env)) (backToKw pos (keywordEach [] cx.env)) = true:=by
  unfold methodCallForm
  rw [backTo_plain hst]
  show (true && true && decide (args.length + 0 + 0 < 30)) = true
  simp [hlen]
 have hpos : methodCallPos true o cx.env apos pos = pure pos:=by unfold methodCallPos;simp [hline]
 unfold methodCall
 rw [hform]
 refine wpAny_bind (wpAny_holding (wpAny_mono (h1 loc ov _ rfl s' I1) (fun r s2 zq77=>eX1d zq77 fun m2 I2 e hk h2=>?_) fun _ _ x=>x))
 obtain ⟨f,first⟩:=r
 dsimp only at e hk h2 ⊢
 subst e
 refine wpAny_bind (wpAny_of_eq hpos ?_)
 refine callWith_any (P:=fun _=>True) (backTo_plain hst) (fun hh _=>?_) (TV.go h2 I2 fun vs s3 m3 I3 h3=>(iX0b trivial (h3 loc vs rfl s3 I3)))
 cases f with
 | ref a=>exact absurd rfl (hk a)
 | _=>exact (iX1b .machine (.inr (.inl rfl)) (Looks.of_pure rfl))
theorem MethU.excInit {k : Value -> Mem -> Prop} (h : k (.builtin "Exception.__init__") mem) : MethU cx "__init__" (.type "Exception") mem k X:=fun loc v pl hv s I=>by
 cases er_type hv
 have X₀:=I.X
 have hstub : opaqueClassAbove (.type "Exception") = pure none:=by unfold opaqueClassAbove;dsimp only;rw [show Manifest.isStub "Exception" = false by decide +kernel];rfl
 have ht : typeOf (.type "Exception") = pure (.type "type"):=by first | rfl | kernel_rfl
 have L0 : Looks (model pw cx.w) s.heap (typeOf (.type "Exception")) (.type "type"):=Looks.of_pure ht
 have hg : findIn (KF cx.w.params) (.type "type") "__getattribute__" = some (some (.builtin "type.__getattribute__")):=by rfl
 have hf : findCls (KF cx.w.params) (.type "Exception") (.type "type") (Str.ofString "__init__") = some (.val (.builtin "Exception.__init__")):=by rfl
 unfold getMethod specialOf
 refine wpAny_bind (wpAny_bind (L0.here ((looks_findIn X₀ hg).here ?_)))
 dsimp only
 rw [if_pos (show (Manifest.canonical "type.__getattribute__" != "object.__getattribute__") = true by decide +kernel)]
 refine wpAny_bind (wpAny_mono (Q:=fun v s'=>∃ m',InSt cx loc m' s' /\ v = .builtin "Exception.__init__" /\ k v m') (E:=_) ?_ (fun v s' zq79=>eX1c zq79 fun m' I' e hk=>wpAny_pure (iX1d m' I' rfl (fun a q=>by rw [e] at q;cases q) hk)) fun _ _ z=>z)
 have LO : Looks (model pw cx.w) s.heap (opaqueClassAbove (.type "Exception")) none:=Looks.of_pure hstub
 refine cls_open X₀ LO L0 hg (looks_hook X₀ (r:=none) (by rfl)) (by rfl) hf ?_
 show wpAny _ _ (ret (.builtin "Exception.__init__")) _ _ _
 refine wpAny_pure ?_
 show wpAny _ _ (handedOut (.builtin "Exception.__init__")) _ _ _
 rw [handedOut_of (by decide +kernel)]
 exact wpAny_pure (iX1c mem I.toks rfl h)
end
section
variable {cx : Cx} {X : MQ Addr} {mem : Mem} {Q : MQ AV} {e C : Addr}
theorem excRep {w : World} {o : Obj} (r : Rep w o (.exc C true)) : ∃ t,o = excObj C t none:=by
 refine eX2b r ?_;clear r;intro t dd h1 ee218;subst ee218
 rw [h1 rfl];exact (iX1a t rfl)
theorem CallV.excInit {v : AV} (he : isExc C = true) (hm : mem e = some (.exc C true)) (h : Q .none mem) : CallV cx (.builtin "Exception.__init__") [.ref e,v] mem Q X:=fun loc vs hvs s I=>by
 refine eX2c (two_of hvs) fun x y ee219 h1 h2=>?_;subst ee219
 cases er_ref h1
 refine eX1b (I.get hm) fun o ho r=>?_
 refine eX1a (excRep r) fun t ee220=>?_;subst ee220
 refine eX4a (excCls he cx.w.params).obj fun nm q N bs z=>?_;refine eX4a z fun bm sn sub ab z=>?_;refine eX4a z fun col dd k0 k1 z=>?_;refine eX3g z fun k2 k3 k5 hC _ _ hB _ _ _=>?_
 have hC':=I.X _ _ hC
 obtain ⟨hp,g,d,tk,os⟩:=s
 refine exc_init hB hC' ho fun h' hk hx=>(iX1b mem ?_ h)
 have:=I.upd (t:=tk) hm hk hx (ao':=.exc C true) (iX2b _ none (fun _=>rfl) rfl)
 rwa [mset_self hm] at this
theorem SetAttrV.why {v : AV} {Q : Mem -> Prop} (he : isExc C = true) (hm : mem e = some (.exc C true)) (h : Q (mset mem e (.exc C false))) : SetAttrV cx "why" (.ref e) v mem Q X:=fun loc o y h1 h2 s I=>by
 cases er_ref h1
 refine eX1b (I.get hm) fun o ho r=>?_
 refine eX1a (excRep r) fun t ee221=>?_;subst ee221
 refine eX4a (excCls he cx.w.params).obj fun nm q N bs z=>?_;refine eX4a z fun bm sn sub ab z=>?_;refine eX4a z fun col dd k0 k1 z=>?_;refine eX3g z fun k2 k3 k5 hC hO hR _ _ _ _=>?_
 have hC':=I.X _ _ hC
 have E:=excCls he cx.w.params
 obtain ⟨hp,g,d,tk,os⟩:=s
 refine exc_setAttr I.X (hR _) hO hC' E.sa E.why ho fun h' tk' hk hx=>(iX1b _ (I.upd (t:=tk') hm hk hx (ao':=.exc C false) (iX2b _ _ (fun q=>by cases q) rfl)) h)
end
noncomputable def specFault : Spec:=fun args mem Q _=>∃ e C x,args = [.ref e,.str x] /\ isExc C = true /\ mem e = some (.exc C true) /\ Q .none (mset mem e (.exc C false))
theorem fnFault : FnC 1 28 specFault:=by
 refine FnC.go (d:=mt 1 0) (qual:=S "PoolFault.__init__") ["self","why"] (fun P=>rfl) (fun P=>by rfl) (by rfl) ?_ ?_
 ·exact fun _ _ _ _=>BindsTo.of_eq (by rfl)
 ·intro args mem Q X zz222;refine eX3d zz222 ?_;clear zz222;intro e C x ee223 he hm hQ;subst ee223
  refine ⟨rfl,fun cx hs hw rm=>?_⟩
  refine SV.cons (S1.expr ?_ _ hs)
  refine EV.methU (EV.blt hs (v:=.type "Exception") (by rfl) (by rfl) ?_)
  refine MethU.excInit ?_
  refine EVs.consS rfl ?_
  refine EVs.s rfl ?_
  refine CallV.excInit he hm ?_
  refine SV.cons (S1.setAttr hs ?_)
  refine EV.name rfl ?_
  refine EV.name rfl ?_
  refine SetAttrV.why he hm ?_
  exact SV.nil hQ
theorem CallV.exc {cx : Cx} {X : MQ Addr} {mem : Mem} {Q : MQ AV} {C : Addr} {x : Str} (he : isExc C = true) (rm : Rm 2 cx.A) (h : ∀ e,mem e = none -> Q (.ref e) (mset mem e (.exc C false))) : CallV cx (.ref C) [.str x] mem Q X:=fun loc vs hvs s I=>by
 refine eX1b (one_of hvs) fun y ee224 h1=>?_;subst ee224
 refine eX4a (excCls he cx.w.params).obj fun nm q N bs z=>?_;refine eX4a z fun bm sn sub ab z=>?_;refine eX4a z fun col dd k0 k1 z=>?_;refine eX3g z fun k2 k3 k5 hC hO hR h1' h2' h3' h4'=>?_
 have EC:=excCls he cx.w.params
 have hC':=I.X _ _ hC
 have I1 : InSt cx loc mem { s with heap:=s.heap.push { cls:=.type "tuple",data:=.seq [y].toArray } }:=I.grow (t:=s.toks) fun b o e=>Heap.get?_push_of_some _ e
 have hsz : (s.heap.push { cls:=.type "tuple",data:=.seq [y].toArray }).objs.size = s.heap.objs.size + 1:=Heap.size_push ..
 have hn:=I1.fresh.1
 have I2:=I1.push (t:=s.toks) (o:=excObj C s.heap.objs.size none) (ao:=.exc C true) (iX2b _ none (fun _=>rfl) rfl)
 rw [show ({ s with heap:=s.heap.push { cls:=.type "tuple",data:=.seq [y].toArray } } : Shared).heap.objs.size = s.heap.objs.size + 1 from hsz] at hn I2
 have I3 : InSt (cx.withA (cx.A.under (.builtin "type.__call__" ⟨.ref C :: [y],[]⟩))) loc (mset mem (s.heap.objs.size + 1) (.exc C true)) _ :=
  I2.withA (by have:=rm.depth;show cx.A.depth + 1 <= 900;lia) (by have:=rm.units;show cx.A.units + 1 <= 9000;lia) I.ok.handled I.ok.frames
 have call:=fnFault (cx.withA (cx.A.under (.builtin "type.__call__" ⟨.ref C :: [y],[]⟩))) [.ref (s.heap.objs.size + 1),.str x] (mset mem (s.heap.objs.size + 1) (.exc C true))
  (fun a m=>a = .none /\ m = mset (mset mem (s.heap.objs.size + 1) (.exc C true)) (s.heap.objs.size + 1) (.exc C false)) NoX ⟨by have:=rm.depth;show cx.A.depth + 1 + 20 * 1 <= 900;lia,by have:=rm.units;show cx.A.units + 1 + 200 * 1 <= 9000;lia,rm.handled⟩
  (iX3e _ C x rfl he (mset_same ..) rfl rfl) loc [.ref (s.heap.objs.size + 1),y] (by simp only [List.map_cons,List.map_nil,h1];rfl) _ I3
 obtain ⟨hp,g,d,tk,os⟩:=s
 refine exc_call I.X EC.init EC.fn h1' h2' h3' hC' (wpAny_mono call (fun v s' zq80=>eX1c zq80 fun m' I' e1 e2=>⟨er_none e1,m',InSt.ofA I.ok I',?_⟩) fun _ _ zq81=>eX2b zq81 fun _ _ _ x=>x.elim)
 rw [e2,mset_mset]
 exact h _ hn
noncomputable abbrev KRaise (X : MQ Addr) (C : Addr) : MQ AV:=fun a m=>∃ e m',a = .ref e /\ m = mset m' e (.exc C false) /\ m' e = none /\ X C m'
theorem S1.raise {cx : Cx} {X : MQ Addr} {Qr : MQ AV} {loc : Loc} {mem : Mem} {Qn : LQ} {e : Expr} {pos : Pos} {C : Addr} (he : isExc C = true)
  (h : EV cx e loc mem (KRaise X C) X) : S1 cx (.Raise (some e) none pos) loc mem Qn Qr X:=fun s I=>by
 refine eX4a (excCls he cx.w.params).obj fun nm q N bs z=>?_;refine eX4a z fun bm sn sub ab z=>?_;refine eX4a z fun col dd k0 k1 z=>?_;refine eX3g z fun k2 k3 k5 hC hO hR h1' h2' h3' h4'=>?_
 rw [arm_exec_Raise]
 simp only [evalOpt,Option.map]
 refine wpAny_bind (wpAny_standAt (exc_raise (C:=C) (N:=N) (nm:=nm) (q:=q) (bs:=bs) (bm:=bm) (sn:=sn) (hdct:=true) (sub:=sub) (ab:=ab) (col:=col) (dd:=dd) (k0:=k0) (k1:=k1) (k2:=k2) (k3:=k3) (k5:=k5) h4' I.ok.handled
  (wpAny_bind (TV.go h I fun v s1 m1 I1 z=>eX2d z fun e m' e1 e2 e3 hX=>wpAny_bind (wpAny_standAt (wpAny_pure ?_))))))
 subst e2
 refine eX1b (I1.get (mset_same m' e _)) fun o ho z=>?_;refine eX2b z fun t dd' _ ro=>?_;subst ro
 exact ⟨e,t,dd',er_ref e1,I1.X _ _ hC,ho,C,m',I1.raised e3,hX⟩
theorem S1.raiseC {cx : Cx} {X : MQ Addr} {Qr : MQ AV} {loc : Loc} {mem : Mem} {Qn : LQ} {f : Str} {p pos cpos apos : Pos} {x : Str} {k : Nat} {sc : Scope} {C : Addr} (he : isExc C = true) (hs : cx.env.scope = sc) (rm : Rm 2 cx.A)
  (hf : FunN f (.ref C)) (h : X C mem) (hn : sc.names.lookup f = some .globalImplicit:=by rfl) :
  S1 cx (.Raise (some (.Call (.Name f p) [.Constant (.str x) k apos] [] cpos)) none pos) loc mem Qn Qr X :=
 .raise he (EV.callF hs hf (EVs.s rfl (CallV.exc he rm fun e hn=>(iX2d e mem rfl rfl hn h))) hn)
theorem nF56 : FunN (Str.ofString "Missing") (.ref 56):=fun P=>by kernel_rfl
theorem nF68 : FunN (Str.ofString "Exists") (.ref 68):=fun P=>by kernel_rfl
theorem nF80 : FunN (Str.ofString "Misused") (.ref 80):=fun P=>by kernel_rfl
theorem nF92 : FunN (Str.ofString "Broken") (.ref 92):=fun P=>by kernel_rfl
theorem zip_append_lookup {names : List Str} {vs : List AV} {loc : Loc} : ((names.zip vs).reverse.foldl (fun (l : Loc) p=>p :: l) loc) = names.zip vs ++ loc:=by
 rw [List.foldl_reverse]
 induction names.zip vs with
 | nil=>rfl
 | cons p r ih=>rw [List.foldr_cons,ih];rfl
section
variable {cx : Cx} {X : MQ Addr} {Qr : MQ AV} {loc : Loc} {mem : Mem} {Qn : LQ} {pos tpos : Pos} {sc : Scope} {elts : List Expr} {value : Expr} {k : Nat}
noncomputable abbrev KTo (cx : Cx) (loc : Loc) (t : Expr) (Qn : LQ) : MQ AV:=fun a m=>AsgV cx t a loc m Qn
theorem S1.tuple (hs : cx.env.scope = sc) (h : EV cx value loc mem (KTo cx loc (.Tuple elts k tpos) Qn) X)
  (hw1 : swapsWithSole [.Tuple elts k tpos] value pos.line (scEnv sc) = pure false:=by rfl) (hw2 : swappedStores [.Tuple elts k tpos] value (scEnv sc) = pure none:=by rfl) :
  S1 cx (.Assign [.Tuple elts k tpos] value pos) loc mem Qn Qr X:=fun s I =>
 Assign_Tuple (TV.go h I fun v s1 m1 I1 h1=>wpAny_mono (h1 v s1 _ rfl I1) (fun _ s2 zq84=>eX2b zq84 fun l2 m2 I2 h2=>(iX2b l2 m2 I2 h2)) fun _ _ x=>x) (by subst hs;exact hw1) (by subst hs;exact hw2)
theorem storeAll {E : Value -> Shared -> Prop} (hs : cx.env.scope = sc) : ∀ (ps : List (Str × Value)) (loc : Loc) (s : Shared) {Q : Unit -> Shared -> Prop},InSt cx loc mem s -> (∀ p ∈ ps,sc.names.lookup p.1 = some .local) ->
  (∀ s',InSt cx (ps.foldl (fun l p=>(p.1,er p.2) :: l) loc) mem s' -> Q () s') -> wpAny (model pw cx.w) cx.A (assignInOrder (ps.map fun p=>bindName cx.env p.1) (ps.map (·.2))) Q E s
 | [],loc,s,Q,I,_,h=>wpAny_pure (h s I)
 | p :: ps,loc,s,Q,I,hl,h=>by
  show wpAny _ _ (holding (ps.map (·.2)) (bindName cx.env p.1 p.2) >>= fun _=>assignInOrder (ps.map fun p=>bindName cx.env p.1) (ps.map (·.2))) _ _ _
  refine wpAny_bind (wpAny_holding (bindName_ (I.setLocal (by subst hs;exact hl p (.head _)) fun s' I'=>?_)))
  exact storeAll hs ps _ s' I' (fun q hq=>hl q (.tail _ hq)) h
noncomputable abbrev KSwap (loc : Loc) (names : List Str) (Qn : LQ) : MQ AV:=fun a m=>∃ t vs,a = .ref t /\ m t = some (.tuple vs) /\ vs.length = names.length /\ Qn (names.zip vs ++ loc) m
theorem S1.swap (names : List Str) (hs : cx.env.scope = sc) (h : EV cx value loc mem (KSwap loc names Qn) X)
  (hn : names.all (fun n=>sc.names.lookup n == some .local) = true:=by rfl)
  (hw1 : swapsWithSole [.Tuple elts k tpos] value pos.line (scEnv sc) = pure false:=by rfl) (hw2 : swappedStores [.Tuple elts k tpos] value (scEnv sc) = pure (some names):=by rfl) :
  S1 cx (.Assign [.Tuple elts k tpos] value pos) loc mem Qn Qr X:=fun s I=>by
 refine Assign_Tuple_swapped (names:=names) (TV.go h I fun v s1 m1 I1 z=>eX2d z fun t vs e1 e2 e3 h1=>?_) (by subst hs;exact hw1) (by subst hs;exact hw2)
 cases er_ref e1
 refine eX2c (I1.tuple e2) fun its n ho hv hz=>?_
 have hlen : names.length = its.size:=by rw [hz,e3]
 rw [hlen]
 refine wpAny_unpackItems_tuple I1.ok.handled ⟨_,ho,rfl,n,rfl⟩ fun h' x=>?_
 have I2 : InSt cx loc m1 { s1 with heap:=h' }:=I1.grow (t:=s1.toks) fun b o e=>x b o (Nat.ne_of_lt (Heap.lt_size e)) e
 have e4 : names.reverse.map (fun n=>bindName cx.env n) = (names.zip its.toList).reverse.map fun p=>bindName cx.env p.1:=by
  have : names.reverse = (names.zip its.toList).reverse.map (·.1):=by rw [List.map_reverse,map_zip_fst _ _ (by rw [hlen];simp)]
  rw [this,List.map_map];rfl
 have e5 : its.toList.reverse = (names.zip its.toList).reverse.map (·.2):=by
  rw [List.map_reverse]
  congr 1
  rw [List.map_snd_zip];simp [hlen]
 rw [e4,e5]
 refine storeAll hs _ _ _ I2 (fun p hp=>?_) fun s' I'=>(iX2b _ m1 I' ?_)
 ·have hp1 : p.1 ∈ names:=by
   have:=(List.mem_reverse.mp hp)
   have h2 : p.1 ∈ (names.zip its.toList).map (·.1):=List.mem_map_of_mem this
   rwa [map_zip_fst _ _ (by rw [hlen];simp)] at h2
  exact eq_of_beq (List.all_eq_true.mp hn _ hp1)
 ·have e6 : (names.zip its.toList).reverse.foldl (fun l p=>(p.1,er p.2) :: l) loc = names.zip vs ++ loc:=by
   rw [<- zip_append_lookup,<- hv,<- map_zip_er,<- List.map_reverse,List.foldl_map]
  rw [e6];exact h1
end
noncomputable abbrev KCh3 (cx : Cx) (X : MQ Addr) (loc : Loc) (f : Value -> Value -> Sem Value) (b : AV) (r : Expr) (Q : MQ Bool) : MQ Bool:=fun t m=>if t = true then EV cx r loc m (KOp cx X f b (KTr cx X Q)) X else Q false m
noncomputable abbrev KCh2 (cx : Cx) (X : MQ Addr) (loc : Loc) (f : Value -> Value -> Sem Value) (g : Value -> Value -> Sem Value) (a : AV) (r : Expr) (Q : MQ Bool) : MQ AV:=fun b m=>Op2 cx f a b m (KTr cx X (KCh3 cx X loc g b r Q)) X
noncomputable abbrev KCh (cx : Cx) (X : MQ Addr) (loc : Loc) (f : Value -> Value -> Sem Value) (g : Value -> Value -> Sem Value) (r1 : Expr) (r2 : Expr) (Q : MQ Bool) : MQ AV:=fun a m=>EV cx r1 loc m (KCh2 cx X loc f g a r2 Q) X
theorem BV.cmp2 {cx : Cx} {X : MQ Addr} {loc : Loc} {mem : Mem} {Q : MQ Bool} {l r1 r2 : Expr} {op1 op2 : CmpOp} {pos : Pos}
  (h : EV cx l loc mem (KCh cx X loc (compareOp op1) (compareOp op2) r1 r2 Q) X)
  (hm : lastMarks [op1,op2] [r1,r2] = false:=by with_unfolding_all rfl) : BV cx (.Compare l [op1,op2] [r1,r2] pos) loc mem Q X:=fun s I=>by
 refine isTrue_chain (TV.go h I fun a s1 m1 I1 h1=>test_link (TV.go h1 I1 fun b s2 m2 I2 h2=>wpAny_mono (h2 loc a b rfl rfl s2 I2) (fun c s3 zq88=>eX1b zq88 fun m3 I3 h3=>wpAny_mono (h3 loc c rfl s3 I3) (fun t s4 zq89=>eX1b zq89 fun m4 I4 h4=>?_) fun _ _ x=>x) fun _ _ x=>x)) hm
 cases t with
 | true =>
  exact test_last (TV.go h4 I4 fun c' s5 m5 I5 h5=>wpAny_mono (h5 loc b c' rfl rfl s5 I5) (fun d s6 zq91=>eX1b zq91 fun m6 I6 h6=>h6 loc d rfl s6 I6) fun _ _ x=>x)
 | false =>
  exact (iX1b m4 I4 h4)
section
variable {cx : Cx} {X : MQ Addr} {loc : Loc} {mem : Mem} {Q : MQ AV} {pos : Pos}
theorem EV.dict0I (b : Bool) (h : ∀ d,mem d = none -> Q (.ref d) (mset mem d (.dictI b none []))) : EV cx (.Dict [] [] pos) loc mem Q X:=fun s I =>
 wpAny_Dict_empty (iX1b _ (I.push (t:=s.toks) (ao:=.dictI b none []) (iX2d ([]) 0 rfl .nil .nil (fun _ q=>by cases q))) (h _ I.fresh.1))
theorem EV.dict0S (b : Bool) (h : ∀ d,mem d = none -> Q (.ref d) (mset mem d (.dictS b []))) : EV cx (.Dict [] [] pos) loc mem Q X:=fun s I =>
 wpAny_Dict_empty (iX1b _ (I.push (t:=s.toks) (ao:=.dictS b []) (iX2c ([]) 0 rfl .nil .nil)) (h _ I.fresh.1))
end
theorem CallV.make {cx : Cx} {X : MQ Addr} {mem : Mem} {Q : MQ AV} {C fI : Addr} {as : List AV} (b : Bool) {n : Nat} (hm : ∀ P,makesIn (KF P) C = true) (hi : ∀ P,findIn (KF P) (.ref C) "__init__" = some (some (.ref fI))) (hf : ∀ P,typeIn (KF P) (.ref fI) = some (.type "function"))
  (rm : Rm (n + 1) cx.A) (h : ∀ x d A,mem x = none -> mem d = none -> x ≠ d -> Rm n A -> CodeV (cx.withA A) (.ref fI) (.ref x :: as) (mset (mset mem d (.dictS b [])) x (.inst C d)) (fun a m=>a = .none /\ Q (.ref x) m) NoX) : CallV cx (.ref C) as mem Q X:=fun loc vs hvs s I=>by
 have Y:=makes_of (M:=model pw cx.w) I.X (hm cx.w.params)
 have I1:=I.push (t:=s.toks) (o:=emptyDict) (ao:=.dictS b []) (iX2c ([]) 0 rfl .nil .nil)
 have hsz : (s.heap.push emptyDict).objs.size = s.heap.objs.size + 1:=Heap.size_push ..
 have hn:=I.fresh.1
 have hn1:=I1.fresh.1
 have I2:=I1.push (t:=s.toks) (o:=instObj C s.heap.objs.size) (ao:=.inst C s.heap.objs.size) rfl
 simp only [hsz] at hn1 I2
 have hne : s.heap.objs.size + 1 ≠ s.heap.objs.size:=Nat.succ_ne_self _
 rw [mset_ne hne] at hn1
 have I3 : InSt (cx.withA (cx.A.under (.builtin "type.__call__" ⟨.ref C :: vs,[]⟩))) loc _ _ :=
  I2.withA (A:=cx.A.under (.builtin "type.__call__" ⟨.ref C :: vs,[]⟩)) (by have:=rm.depth;show cx.A.depth + 1 <= 900;lia) (by have:=rm.units;show cx.A.units + 1 <= 9000;lia) I.ok.handled I.ok.frames
 have call:=h (s.heap.objs.size + 1) s.heap.objs.size (cx.A.under (.builtin "type.__call__" ⟨.ref C :: vs,[]⟩)) hn1 hn hne ⟨by have:=rm.depth;show cx.A.depth + 1 + 20 * n <= 900;lia,by have:=rm.units;show cx.A.units + 1 + 200 * n <= 9000;lia,rm.handled⟩
  loc (.ref (s.heap.objs.size + 1) :: vs) _ (by rw [List.map_cons,hvs];rfl) I3
 obtain ⟨hp,g,d,tk,os⟩:=s
 refine wpAny_call (make_core Y (looks_findIn I.X (hi cx.w.params)) (fun self=>bind_fn I.X self (hf cx.w.params)) (.inl rfl) ?_)
 refine codeAny_mono call fun r s' z=>?_
 rcases r with e | (_ | _ | _ | v)
 ·refine eX2b z fun _ _ _ z=>?_;exact z.elim
 ·exact z.elim
 ·exact z.elim
 ·exact z.elim
 ·refine eX1c z fun m' I' e1 hq=>?_
  exact ⟨er_none e1,m',InSt.ofA I.ok I',hq⟩
section
variable {w : World} {A : Around} {E : Value -> Shared -> Prop} {s : Shared}
theorem sortList {D : Addr} {vs : List Value} {ns : List Int} {Q : Value -> Shared -> Prop} (ho : s.heap.get? D = some (seqObj "list" vs.toArray 0)) (hI : IntsAre vs ns) (h64 : vs.length < 64)
  (h : ∀ (out : Array Value) (ns' : List Int),IntsAre out.toList ns' -> ns'.Perm ns -> ns'.Pairwise (· <= ·) -> Q .none { s with heap:=sortedHeap s.heap D vs out }) :
  wpAny (model pw w) A (call (.builtin "list.sort") [.ref D]) Q E s :=
 wpAny_call_entry PyProof.Rows.slot_list_sort (iX1b _ ho rfl) PyProof.Rows.entry_list_sort (list_sort_tree ho hI h64 fun out ns' h1 h2 h3=>(iX1b .none rfl (h out ns' h1 h2 h3))) (PyProof.Rows.args_list_sort _)
theorem sortListS {D : Addr} {vs : List Value} {ss : List Str} {Q : Value -> Shared -> Prop} (ho : s.heap.get? D = some (seqObj "list" vs.toArray 0)) (hS : StrsAre vs ss) (h64 : vs.length < 64)
  (h : ∀ (out : Array Value) (ss' : List Str),StrsAre out.toList ss' -> ss'.Perm ss -> Q .none { s with heap:=sortedHeap s.heap D vs out }) :
  wpAny (model pw w) A (call (.builtin "list.sort") [.ref D]) Q E s :=
 wpAny_call_entry PyProof.Rows.slot_list_sort (iX1b _ ho rfl) PyProof.Rows.entry_list_sort (list_sort_treeK strKind_oneLt ho hS.keysOf (fun v₁ v₂ rest e=>keyKind_strs (by rw [<- e];exact hS)) h64 fun st' hp hs=>by
  refine eX1c (sorted_out_str hS hp hs) fun ss' h1 h2 _=>?_
  exact (iX1b .none rfl (h _ ss' h1 h2))) (PyProof.Rows.args_list_sort _)
theorem sortedOf {v : Value} {Q : Value -> Shared -> Prop} (h : wpAny (model pw w) A.in1 (collect v) (fun vs s₁=>vs.length <= 16777216 /\
   wpAny (model pw w) A.in1 (call (.builtin "list.sort") [.ref s₁.heap.objs.size]) (fun _ s'=>Q (.ref s₁.heap.objs.size) s') E { s₁ with heap:=s₁.heap.push (seqObj "list" vs.toArray 0) }) E s) :
  wpAny (model pw w) A (call (.builtin "sorted") [v]) Q E s:=by
 refine call_function_entry kind_sorted plain_sorted entry_sorted (args_sorted1 _) ?_
 unfold Builtin.«sorted»
 refine wpAny_bind (m:=checkCount "sorted" 1 1 _) (wpAny_pure ?_)
 refine wpAny_bind (wpAny_mono h (fun vs s₁ zq92=>eX0b zq92 fun hl h1=>wpAny_bind (wpAny_newList ?_ (by rw [sizeLine_eq];exact hl))) fun _ _ x=>x)
 exact wpAny_bind (wpAny_holding (wpAny_mono h1 (fun _ s' x=>wpAny_pure (iX1b _ rfl x)) fun _ _ e=>e))
end
theorem sortedHeap_made {cx : Cx} {loc : Loc} {mem : Mem} {s : Shared} {vs : List Value} {out : Array Value} (I : InSt cx loc mem s) :
  InSt cx loc (mset mem s.heap.objs.size (.list (out.toList.map er))) { s with heap:=sortedHeap (s.heap.push (seqObj "list" vs.toArray 0)) s.heap.objs.size vs out }:=by
 have hsz : (s.heap.push (seqObj "list" vs.toArray 0)).objs.size = s.heap.objs.size + 1:=Heap.size_push ..
 refine eX1a (sortedHeap_at (h:=s.heap.push (seqObj "list" vs.toArray 0)) (a:=s.heap.objs.size) (vs:=vs) (n:=0) (out:=out) (Heap.get?_push_size _ rfl)) fun e he=>?_
 exact I.made (t:=s.toks) (ao:=.list (out.toList.map er)) (fun b o hb=>(sortedHeap_old (Nat.ne_of_lt (Heap.lt_size hb)) (by rw [hsz];exact Nat.lt_succ_of_lt (Heap.lt_size hb))).trans (Heap.get?_push_of_some _ hb)) he (iX2b out e rfl rfl)
theorem strs_of : ∀ {vs : List Value} {ns : List Str},vs.map er = ns.map .str -> StrsAre vs ns
 | [],[],_=>.nil
 | [],_ :: _,h=>by cases h
 | _ :: _,[],h=>by cases h
 | v :: vs,n :: ns,h=>by
  simp only [List.map_cons,List.cons.injEq] at h
  refine eX1a (er_str h.1) fun t ee225=>?_;subst ee225
  exact .cons n t (strs_of h.2)
theorem er_strs {vs : List Value} {ns : List Str} (x : StrsAre vs ns) : vs.map er = ns.map .str:=by
 induction x with
 | nil=>rfl
 | cons n t r ih=>exact congrArg (AV.str n :: ·) ih
section
variable {cx : Cx} {X : MQ Addr} {mem : Mem} {Q : MQ AV} {l : Addr}
theorem CallV.sorted {ns : List Int} (e : mem l = some (.list (ns.map .int))) (hn : ns.length < 64) (h : ∀ (ns' : List Int) q,ns'.Perm ns -> ns'.Pairwise (· <= ·) -> mem q = none -> Q (.ref q) (mset mem q (.list (ns'.map .int)))) :
  CallV cx (.builtin "sorted") [.ref l] mem Q X:=fun loc vs hvs s I=>by
 refine eX1b (one_of hvs) fun x ee226 h1=>?_;subst ee226
 cases er_ref h1
 refine eX2c (I.list e) fun its n ho r hs=>?_
 rw [List.length_map] at hs
 have hi:=ints_of r
 have hl : s.heap.IsList l its.toList.toArray:=by rw [Array.toArray_toList];exact ⟨_,ho,rfl,n,rfl⟩
 refine sortedOf (collect_list hl (iX0b (by simp;lia) ?_) (by rw [sizeLine_eq];simp;lia))
 have I1 : InSt cx loc mem { s with heap:=(s.heap.push (seqObj "list" #[] 0)).update s.heap.objs.size (Obj.mapSeq (· ++ its.toList.toArray)) } :=
  I.grow (t:=s.toks) fun b o hb=>by rw [Heap.get?_update_other _ _ (Nat.ne_of_gt (Heap.lt_size hb))];exact Heap.get?_push_of_some _ hb
 refine sortList (Heap.get?_push_size _ rfl) hi (by simp;lia) fun out ns' h2 h3 h4=>(iX1b _ (sortedHeap_made I1) ?_)
 rw [er_ints h2]
 exact h ns' _ h3 h4 I1.fresh.1
theorem CallV.sortedDI {b : Bool} {ep : Option Nat} {es : List (Int × AV)} (e : mem l = some (.dictI b ep es)) (hn : es.length < 64) (h : ∀ (ns' : List Int) q,ns'.Perm (es.map (·.1)) -> ns'.Pairwise (· <= ·) -> mem q = none -> Q (.ref q) (mset mem q (.list (ns'.map .int)))) :
  CallV cx (.builtin "sorted") [.ref l] mem Q X:=fun loc vs hvs s I=>by
 refine eX1b (one_of hvs) fun x ee227 h1=>?_;subst ee227
 cases er_ref h1
 refine eX1b (I.dict (dkI b cx.w) e) fun kvs hd ee228=>?_;subst ee228
 refine eX1a (hd.dictAt) fun ep' hat=>?_
 rw [List.length_map] at hn
 refine sortedOf (kdu_collect (A:=cx.A.in1) (kdl_dict (knd:=intKind pw cx.w) (kvs:=kvs) (ep:=ep') (I.notSys e)) I.ok.handled hat (by rw [sizeLine_eq];lia) fun h' tk acc hk hacc=>?_)
 have hlen : acc.toList.length = kvs.length:=by rw [Array.length_toList];exact hacc.1
 have hi : IntsAre acc.toList (kvs.map (·.1)):=by
  refine ints_of (List.ext_getElem? fun i=>?_)
  rw [List.getElem?_map,List.getElem?_map,List.getElem?_map]
  cases q : acc.toList[i]? with
  | none =>
   have : kvs.length <= i:=by rw [<- hlen];exact List.getElem?_eq_none_iff.mp q
   rw [List.getElem?_eq_none this];rfl
  | some v =>
   refine eX2b (hacc.2 i v (by rw [<- Array.getElem?_toList];exact q)) fun k x hx hk'=>?_
   refine eX1a (Value.isInt_shape hk') fun t ee229=>?_;subst ee229
   rw [hx];rfl
 have I1 : InSt cx loc mem { s with heap:=h',toks:=tk }:=I.grow hk
 refine (iX0b (by rw [hlen];lia) (sortList (Heap.get?_push_size _ rfl) hi (by rw [hlen];exact hn) fun out ns' h2 h3 h4=>(iX1b _ (sortedHeap_made I1) ?_)))
 rw [er_ints h2]
 exact h ns' _ (by rw [List.map_map];exact h3) h4 I1.fresh.1
theorem CallV.sortedDS {b : Bool} {es : List (Str × AV)} (e : mem l = some (.dictS b es)) (hn : es.length < 64) (h : ∀ (ss : List Str) q,ss.Perm (es.map (·.1)) -> mem q = none -> Q (.ref q) (mset mem q (.list (ss.map .str)))) :
  CallV cx (.builtin "sorted") [.ref l] mem Q X:=fun loc vs hvs s I=>by
 refine eX1b (one_of hvs) fun x ee230 h1=>?_;subst ee230
 cases er_ref h1
 refine eX1b (I.dict (dkS b cx.w) (ep:=none) e) fun kvs hd ee231=>?_;subst ee231
 refine eX1a (hd.dictAt) fun ep' hat=>?_
 rw [List.length_map] at hn
 refine sortedOf (kdu_collect (A:=cx.A.in1) (kdl_dict (knd:=strKind pw cx.w) (kvs:=kvs) (ep:=ep') (I.notSys e)) I.ok.handled hat (by rw [sizeLine_eq];lia) fun h' tk acc hk hacc=>?_)
 have hlen : acc.toList.length = kvs.length:=by rw [Array.length_toList];exact hacc.1
 have hi : StrsAre acc.toList (kvs.map (·.1)):=by
  refine strs_of (List.ext_getElem? fun i=>?_)
  rw [List.getElem?_map,List.getElem?_map,List.getElem?_map]
  cases q : acc.toList[i]? with
  | none =>
   have : kvs.length <= i:=by rw [<- hlen];exact List.getElem?_eq_none_iff.mp q
   rw [List.getElem?_eq_none this];rfl
  | some v =>
   refine eX2b (hacc.2 i v (by rw [<- Array.getElem?_toList];exact q)) fun k x hx hk'=>?_
   refine eX1a (Value.isStrOf_shape hk') fun t ee232=>?_;subst ee232
   rw [hx];rfl
 have I1 : InSt cx loc mem { s with heap:=h',toks:=tk }:=I.grow hk
 refine (iX0b (by rw [hlen];lia) (sortListS (Heap.get?_push_size _ rfl) hi (by rw [hlen];exact hn) fun out ss h2 h3=>(iX1b _ (sortedHeap_made I1) ?_)))
 rw [er_strs h2]
 exact h ss _ (by rw [List.map_map];exact h3) I1.fresh.1
end
theorem list_noKeys : typeLookup (.type "list") (Str.ofString "keys") = pure none:=by rw [typeLookup_type,builtinLookup_eq_fast];kernel_rfl
theorem getAttr_no {w : World} {A : Around} {E : Value -> Shared -> Prop} {s : Shared} {a : Addr} {xs : Array Value} {k : Nat} {Q : Option Value -> Shared -> Prop}
  (hx : s.heap.get? a = some (listOf xs k)) (hA : A.handled = none)
  (h : ∀ h' tk,(∀ b o,s.heap.get? b = some o -> h'.get? b = some o) -> Q none { s with heap:=h',toks:=tk }) :
  wpAny (model pw w) A (getAttr? (.ref a) "keys") Q E s:=by
 have hmiss:=list_noKeys
 have hname : (["__module__","__name__","__qualname__","__doc__","__annotations__"] : List Str).contains (Str.ofString "keys") = false:=by decide
 have hsz : (Str.ofString "keys").length + 100 <= sizeLine:=by rw [sizeLine_eq];decide
 obtain ⟨hp,g,d,tk,os⟩:=s
 have hT : ∀ tk',(⟨hp,g,d,tk',os⟩ : Shared).TypeIs (.ref a) "list":=fun _=>(iX1b _ hx rfl)
 have f1:=sub_AttributeError
 have f3:=PySem.F.slot_list_getattribute.lookup
 have f4:=PySem.F.slot_list_getattribute.bind (.ref a)
 have f5:=am_list_getattr_none
 generalize hnm : Str.ofString "keys" = name at *
 as_aux_lemma =>
 unfold getAttr? getAttrBy? getAttrBy
 repeat (any_goals (first | assumption | exact hT _ | ((with_reducible show wpAny _ _ (call (Value.builtin "list.__getattribute__") _ _) _ _ _);refine call_meets PySem.F.slot_list_getattribute (hT _) am_entry_list_getattribute (PySem.F.args_list_getattribute_2 _ _) (meets_getattribute_miss_list a xs k #[] name _ hmiss hname hsz) (iX0c hx hA (fun h' tk' e hx'=>?_))) | wp_step))
 refine eX2a (hx'.there) fun t' u' he=>?_
 show wpAny _ _ (getattributeRaised _ _ _ _ _ _ _) _ _ _
 unfold getattributeRaised
 repeat (any_goals (first | assumption | wp_step))
 exact h _ _ hx'.keeps
theorem entry_dict_uloop : entryFor table "dict.update.loop" = some Builtin.«dict.update.loop»:=entryFor_of_tree (by kernel_rfl)
theorem plain_dict_uloop : plainId "dict.update.loop" = true:=by decide +kernel
theorem pairItems_tup {w : World} {A : Around} {E : Value -> Shared -> Prop} {s : Shared} {a : Addr} {its : Array Value} {n : Nat} {Q : List Value -> Shared -> Prop} (ho : s.heap.get? a = some (tupOf its n)) (h : Q its.toList s) : wpAny (model pw w) A (Builtin.Dict.pairItems (.ref a)) Q E s:=by
 unfold Builtin.Dict.pairItems
 refine wpAny_bind (wpAny_typeOf (T:="tuple") (iX1b _ ho rfl) ?_)
 refine wpAny_ite_split (fun _=>?_) (fun hab=>absurd (by decide) hab)
 refine wpAny_bind (wpAny_seqItems ho rfl ?_)
 exact wpAny_pure h
theorem lk_mem {k : Int} {v : AV} : ∀ {es : List (Int × AV)},es.lookup k = some v -> (k,v) ∈ es
 | [],h=>by cases h
 | (k',v') :: r,h=>by
  rw [List.lookup_cons] at h
  cases q : k == k' with
  | true=>rw [q] at h;cases h;rw [eq_of_beq q];exact .head _
  | false=>rw [q] at h;exact .tail _ (lk_mem h)
theorem nodup_snoc_keys {es : List (Int × AV)} {p : Int × AV} {r : List (Int × AV)} (h : ((es ++ p :: r).map (·.1)).Nodup) : es.lookup p.1 = none:=by
 rw [List.map_append,List.nodup_append] at h
 refine eX0c h fun _ _ h3=>?_
 cases q : es.lookup p.1 with
 | none=>rfl
 | some v=>exact absurd rfl (h3 p.1 (List.mem_map.mpr (iX1b (p.1,v) (lk_mem q) rfl)) p.1 (.head _))
theorem sput_nw {k : Int} {v : AV} : ∀ {es : List (Int × AV)},es.lookup k = none -> sput es k v = es ++ [(k,v)]
 | [],_=>rfl
 | (k',v') :: r,h=>by
  rw [List.lookup_cons] at h
  cases q : k == k' with
  | true=>rw [q] at h;cases h
  | false =>
   rw [q] at h
   unfold sput
   rw [if_neg (Ne.symm (beq_eq_false_iff_ne.mp q)),sput_nw h];rfl
theorem sput_ln (k : Int) (v : AV) : ∀ es : List (Int × AV),(sput es k v).length <= es.length + 1
 | []=>by simp [sput]
 | (k',v') :: r=>by
  unfold sput
  split
  ·simp
  ·have:=sput_ln k v r;simp only [List.length_cons];lia
theorem foldl_sput_nodup : ∀ (kvs done : List (Int × AV)),((done ++ kvs).map (·.1)).Nodup -> kvs.foldl (fun es p=>sput es p.1 p.2) done = done ++ kvs
 | [],done,_=>by simp
 | kv :: kvs,done,h=>by
  rw [List.foldl_cons,sput_nw (nodup_snoc_keys h),foldl_sput_nodup kvs _ (by simpa using h)];simp
theorem dictLoop {cx : Cx} {loc : Loc} {A0 : Around} {R : Result -> Shared -> Prop} (hA : cx.A = A0.in1) {m0 : Mem} {D it l : Addr} {b : Bool} (hD : m0 D = none) (hit : m0 it = none) (hne : it ≠ D) : ∀ (rs : List Addr) (kvs done : List (Int × AV)) (k : IK) (i : Int) (tk : Tok) (s : Shared),
  All2 (fun r kv=>m0 r = some (.tuple [.int kv.1,kv.2])) rs kvs -> InSt cx loc (mset (mset m0 D (.dictI b none done)) it (.iter k)) s -> Yld m0 k (rs.map .ref) -> ksrc k = some l -> l ≠ D -> done.length + kvs.length <= 1000 ->
  (∀ s',InSt cx loc (mset m0 D (.dictI b none (kvs.foldl (fun es p=>sput es p.1 p.2) done))) s' -> R (.ok (.ret .none)) s') -> codeAny (model pw cx.w) A0 (.builtin "dict.update.loop" ⟨[.ref D,.ref it,.int i tk,.none],[]⟩) R s:=by
 intro rs
 induction rs with
 | nil =>
  intro kvs done k i tk s ha I y hk hlD hlen hR
  cases ha
  have y' : Yld (mset m0 D (.dictI b none done)) k []:=y.keep fun d hd=>by rw [hk] at hd;cases hd;exact mset_ne hlD
  refine codeAny_builtin entry_dict_uloop ?_
  rw [Around.under_plainId plain_dict_uloop _,<- hA]
  show wpAny _ cx.A (pyNext (.ref it) >>= _) _ _ s
  refine wpAny_bind (nextEnd I ((mset_ne hne).trans hit) y' fun s' I'=>?_)
  refine wpAny_bind (m:=Builtin.Dict.addKeywords _ _) (wpAny_pure ?_)
  exact wpAny_pure (hR _ I')
 | cons r rs ih =>
  intro kvs done k i tk s ha I y hk hlD hlen hR
  cases ha with
  | cons hr ha =>
  rename_i kv kvs
  have y' : Yld (mset m0 D (.dictI b none done)) k ((r :: rs).map .ref):=y.keep fun d hd=>by rw [hk] at hd;cases hd;exact mset_ne hlD
  refine codeAny_builtin entry_dict_uloop ?_
  rw [Around.under_plainId plain_dict_uloop _,<- hA]
  show wpAny _ cx.A (pyNext (.ref it) >>= _) _ _ s
  refine wpAny_bind (nextItem I ((mset_ne hne).trans hit) y' fun u k' s' hu I' y2 hk2=>?_)
  cases er_ref hu
  have hrD : r ≠ D:=fun q=>by rw [q,hD] at hr;cases hr
  have hri : r ≠ it:=fun q=>by rw [q,hit] at hr;cases hr
  refine eX2c (I'.tuple ((mset_ne hri).trans ((mset_ne hrD).trans hr))) fun its n ho hits _=>?_
  refine eX2c (two_of hits) fun k1 v1 hkv hk1 hv1=>?_
  refine wpAny_bind (wpAny_holding ?_)
  refine wpAny_bind (wpAny_tryCatch (pairItems_tup ho ?_))
  rw [hkv]
  dsimp only
  refine wpAny_holding ?_
  have eD : mset (mset m0 D (.dictI b none done)) it (.iter k') D = some (.dictI b none done):=(mset_ne (Ne.symm hne)).trans (mset_same ..)
  refine eX1b (I'.dict (dkI b cx.w) (ep:=none) eD) fun kvs' hd hdm=>?_
  have hn : (kvs'.map (·.1)).Nodup:=by refine eX3f hd ?_;clear hd;intro _ _ _ _ _ _ _ _ hn;exact hn
  have hkey:=(dkI b cx.w).key k1 kv.1 hk1
  have hln : kvs'.length <= 1000:=by
   have:=congrArg List.length hdm
   rw [List.length_map] at this
   lia
  unfold dictSet
  refine wpAny_holding ?_
  refine wpAny_bind (((dkI b cx.w).knd).pyHash (k:=kv.1) hkey ?_)
  refine wpAny_dictSetHashed_pairs (s:={ s' with toks:=s'.toks + 1 }) hkey hd (fun h' hd' hs'=>?_) (by rw [sizeLine_eq];lia)
  have I2:=I'.dictUpd (dkI b cx.w) eD hs'.extBut hd' (t:=s'.toks + 1)
  rw [stored_map _ _ _ hn,hdm,hv1] at I2
  rw [show ∀ es,(dkI b cx.w).ao none es = .dictI b none es from fun _=>rfl,mset_comm (Ne.symm hne),mset_mset,mset_comm hne] at I2
  refine wpAny_pure (iX0b (plainId_quiet plain_dict_uloop _) ?_)
  refine ih kvs (sput done kv.1 kv.2) k' (i + 1) _ _ ha I2 ?_ (hk2.trans hk) hlD (by have:=sput_ln kv.1 kv.2 done;rw [List.length_cons] at hlen;lia) hR
  exact y2.keep fun d hd=>by rw [hk2,hk] at hd;cases hd;exact (mset_ne hlD).symm
theorem CallV.dictPairs {cx : Cx} {X : MQ Addr} {mem : Mem} {Q : MQ AV} {l : Addr} {rs : List Addr} {es : List (Int × AV)} (b : Bool) (rm : Rm 1 cx.A) (e : mem l = some (.list (rs.map .ref))) (ha : All2 (fun r kv=>mem r = some (.tuple [.int kv.1,kv.2])) rs es) (hlen : es.length <= 1000)
  (h : ∀ q,mem q = none -> Q (.ref q) (mset mem q (.dictI b none (es.foldl (fun es p=>sput es p.1 p.2) [])))) : CallV cx (.type "dict") [.ref l] mem Q X:=fun loc vs hvs s I=>by
 refine eX1b (one_of hvs) fun x ee233 h1=>?_;subst ee233
 cases er_ref h1
 have r1:=rm.depth
 have r2:=rm.units
 have IA:=I.withA (A:=cx.A.in1.in1) (by show cx.A.depth <= 900;lia) (by show cx.A.units + 1 + 1 <= 9000;lia) I.ok.handled I.ok.frames
 refine callType_codes (Q₁:=fun obj s₁=>obj = .ref s.heap.objs.size /\ s₁ = { s with heap:=s.heap.push { cls:=.type "dict",data:=.dict #[] } }) PySem.F.kt_called_dict (PySem.F.kt_typeCall_dict_1 _) PySem.F.entry_dict_init (PySem.kt_code_dict_new _ (iX0b rfl rfl)) ?_
 intro obj s₁ zz234;refine eX0b zz234 ?_;clear zz234;intro ee235 ee236;subst ee235;subst ee236
 have hnew : (s.heap.push { cls:=.type "dict",data:=.dict #[] }).DictOf (intKind pw cx.w) s.heap.objs.size []:=Heap.DictOf.new s.heap
 have hD:=I.fresh.1
 have I1 : InSt (cx.withA cx.A.in1.in1) loc (mset mem s.heap.objs.size (.dictI b none [])) { s with heap:=s.heap.push { cls:=.type "dict",data:=.dict #[] } } :=
  IA.push (t:=s.toks) (ao:=.dictI b none []) (iX2d ([]) 0 rfl .nil .nil (fun _ q=>by cases q))
 refine (iX0c hnew.typeIs (PySem.F.args_dict_init_2 _ _) ?_)
 unfold Builtin.«dict.__init__»
 refine wpAny_bind ?_
 unfold Builtin.Dict.selfAndRest
 refine wpAny_bind (wpAny_notOrdered_dict hnew.typeIs ?_)
 show wpAny _ _ (pure (s.heap.objs.size,[Value.ref l])) _ _ _
 refine wpAny_pure ?_
 show wpAny _ _ (Builtin.Dict.updateFrom "dict.__init__" s.heap.objs.size (.ref l) [] .none) _ _ _
 unfold Builtin.Dict.updateFrom
 have hlD : l ≠ s.heap.objs.size:=fun q=>by rw [q,hD] at e;cases e
 refine eX2c (I1.list ((mset_ne hlD).trans e)) fun its n ho hits hsz=>?_
 refine wpAny_bind (wpAny_typeOf (T:="list") (iX1b _ ho rfl) ?_)
 refine wpAny_ite_split (fun _=>?_) (fun hab=>absurd (by decide) hab)
 refine wpAny_bind (getAttr_no ho I.ok.handled fun h' tk hk=>?_)
 have I2 : InSt (cx.withA cx.A.in1.in1) loc (mset mem s.heap.objs.size (.dictI b none [])) { s with heap:=h',toks:=tk }:=I1.grow hk
 rw [if_pos (by rfl)]
 refine wpAny_bind (wpAny_rule ?_)
 refine wpAny_bind ?_
 refine wpAny_pyIter_list (s:={ s with heap:=h',toks:=tk }) ⟨_,hk _ _ ho,rfl,n,rfl⟩ ?_
 have hi2:=I2.fresh.1
 have I3:=I2.push (o:={ cls:=.type "list_iterator",data:=.fields #[.ref l,.int 0 0] }) (t:=tk) (ao:=.iter (.list l 0)) (iX0b rfl rfl)
 have hne : h'.objs.size ≠ s.heap.objs.size:=fun q=>by
  rw [show ({ s with heap:=h',toks:=tk } : Shared).heap.objs.size = h'.objs.size from rfl,q,mset_same] at hi2;cases hi2
 refine wpAny_pure (iX0b (plainId_quiet plain_dict_uloop _) ?_)
 refine dictLoop (cx:=cx.withA cx.A.in1.in1) (A0:=cx.A.in1) rfl (m0:=mem) (l:=l) (b:=b) hD ((mset_ne hne).symm.trans hi2) hne rs es [] (.list l 0) 0 _ _ ha I3 (iX1b _ e rfl) rfl hlD (by simpa using hlen) fun s' I'=>?_
 exact ⟨rfl,_,I'.ofA I.ok,h _ hD⟩
theorem dictD {w : World} {A : Around} {E : Value -> Shared -> Prop} {s : Shared} {env : Env} {pos : Pos} {a1 a2 b1 b2 : Expr} {Q : Value -> Shared -> Prop}
  (h : wpAny (model pw w) A (evalPairs [(eval a1 env,do let x <- eval b1 env;standAt pos;pure x),(eval a2 env,do let x <- eval b2 env;standAt pos;pure x)])
   (fun vs s₁=>∃ kvs,Carries (intKind pw w) vs kvs /\ s₁.heap.DictOf (intKind pw w) s.heap.objs.size [] /\
   ∀ h',h'.DictOf (intKind pw w) s.heap.objs.size (merged [] kvs) -> Heap.SameBut s.heap.objs.size s₁.heap h' -> Q (.ref s.heap.objs.size) { s₁ with heap:=h',toks:=s₁.toks + vs.length }) E
   { s with heap:=s.heap.push { cls:=.type "dict",data:=.dict #[] } }) :
  wpAny (model pw w) A (eval (.Dict [some a1,some a2] [b1,b2] pos) env) Q E s:=by
 refine wpAny_Dict_pairs (knd:=intKind pw w) (pairs:=[(eval a1 env,do let x <- eval b1 env;standAt pos;pure x),(eval a2 env,do let x <- eval b2 env;standAt pos;pure x)]) ?a ?b ?c ?d
 case a=>rfl
 case b=>exact List.cons_ne_nil _ _
 case c=>show 2 <= 15;decide
 case d=>exact h
theorem EV.dict2 {cx : Cx} {X : MQ Addr} {loc : Loc} {mem : Mem} {Q : MQ AV} {pos p1 p2 q1 q2 : Pos} {c1 c2 : Nat} {k1 k2 : Int} (hk : k1 ≠ k2)
  (h : ∀ D l1 l2 m',MLe mem m' -> m' D = some (.dictI false none [(k1,.ref l1),(k2,.ref l2)]) -> m' l1 = some (.list []) -> m' l2 = some (.list []) -> l1 ≠ l2 -> mem D = none -> mem l1 = none -> mem l2 = none -> Q (.ref D) m') :
  EV cx (.Dict [some (.Constant (.int k1) c1 p1),some (.Constant (.int k2) c2 p2)] [.List [] q1,.List [] q2] pos) loc mem Q X:=fun s I=>by
 have hD:=I.fresh.1
 have I0 : InSt cx loc (mset mem s.heap.objs.size (.dictI false none [])) { s with heap:=s.heap.push { cls:=.type "dict",data:=.dict #[] } } :=
  I.push (t:=s.toks) (ao:=.dictI false none []) (iX2d ([]) 0 rfl .nil .nil (fun _ q=>by cases q))
 have eL : ∀ (m : Mem) (q : Pos),EV cx (.List [] q) loc m (fun v m'=>∃ l,v = .ref l /\ m l = none /\ m' = mset m l (.list [])) NoX:=fun m q=>EV.list (EVs.nil (iX0b (nle rfl) (fun l hl=>(iX1c l rfl hl rfl))))
 have eI : ∀ (m : Mem) (k : Int) (c : Nat) (p : Pos),EV cx (.Constant (.int k) c p) loc m (fun v m'=>v = .int k /\ m' = m) NoX:=fun m k c p=>EV.cInt (iX0b rfl rfl)
 have run : ∀ {e : Expr} {m : Mem} {Q1 : MQ AV} {s1 : Shared} {Er : Value -> Shared -> Prop},EV cx e loc m Q1 NoX -> InSt cx loc m s1 -> wpAny (model pw cx.w) cx.A (eval e cx.env) (fun v s'=>∃ m',InSt cx loc m' s' /\ Q1 (er v) m') Er s1:=fun h I=>TV.any h I
 refine dictD ?_
 refine evalPairs_cons (wpAny_mono (run (eI _ _ _ _) I0) (fun v1 s1 zq95=>eX1c zq95 fun m1 I1 h1 e1=>?_) fun _ _ x=>x)
 subst e1
 refine eX1a (er_int h1) fun t1 ee237=>?_;subst ee237
 refine wpAny_bind (wpAny_mono (run (eL _ _) I1) (fun w1 s2 z=>eX1b z fun m2 I2 z=>eX1c z fun l1 g1 g2 g3=>wpAny_bind (wpAny_standAt (wpAny_pure ?_))) fun _ _ x=>x)
 subst g3
 cases er_ref g1
 refine evalPairs_cons (wpAny_mono (run (eI _ _ _ _) I2) (fun v2 s3 zq97=>eX1c zq97 fun m3 I3 h3 e3=>?_) fun _ _ x=>x)
 subst e3
 refine eX1a (er_int h3) fun t2 ee238=>?_;subst ee238
 refine wpAny_bind (wpAny_mono (run (eL _ _) I3) (fun w2 s4 z=>eX1b z fun m4 I4 z=>eX1c z fun l2 g4 g5 g6=>wpAny_bind (wpAny_standAt (wpAny_pure ?_))) fun _ _ x=>x)
 subst g6
 cases er_ref g4
 refine evalPairs_nil ?_
 have d1 : l1 ≠ s.heap.objs.size:=fun q=>by rw [q,mset_same] at g2;cases g2
 have d2 : l2 ≠ l1:=fun q=>by rw [q,mset_same] at g5;cases g5
 rw [mset_ne d2] at g5
 have d3 : l2 ≠ s.heap.objs.size:=fun q=>by rw [q,mset_same] at g5;cases g5
 rw [mset_ne d1] at g2
 rw [mset_ne d3] at g5
 have eD : mset (mset (mset mem s.heap.objs.size (.dictI false none [])) l1 (.list [])) l2 (.list []) s.heap.objs.size = some (.dictI false none []):=(mset_ne (Ne.symm d3)).trans ((mset_ne (Ne.symm d1)).trans (mset_same ..))
 refine eX1b (I4.dict (dkI false cx.w) (ep:=none) eD) fun kvs0 hd0 hm0=>?_
 have : kvs0 = []:=List.map_eq_nil_iff.mp hm0
 subst this
 refine (iX1c ([(k1,.ref l1),(k2,.ref l2)]) (iX0e (intKind_is _ _ _ _) rfl (intKind_is _ _ _ _) rfl trivial) hd0 (fun h' hd' hs'=>?_))
 rw [merged_nil_of_nodup _ (by simp [hk])] at hd'
 have I5:=I4.dictUpd (dkI false cx.w) eD hs'.extBut hd' (t:=s4.toks + 2)
 refine (iX1b _ I5 (h _ l1 l2 _ (fun a o e=>?_) (mset_same ..) ((mset_ne d1).trans ((mset_ne (Ne.symm d2)).trans (mset_same ..))) ((mset_ne d3).trans (mset_same ..)) (Ne.symm d2) hD g2 g5))
 have n1 : a ≠ s.heap.objs.size:=fun q=>by rw [q,hD] at e;cases e
 have n2 : a ≠ l1:=fun q=>by rw [q,g2] at e;cases e
 have n3 : a ≠ l2:=fun q=>by rw [q,g5] at e;cases e
 exact (mset_ne n1).trans ((mset_ne n3).trans ((mset_ne n2).trans ((mset_ne n1).trans e)))
noncomputable def layH (t : SetTable) (hs : Array Int) (h : Int) : Array Int × SetTable × Bool :=
 match t.freeSlot h with
 | some (slot,wasDummy) =>
  (SetTable.insertAt hs (t.put slot).2 h,(t.put slot).1.orStandIn (SetTable.insertAt hs (t.put slot).2 h).size,wasDummy)
 | none=>(hs.push h,t.standIn (hs.size + 1),false)
noncomputable def relayH (t : SetTable) (hs : Array Int) (wanted : Nat) : Array Int × SetTable :=
 match t.relaid hs wanted with
 | some (t',order) =>
  if coversAll order hs.size && t'.fits (order.filterMap (hs[·]?)).size then (order.filterMap (hs[·]?),t') else (hs,t.standIn hs.size)
 | none=>(hs,t.standIn hs.size)
noncomputable def putH (st : Array Int × SetTable) (h : Int) : Array Int × SetTable :=
 let l:=layH st.2 st.1 h
 if (!l.2.2 && l.2.1.tooFull) = true then relayH l.2.1 l.1 (SetTable.grown l.1.size) else (l.1,l.2.1)
noncomputable def insH (st : Array Int × SetTable) (h : Int) : Array Int × SetTable:=if st.1.toList.any (· == h) then st else putH st h
noncomputable def okH (st : Array Int × SetTable) : Bool:=st.2.plain && (List.range st.2.place.size).all (fun i=>SetTable.below st.2.place (st.2.place.getD i 0 + 1) == i + 1) && SetTable.below st.2.place 0 == 0
noncomputable def startH (led : Bool) : Array Int × SetTable:=(#[],.fresh 0 0 led)
noncomputable def riseH : List Int -> Array Int × SetTable -> Bool
 | [],st=>okH st
 | k :: ks,st=>riseH ks st && riseH ks (insH st k)
theorem rise_a (led : Bool) : riseH [2,3,4,5,6,7,8] (startH led) = true:=by kernel_rfl
theorem rise_b (led : Bool) : riseH [2,3,4,5,6,7,8] (insH (startH led) 1) = true:=by kernel_rfl
theorem rise_c (led : Bool) : riseH [2,3,4,5,6,7,8] (insH (startH led) 0) = true:=by kernel_rfl
theorem rise_d (led : Bool) : riseH [2,3,4,5,6,7,8] (insH (insH (startH led) 0) 1) = true:=by kernel_rfl
theorem rise_ok (led : Bool) : riseH [0,1,2,3,4,5,6,7,8] (startH led) = true:=by
 unfold riseH
 exact look_both (by unfold riseH;exact look_both (rise_a led) (rise_b led)) (by unfold riseH;exact look_both (rise_c led) (rise_d led))
noncomputable def allTwo : List Int -> List Int -> Array Int × SetTable -> Bool
 | [],_,_=>true
 | a :: r,bs,st=>bs.all (fun b=>okH (insH (insH (insH st a) b) 0)) && allTwo r bs st
theorem two_ok (led : Bool) : allTwo [0,1,2,3,4,5,6,7,8,9] [0,1,2,3,4,5,6,7,8,9] (startH led) = true:=by kernel_rfl
theorem ok30 (led : Bool) : okH (insH (insH (startH led) 3) 0) = true:=by kernel_rfl
theorem ok505 (led : Bool) : okH (insH (insH (insH (startH led) 5) 0) 5) = true:=by kernel_rfl
theorem rise_sub : ∀ {ks l : List Int} {st : Array Int × SetTable},riseH ks st = true -> l.Sublist ks -> okH (l.foldl insH st) = true
 | [],l,st,h,s=>by cases s;exact h
 | k :: ks,l,st,h,s=>by
  unfold riseH at h
  rw [Bool.and_eq_true] at h
  cases s with
  | cons _ s=>exact rise_sub h.1 s
  | cons_cons _ s=>rw [List.foldl_cons];exact rise_sub (ks:=ks) h.2 s
noncomputable def putE (es : Array (Int × Value)) (t : SetTable) (h : Int) (x : Value) : Array (Int × Value) × SetTable :=
 let l:=layNew t es h x
 if (!l.2.2.1 && l.2.1.tooFull) = true then ((relayAll l.2.1 l.1 (SetTable.grown l.1.size)).1,(relayAll l.2.1 l.1 (SetTable.grown l.1.size)).2.1) else (l.1,l.2.1)
theorem insertAt_map {α β : Type} (f : α -> β) (xs : Array α) (p : Nat) (x : α) : (SetTable.insertAt xs p x).map f = SetTable.insertAt (xs.map f) p (f x):=by
 unfold SetTable.insertAt;simp [Array.map_extract]
theorem layNew_map (t : SetTable) (es : Array (Int × Value)) (h : Int) (x : Value) : ((layNew t es h x).1.map (·.1),(layNew t es h x).2.1,(layNew t es h x).2.2.1) = layH t (es.map (·.1)) h:=by
 unfold layNew layH
 cases t.freeSlot h with
 | none=>simp
 | some p =>
  obtain ⟨slot,d⟩:=p
  simp only
  rw [insertAt_map,<- insertAt_map (·.1) es]
  simp
theorem filterMap_map (es : Array (Int × Value)) (order : Array Nat) : (order.filterMap (es[·]?)).map (·.1) = order.filterMap ((es.map (·.1))[·]?):=by
 apply Array.toList_inj.mp
 rw [Array.toList_map,Array.toList_filterMap,Array.toList_filterMap,List.map_filterMap]
 congr 1
 funext i
 simp
theorem relayAll_map (t : SetTable) (es : Array (Int × Value)) (wanted : Nat) : ((relayAll t es wanted).1.map (·.1),(relayAll t es wanted).2.1) = relayH t (es.map (·.1)) wanted:=by
 unfold relayAll relayH
 cases t.relaid (es.map (·.1)) wanted with
 | none=>simp
 | some p =>
  obtain ⟨t',order⟩:=p
  simp only
  have h1:=filterMap_map es order
  have h2 : (order.filterMap (es[·]?)).size = (order.filterMap ((es.map (·.1))[·]?)).size:=by rw [<- h1,Array.size_map]
  rw [h2,Array.size_map]
  split
  ·rw [h1]
  ·rfl
theorem putE_map (es : Array (Int × Value)) (t : SetTable) (h : Int) (x : Value) : ((putE es t h x).1.map (·.1),(putE es t h x).2) = putH (es.map (·.1),t) h:=by
 have h1:=layNew_map t es h x
 unfold putE putH
 simp only
 rw [<- h1]
 simp only [Array.size_map]
 split
 ·exact relayAll_map _ _ _
 ·rfl
theorem putE_perm (es : Array (Int × Value)) (t : SetTable) (h : Int) (x : Value) : (putE es t h x).1.toList.Perm (es.toList ++ [(h,x)]):=by
 have h1:=layNew_perm t es h x
 rw [Array.toList_push] at h1
 unfold putE
 simp only
 split
 ·exact (relayAll_perm _ _ _).trans h1
 ·exact h1
theorem putE_fits (es : Array (Int × Value)) (t : SetTable) (h : Int) (x : Value) : (putE es t h x).2.fits (putE es t h x).1.size = true:=by
 unfold putE
 simp only
 split
 ·exact relayAll_fits _ _ _
 ·exact layNew_fits _ _ _ _
theorem led_keep (es : Array (Int × Value)) (t : SetTable) (h : Int) (x : Value) : (putE es t h x).2.led = t.led:=by
 have l1 : (layNew t es h x).2.1.led = t.led:=by
  unfold layNew
  cases t.freeSlot h with
  | none=>rfl
  | some p =>
   obtain ⟨slot,d⟩:=p
   simp only
   unfold SetTable.orStandIn
   split <;> rfl
 have l2 : ∀ (t : SetTable) (es : Array (Int × Value)) n,(relayAll t es n).2.1.led = t.led:=by
  intro t es n
  unfold relayAll
  cases hr : t.relaid (es.map (·.1)) n with
  | none=>rfl
  | some p =>
   obtain ⟨t',order⟩:=p
   simp only
   split
   ·unfold SetTable.relaid SetTable.laid at hr
    cases ho : SetTable.layClean (SetTable.sizeAbove n - 1) (es.map (·.1)) with
    | none=>rw [ho] at hr;cases hr
    | some o=>rw [ho] at hr;cases hr;rfl
   ·rfl
 unfold putE
 simp only
 split
 ·rw [l2,l1]
 ·exact l1
noncomputable def EI (es : Array (Int × Value)) : Prop:=∀ e ∈ es.toList,∃ k tk,0 <= k /\ k < 10 /\ e = (k,Value.int k tk)
theorem hash_small {k : Int} (h0 : 0 <= k) (h1 : k < 10) : hashInt k = k:=by
 have : ∀ n : Fin 10,hashInt (n.val : Int) = (n.val : Int):=by decide
 have h2:=this ⟨k.toNat,by lia⟩
 rwa [show (((⟨k.toNat,by lia⟩ : Fin 10).val : Nat) : Int) = k from by show ((k.toNat : Nat) : Int) = k;lia] at h2
section
variable {w : World} {A : Around} {E : Value -> Shared -> Prop} {s : Shared}
theorem EI.elems {es : Array (Int × Value)} (h : EI es) : ElemsOf (intKind pw w) es.toList:=fun e he=>by
 refine eX2c (h e he) fun k tk h0 h1 ee239=>?_;subst ee239
 exact (iX0b (iX1b k (intKind_is _ _ _ _) ((hash_small h0 h1).symm)) rfl)
noncomputable def SetHs (h : Heap) (a : Addr) (led : Bool) (st : Array Int × SetTable) : Prop :=
 ∃ o es ep,h.get? a = some o /\ o.ExactSet /\ o.data = .set es ep st.2 /\ EI es /\ es.size < 100 /\ st.2.fits es.size = true /\ es.map (·.1) = st.1 /\ st.2.led = led
theorem setAdd_small {a : Addr} {led : Bool} {st : Array Int × SetTable} {k : Int} {tk : Tok} {Q : Bool -> Shared -> Prop} (h0 : 0 <= k) (h1 : k < 10) (hS : SetHs s.heap a led st) (hsz : st.1.size < 90)
  (h : ∀ h' b,Heap.SameBut a s.heap h' -> SetHs h' a led (insH st k) -> (insH st k).1.toList.Perm (if st.1.toList.any (· == k) then st.1.toList else st.1.toList ++ [k]) -> Q b { s with heap:=h' }) :
  wpAny (model pw w) A (setAddHashed a (.int k tk) (hashInt k)) Q E s:=by
 refine eX3h hS fun o es ep ho hex hd hel hb hf hhs hled=>?_
 have hel':=hel.elems (w:=w)
 have hhk:=hash_small h0 h1
 have hkey : (intKind pw w).is k (.int k tk) = true:=intKind_is _ _ _ _
 have hany : st.1.toList.any (· == k) = (List.findIdx? (fun e : Int × Value=>(intKind pw w).is k e.2) es.toList).isSome:=by
  rw [<- hhs,Array.toList_map,List.any_map,List.findIdx?_isSome,Bool.eq_iff_iff,List.any_eq_true,List.any_eq_true]
  constructor
  ·intro zz240;refine eX1b zz240 fun e he hp=>?_
   refine (iX1b e he ?_)
   refine eX2c (hel e he) fun k' tk' _ _ ee241=>?_;subst ee241
   have : k' = k:=eq_of_beq hp
   subst this;exact intKind_is _ _ _ _
  ·intro zz242;refine eX1b zz242 fun e he hp=>?_
   refine (iX1b e he ?_)
   refine eX2c (hel e he) fun k' tk' _ _ ee243=>?_;subst ee243
   have hk' : (intKind pw w).is k' (.int k' tk') = true:=intKind_is _ _ _ _
   rw [KeyKind.is_eq_decide hk' k,decide_eq_true_eq] at hp
   subst hp;exact beq_self_eq_true _
 have hgw : ∀ (b : Bool) {s₁ : Shared} {Q' : Unit -> Shared -> Prop},Q' () s₁ -> wpAny (model pw w) A (match b with | true=>rule "set.scan.the-table-gave-way" | false=>pure ()) Q' E s₁ :=
  fun b s₁ Q' hq=>by cases b <;> first | exact wpAny_pure hq | exact wpAny_rule hq
 unfold setAddHashed setAddHashedIn
 refine wpAny_holding (wpAny_bind (wpAny_setState_of ho hd hf ?_))
 dsimp only
 rw [byScan_of (by rfl) (by unfold scanBound;lia) hel']
 simp only [↓reduceIte]
 unfold setAddByScan
 refine wpAny_bind ?_
 refine wpAny_bind (wpAny_rule ?_)
 rw [show hashInt k = (intKind pw w).hash k from rfl]
 refine wpAny_bind (wpAny_setScan_of hkey ho hd hf hel' ?_)
 rw [show (intKind pw w).hash k = hashInt k from rfl,hhk]
 cases hr : List.findIdx? (fun e : Int × Value=>(intKind pw w).is k e.2) es.toList with
 | some j =>
  rw [hr] at hany
  dsimp only
  refine wpAny_pure (wpAny_pure ?_)
  have e : s = { s with heap:=s.heap }:=by cases s;rfl
  rw [e]
  have hins : insH st k = st:=by unfold insH;rw [hany];rfl
  refine h s.heap _ (Heap.SameBut.refl a s.heap) ?_ ?_
  ·rw [hins];exact (iX3h o es ep ho hex hd hel hb hf hhs hled)
  ·rw [hins,hany,if_pos (by rfl)]
 | none =>
  rw [hr] at hany
  dsimp only
  have hins : insH st k = putH st k:=by unfold insH;rw [hany];rfl
  have pm:=putE_map es st.2 k (.int k tk)
  rw [hhs] at pm
  have pf:=putE_fits es st.2 k (.int k tk)
  have pp:=putE_perm es st.2 k (.int k tk)
  have pl:=led_keep es st.2 k (.int k tk)
  have ek : EI (putE es st.2 k (.int k tk)).1:=fun e he=>by
   rcases List.mem_append.mp (pp.mem_iff.mp he) with he | he
   ·exact hel e he
   ·rw [List.mem_singleton] at he;exact (iX2c k tk h0 h1 he)
  have hes : es.size = st.1.size:=by rw [<- hhs,Array.size_map]
  have psz : (putE es st.2 k (.int k tk)).1.size = es.size + 1:=by rw [<- Array.length_toList,pp.length_eq,List.length_append,Array.length_toList];rfl
  have fin : ∀ h' ep',Heap.SameBut a s.heap h' -> h'.get? a = some { o with data:=.set (putE es st.2 k (.int k tk)).1 ep' (putE es st.2 k (.int k tk)).2 } -> Q true { s with heap:=h' }:=fun h' ep' hsb hg=>by
   refine h h' true hsb ?_ ?_
   ·rw [hins,<- pm]
    exact (iX3h _ _ ep' hg hex rfl ek (by lia) pf rfl (pl.trans hled))
   ·rw [hins,<- pm,hany,if_neg (by decide),<- hhs]
    simpa using pp.map (·.1)
  clear pm pl
  have hperm:=layNew_perm st.2 es k (.int k tk)
  have hfits:=layNew_fits st.2 es k (.int k tk)
  unfold putE at fin
  simp only at fin
  generalize hL : layNew st.2 es k (.int k tk) = L at hperm hfits fin ⊢
  as_aux_lemma =>
  obtain ⟨es1,t1,wasDummy,gave⟩:=L
  dsimp only at hperm hfits fin ⊢
  rw [Array.toList_push] at hperm
  have hb1 : es1.size < scanBound:=by
   rw [<- Array.length_toList,hperm.length_eq,List.length_append,Array.length_toList];unfold scanBound;simp;lia
  refine wpAny_bind (hgw _ ?_)
  have tail : wpAny (model pw w) A (do
    storeSet a es1 t1
    if (!wasDummy && t1.tooFull) = true then do
      (match (relayAll t1 es1 (SetTable.grown es1.size)).2.2 with | true=>rule "set.scan.the-table-gave-way" | false=>pure ())
      storeSet a (relayAll t1 es1 (SetTable.grown es1.size)).1 (relayAll t1 es1 (SetTable.grown es1.size)).2.1
      pure (some true)
     else pure (some true)) (fun r s'=>∃ b,r = some b /\ Q b s') E s:=by
   refine wpAny_bind (wpAny_storeSet_of ho hd ?_ (fits_of_scanBound hb1))
   have ho1 : (s.heap.update a (Obj.putSet es1 t1)).get? a = some { o with data:=.set es1 (ep + 1) t1 }:=by
    have:=Heap.get?_update_self (Obj.putSet es1 t1) ho (by rw [putSet_of es1 t1 hd];rfl)
    rw [putSet_of es1 t1 hd] at this;exact this
   have hsb1:=Heap.SameBut.update s.heap a (Obj.putSet es1 t1)
   split
   ·rename_i hfull
    rw [if_pos hfull] at fin
    have hp:=relayAll_perm t1 es1 (SetTable.grown es1.size)
    generalize relayAll t1 es1 (SetTable.grown es1.size) = Rl at hp fin ⊢
    as_aux_lemma =>
    obtain ⟨es2,t3,gave2⟩:=Rl
    dsimp only at hp fin ⊢
    have hb2 : es2.size < scanBound:=by rw [<- Array.length_toList,hp.length_eq,Array.length_toList];exact hb1
    refine wpAny_bind (hgw _ ?_)
    refine wpAny_bind (wpAny_storeSet_of ho1 rfl ?_ (fits_of_scanBound hb2))
    refine wpAny_pure (iX1b true rfl (fin _ (ep + 1 + 1) (hsb1.trans (Heap.SameBut.update _ a _)) ?_))
    have:=Heap.get?_update_self (Obj.putSet es2 t3) ho1 (by rw [putSet_of es2 t3 rfl];rfl)
    rw [putSet_of es2 t3 rfl] at this;exact this
   ·rename_i hfull
    rw [if_neg hfull] at fin
    exact wpAny_pure (iX1b true rfl (fin _ (ep + 1) hsb1 ho1))
  split
  ·refine wpAny_bind ?_
   rw [hashByValue_scannable 8 (by rfl)]
   refine wpAny_pure ?_
   refine wpAny_mono tail (fun r s' zq99=>eX1b zq99 fun b e hq=>?_) fun _ _ x=>x
   subst e;exact wpAny_pure hq
  ·refine wpAny_bind (wpAny_pure ?_)
   refine wpAny_mono tail (fun r s' zq100=>eX1b zq100 fun b e hq=>?_) fun _ _ x=>x
   subst e;exact wpAny_pure hq
end
theorem SetHs.at {h h' : Heap} {a : Addr} {led : Bool} {st : Array Int × SetTable} (x : SetHs h a led st) (k : ∀ o,h.get? a = some o -> h'.get? a = some o) : SetHs h' a led st :=
 let ⟨o,es,ep,ho,r⟩:=x;(iX3b o es ep (k _ ho) r)
noncomputable def foldI (led : Bool) (val : Nat -> Int) (i : Nat) : Array Int × SetTable:=((List.range i).map val).foldl insH (startH led)
theorem foldI_succ (led : Bool) (val : Nat -> Int) (i : Nat) : foldI led val (i + 1) = insH (foldI led val i) (val i):=by
 unfold foldI;rw [List.range_succ,List.map_append,List.foldl_append];rfl
structure SInv (led : Bool) (val : Nat -> Int) (S : Addr) (i : Nat) (h : Heap) : Prop where
 hs : SetHs h S led (foldI led val i)
 nd : (foldI led val i).1.toList.Nodup
 mm : ∀ k,k ∈ (foldI led val i).1.toList ↔ ∃ j,j < i /\ val j = k
 sz : (foldI led val i).1.size <= i
theorem foldI_zero (led : Bool) (val : Nat -> Int) : foldI led val 0 = (#[],.fresh 0 0 led):=rfl
theorem SInv.start {led : Bool} {val : Nat -> Int} {S : Addr} {h : Heap} (hg : h.get? S = some { cls:=.type "set",dict:=none,data:=.set #[] 0 (.fresh 0 0 led) }) : SInv led val S 0 h:=by
 refine ⟨?_,?_,fun k=>?_,?_⟩
 ·rw [foldI_zero]
  exact (iX3h _ (#[]) 0 hg (iX0c rfl rfl rfl) rfl (fun e he=>by simp at he) (by decide) (by rfl) (by simp) rfl)
 ·rw [foldI_zero];exact .nil
 ·rw [foldI_zero]
  constructor
  ·intro h;simp at h
  ·rintro ⟨j,hj,_⟩;lia
 ·rw [foldI_zero];exact Nat.le_refl _
section
variable {w : World} {A : Around} {R : Result -> Shared -> Prop} {I : Addr} {fp wr : List Addr} {G : Array GenState -> Array GenState -> Prop} {n : Nat} {P : Nat -> Value -> Prop} {St : Nat -> Shared -> Prop}
theorem set_loop (W : WalksS pw w A.in1 I fp wr G n P St) (S : Addr) (hSf : S ∉ fp) (led : Bool)
  (val : Nat -> Int) (hval : ∀ i v,P i v -> ∃ t,v = .int (val i) t) (hv : ∀ i,i < n -> 0 <= val i /\ val i < 10) (hb : n < 80) :
  ∀ (k i : Nat) (s : Shared),n - i = k -> i <= n -> St i s -> SInv led val S i s.heap ->
   (∀ s',Moved (S :: wr) G s s' -> SInv led val S n s'.heap -> R (.ok (.ret .none)) s') ->
   codeAny (model pw w) A (.builtin "set.update.loop" ⟨[.ref S,.ref I],[]⟩) R s:=by
 have hSw : S ∉ wr:=fun h=>hSf (W.sub _ h)
 have hsub : ∀ b ∈ wr,b ∈ S :: wr:=fun b hb=>List.mem_cons_of_mem _ hb
 intro k
 induction k with
 | zero =>
  intro i s hk hi hst hS hR
  have hin : i = n:=by lia
  subst hin
  refine codeAny_builtin PyProof.Rows.F.entry_set_update_loop ?_
  rw [Around.under_plainId PyProof.Rows.F.plain_set_update_loop _]
  show wpAny _ A.in1 (pyNext (.ref I) >>= _) _ _ s
  refine wpAny_bind (W.done s _ _ hst fun s' hm=>?_)
  show wpAny _ A.in1 (ret Value.none) _ _ s'
  exact wpAny_pure (hR s' (hm.mono hsub) ⟨hS.hs.at fun o e=>hm.heap S _ hSw e,hS.nd,hS.mm,hS.sz⟩)
 | succ k ih =>
  intro i s hk hi hst hS hR
  have hlt : i < n:=by lia
  refine codeAny_builtin PyProof.Rows.F.entry_set_update_loop ?_
  rw [Around.under_plainId PyProof.Rows.F.plain_set_update_loop _]
  show wpAny _ A.in1 (pyNext (.ref I) >>= _) _ _ s
  refine wpAny_bind (W.item i s _ _ hlt hst fun v s' hP hst' hm=>?_)
  refine eX1a (hval i v hP) fun t ee244=>?_;subst ee244
  have hS' : SetHs s'.heap S led (foldI led val i):=hS.hs.at fun o e=>hm.heap S _ hSw e
  show wpAny _ A.in1 (holding [Value.int (val i) t] (setAdd S (.int (val i) t)) >>= _) _ _ s'
  refine wpAny_bind (wpAny_holding ?_)
  unfold setAdd
  refine wpAny_holding ?_
  refine wpAny_bind ((intKind pw w).pyHash (k:=val i) (intKind_is _ _ _ _) ?_)
  refine setAdd_small (s:={ s' with toks:=s'.toks + 1 }) (hv i hlt).1 (hv i hlt).2 hS' (by have:=hS.sz;lia) fun h' b hsb hS2 hpm=>?_
  have hm' : ∀ x,x ∈ (insH (foldI led val i) (val i)).1.toList ↔ x ∈ (foldI led val i).1.toList \/ x = val i:=fun x=>by
   rw [hpm.mem_iff]
   split
   ·rename_i hany
    refine eX1b (List.any_eq_true.mp hany) fun y hy hye=>?_
    have : y = val i:=eq_of_beq hye
    subst this
    exact ⟨.inl,fun h=>h.elim id fun e=>e ▸ hy⟩
   ·rw [List.mem_append,List.mem_singleton]
  have hSi : SInv led val S (i + 1) h':=by
   rw [<- foldI_succ] at hS2 hpm hm'
   refine ⟨hS2,?_,fun x=>?_,?_⟩
   ·rw [hpm.nodup_iff]
    split
    ·exact hS.nd
    ·rename_i hany
     refine List.nodup_append.mpr (iX0c hS.nd (by simp) (fun a ha b hb e=>hany (List.any_eq_true.mpr (iX1b a ha ?_))))
     rw [List.mem_singleton] at hb;rw [e,hb];exact beq_self_eq_true _
   ·rw [hm',hS.mm]
    constructor
    ·rintro (⟨j,hj,e⟩ | e)
     ·exact (iX1b j (by lia) e)
     ·exact (iX1b i (by lia) e.symm)
    ·intro zz245;refine eX1b zz245 ?_;clear zz245;intro j hj e
     by_cases q : j = i
     ·subst q;exact .inr e.symm
     ·exact .inl (iX1b j (by lia) e)
   ·rw [<- Array.length_toList,hpm.length_eq]
    have:=hS.sz
    split
    ·rw [Array.length_toList];lia
    ·rw [List.length_append,Array.length_toList];simp;lia
  refine wpAny_pure (iX0b (plainId_quiet PyProof.Rows.F.plain_set_update_loop _) (ih (i + 1) _ (by lia) hlt (W.frame _ s' _ _ hst' (Nat.le_succ _) fun b hb o e=>?_) hSi fun s'' hm'' hS''=>?_))
  ·rw [hsb.2 b (fun h : b = S=>hSf (by rw [<- h];exact hb))];exact e
  ·refine hR s'' (Moved.trans W.gtrans ((hm.mono hsub).then_heap (Nat.le_succ _) fun b o hb e=>?_) hm'') hS''
   rw [hsb.2 b (fun h : b = S=>hb (by rw [h];exact List.mem_cons_self))];exact e
end
section
variable {w : World} {A : Around} {E : Value -> Shared -> Prop} {s : Shared}
noncomputable abbrev ledOf (w : World) : Bool:=!(w.params.followText "set-order")
theorem setNew1 (a : Value) {Q₁ : Value -> Shared -> Prop}
  (h : Q₁ (.ref s.heap.objs.size) { s with heap:=s.heap.push { cls:=.type "set",dict:=none,data:=.set #[] 0 (.fresh 0 0 (ledOf w)) } }) :
  codeAny (model pw w) A (.call (.builtin "set.__new__") ⟨[.type "set",a],[]⟩) (wants Q₁ E) s:=by
 refine codeAny_of_tree ?_
 show wpAny _ A.in1 (do checkBuiltinCall "set.__new__" ⟨[.type "set",a],[]⟩;again (.builtin "set.__new__" ⟨[.type "set",a],[]⟩)) _ _ s
 refine wpAny_bind (wpAny_of_eq (PySem.F.newCall_set_1 a) (wpAny_pure (iX0b (plainId_quiet F.plain_set_new _) (codeAny_builtin F.entry_set_new ?_))))
 rw [Around.under_plainId F.plain_set_new _]
 unfold Builtin.«set.__new__» Builtin.Frozenset.newClass
 have hsub:=sub_set_self
 obtain ⟨hp,g,d,tk,os⟩:=s
 dsimp only
 wp_walk
 refine wpAny_askSetting (wpAny_pure ?_)
 dsimp only
 simp only [newObj]
 refine wpAny_bind (wpAny_alloc (wpAny_pure ?_))
 exact wpAny_pure h
theorem setOfList {l : Addr} {items : Array Value} {ns : List Int} {Q : Value -> Shared -> Prop}
  (hh : A.handled = none) (hl : s.heap.IsList l items) (hi : PyProof.Rows.IntsAre items.toList ns) (hns : ∀ k ∈ ns,0 <= k /\ k < 10) (hb : items.size < 80)
  (h : ∀ (h' : Heap) (tk : Nat),SInv (ledOf w) (fun i=>ns.getD i 0) s.heap.objs.size items.size h' ->
   (∀ b o,b < s.heap.objs.size -> s.heap.get? b = some o -> h'.get? b = some o) -> Q (.ref s.heap.objs.size) { s with heap:=h',toks:=tk }) :
  wpAny (model pw w) A (call (.type "set") [.ref l]) Q E s:=by
 refine eX2a (PySem.F.called_set.mro) fun c tl hmro=>?_
 have hmade:=PySem.F.called_set.made
 have hsub:=PySem.F.called_set.sub
 have hlen : items.size = ns.length:=by rw [<- Array.length_toList];exact hi.length
 refine wpAny_call (codeAny_of_tree ?_)
 show wpAny _ _ (callAny (.type "set") _) _ _ _
 refine wpAny_pure (iX0b (Code.quiet_builtin _ (by decide +kernel)) (codeAny_builtin F.entry_type_call ?_))
 rw [Around.under_plain (weight_type_call_type "set" [.ref l] []) rfl]
 have h1:=PySem.F.called_set.notType
 have h2:=PySem.F.called_set.canCreate
 have hct:=PySem.F.typeCall_set_1 (.ref l)
 repeat (any_goals (first | with_reducible assumption | wp_step))
 refine codeAny_mono (setNew1 (.ref l) (E:=E) (Q₁:=fun obj s₁=>obj = .ref s.heap.objs.size /\ s₁ = { s with heap:=s.heap.push { cls:=.type "set",dict:=none,data:=.set #[] 0 (.fresh 0 0 (ledOf w)) } }) (iX0b rfl rfl)) fun r s₁ hr=>?_
 clear h2
 generalize hled : ledOf w = led at hr h
 as_aux_lemma =>
 cases r with
 | error e=>exact hr
 | ok fl =>
  cases fl with
  | ret obj =>
   refine eX0b hr ?_;clear hr;intro ee246 ee247;subst ee246;subst ee247
   have hS : (s.heap.push { cls:=.type "set",dict:=none,data:=.set #[] 0 (.fresh 0 0 led) }).get? s.heap.objs.size = some { cls:=.type "set",dict:=none,data:=.set #[] 0 (.fresh 0 0 led) }:=Heap.get?_push_size _ rfl
   have hT : Shared.TypeIs { s with heap:=s.heap.push { cls:=.type "set",dict:=none,data:=.set #[] 0 (.fresh 0 0 led) } } (.ref s.heap.objs.size) "set":=(iX1b _ hS rfl)
   have hli:=PySem.F.called_set.init.lookup
   have hbi:=PySem.F.called_set.init.bind (.ref s.heap.objs.size)
   repeat (any_goals (first | with_reducible assumption | wp_step))
   refine codeAny_mono (codeAny_call_builtin (R:=wants (fun r s₂=>r = .none /\ ∃ h' tk,s₂ = { s with heap:=h',toks:=tk } /\
     SInv led (fun i=>ns.getD i 0) s.heap.objs.size items.size h' /\
     (∀ b o,b < s.heap.objs.size -> s.heap.get? b = some o -> h'.get? b = some o)) E) PySem.F.called_set.init.plain F.entry_set_init (check_set_init_1 hT ?_)) fun r₂ s₂ hr₂=>?_
   ·obtain ⟨ol,hol,hcl,nl,hdl⟩:=hl
    obtain ⟨ocls,odict,odata,oslots⟩:=ol
    simp only at hcl hdl
    subst hcl;subst hdl
    have hol' : (s.heap.push { cls:=.type "set",dict:=none,data:=.set #[] 0 (.fresh 0 0 led) }).get? l = some { cls:=.type "list",dict:=odict,data:=.seq items nl,slots:=oslots }:=Heap.get?_push_of_some _ hol
    have hsls:=PySem.F.sub_list_set
    have hslf:=PySem.F.sub_list_frozenset
    have hne : (Value.type "list" == Value.type "dict") = false:=by decide
    have hl1 : (s.heap.push { cls:=.type "set",dict:=none,data:=.set #[] 0 (.fresh 0 0 led) }).IsList l items:=⟨_,hol',rfl,nl,rfl⟩
    unfold Builtin.«set.__init__» noKeywords Builtin.Frozenset.updateFrom
    generalize hPI : pyIter = PI
    as_aux_lemma =>
    replace hS:=PLift.up hS
    clear hT
    repeat (first | with_reducible refine wpAny_pure ?_ | with_reducible refine wpAny_bind ?_ | ((with_reducible apply wpAny_load');focus (heap_get;done)) | ((with_reducible apply wpAny_loadPart');focus (heap_get;done)) | ((with_reducible apply wpAny_ite_false);focus (rfl;done)) | ((with_reducible apply wpAny_ite_true);focus (rfl;done)) | with_reducible refine wpAny_of_eq hsls ?_ | with_reducible refine wpAny_of_eq hslf ?_ | wp_delta)
    replace hS:=hS.down
    subst hPI
    refine wpAny_pyIter_list hl1 ?_
    refine wpAny_bind (wpAny_runValue ?_)
    have hlS : l < s.heap.objs.size:=Heap.lt_size hol
    have hh3 : A.in1.in1.in1.handled = none:=by simp [hh]
    have hneI : l ≠ (s.heap.push { cls:=.type "set",dict:=none,data:=.set #[] 0 (.fresh 0 0 led) }).objs.size:=by
     rw [Heap.size_push];exact Nat.ne_of_lt (Nat.lt_succ_of_lt hlS)
    have hSf : s.heap.objs.size ∉ [(s.heap.push { cls:=.type "set",dict:=none,data:=.set #[] 0 (.fresh 0 0 led) }).objs.size,l]:=by
     rw [Heap.size_push];simp only [List.mem_cons,List.mem_singleton,List.not_mem_nil,or_false,not_or]
     exact (iX0b (Nat.ne_of_lt (Nat.lt_succ_self _)) (Nat.ne_of_gt hlS))
    have hval : ∀ (i : Nat) (v : Value),items[i]? = some v -> ∃ t,v = .int ((fun i=>ns.getD i 0) i) t:=fun i v hv =>
     PyProof.Rows.IntsAre.int_at hi i v (by rw [Array.getElem?_toList];exact hv)
    refine set_loop ((Walks.list hh3 _ l hneI items).toS) s.heap.objs.size
     hSf led (fun i=>ns.getD i 0) hval (fun i hi'=>hns _ (by rw [List.getD_eq_getElem?_getD,List.getElem?_eq_getElem (by lia)];exact List.getElem_mem _)) hb (items.size - 0) 0 _ (by lia) (Nat.zero_le _)
     (iX0b (iX1c _ (Heap.get?_push_size _ rfl) rfl rfl) (hl1.push _)) ?hS0 ?hR
    case hS0 =>
     have hget : ((s.heap.push { cls:=.type "set",dict:=none,data:=.set #[] 0 (.fresh 0 0 led) }).push { cls:=.type "list_iterator",data:=.fields #[.ref l,.int 0 0] }).get? s.heap.objs.size
       = some { cls:=.type "set",dict:=none,data:=.set #[] 0 (.fresh 0 0 led) }:=Heap.get?_push_of_some _ hS
     exact SInv.start hget
    case hR =>
     intro s' hm hS'
     obtain ⟨h',g',d',tk',os'⟩:=s'
     have eg : g' = s.gens:=hm.gens
     have ed : d' = s.drawn:=hm.drawn
     have eo : os' = s.os:=hm.os
     subst eg;subst ed;subst eo
     show wpAny _ _ _ _ _ _
     refine wpAny_pure ?_
     show wpAny _ _ (ret Value.none) _ _ _
     refine wpAny_pure ⟨rfl,h',tk',rfl,hS',fun b o hb e=>?_⟩
     have hb1 : b ≠ s.heap.objs.size:=Nat.ne_of_lt hb
     have hb2 : b ≠ (s.heap.push { cls:=.type "set",dict:=none,data:=.set #[] 0 (.fresh 0 0 led) }).objs.size:=by
      rw [Heap.size_push];exact Nat.ne_of_lt (Nat.lt_succ_of_lt hb)
     exact hm.heap b o (by simp only [List.mem_cons,List.mem_singleton,List.not_mem_nil,or_false,not_or];exact (iX0b hb1 hb2)) (Heap.get?_push_of_some _ (Heap.get?_push_of_some _ e))
   ·cases r₂ with
    | error e=>exact hr₂
    | ok fl₂ =>
     cases fl₂ with
     | ret r =>
      obtain ⟨ee248,h',tk,ee249,hS',hk'⟩:=hr₂;subst ee248;subst ee249
      repeat (any_goals (first | with_reducible assumption | wp_step))
      exact h _ _ hS' hk'
     | _=>exact hr₂.elim
  | _=>exact hr.elim
end
theorem cons_erase_perm {α : Type} : ∀ {l : List α} {i : Nat} (h : i < l.length),(l[i] :: l.eraseIdx i).Perm l
 | a :: l,0,_=>by simp
 | a :: l,i + 1,h=>by
  have ih:=cons_erase_perm (l:=l) (i:=i) (by simpa using h)
  rw [List.getElem_cons_succ,List.eraseIdx_cons_succ]
  exact (List.Perm.swap _ _ _).trans (ih.cons a)
theorem pick_go {α : Type} (next : Nat -> Nat) : ∀ (fuel k : Nat) (left : List α) (out : Array α),left.length = fuel -> (pickOrder.go next fuel k left out).toList.Perm (out.toList ++ left)
 | 0,k,left,out,h=>by
  cases left with
  | nil=>unfold pickOrder.go;simp
  | cons=>simp at h
 | fuel + 1,k,left,out,h=>by
  unfold pickOrder.go
  have hlt : next k % left.length < left.length:=Nat.mod_lt _ (by lia)
  rw [List.getElem?_eq_getElem hlt]
  dsimp only
  refine (pick_go next fuel (k + 1) _ _ (by rw [List.length_eraseIdx,if_pos hlt];lia)).trans ?_
  rw [Array.toList_push,List.append_assoc]
  refine List.Perm.append_left _ ?_
  exact (cons_erase_perm hlt)
theorem pick_perm {α : Type} (next : Nat -> Nat) (xs : Array α) : (pickOrder next xs).toList.Perm xs.toList:=by
 unfold pickOrder
 simpa using pick_go next xs.size 0 xs.toList #[] (by simp)
theorem slot_sit_next : Slot "set_iterator" "__next__" "set_iterator.__next__" :=
 .of (owner:="set_iterator") (n:="__next__") (by rw [typeLookup_type,builtinLookup_eq_fast];kernel_rfl) (by decide +kernel) (by decide +kernel) (by decide +kernel)
  (by first | exact .inl (by decide +kernel) | exact .inr (by decide +kernel)) (by rw [isSubtype_type];kernel_rfl)
theorem slot_sit_iter : Slot "set_iterator" "__iter__" "set_iterator.__iter__" :=
 .of (owner:="set_iterator") (n:="__iter__") (by rw [typeLookup_type,builtinLookup_eq_fast];kernel_rfl) (by decide +kernel) (by decide +kernel) (by decide +kernel)
  (by first | exact .inl (by decide +kernel) | exact .inr (by decide +kernel)) (by rw [isSubtype_type];kernel_rfl)
theorem entry_sit_next : entryFor table "set_iterator.__next__" = some Builtin.«set_iterator.__next__»:=entryFor_of_tree (by kernel_rfl)
theorem entry_sit_iter : entryFor table "set_iterator.__iter__" = some Builtin.«dict_keyiterator.__iter__»:=entryFor_alias (id':="dict_keyiterator.__iter__") (by kernel_rfl) rfl (by decide +kernel) (by kernel_rfl)
theorem entry_set_iter : entryFor table "set.__iter__" = some Builtin.«frozenset.__iter__»:=entryFor_alias (id':="frozenset.__iter__") (by kernel_rfl) rfl (by decide +kernel) (by kernel_rfl)
theorem owner_sit : Manifest.owners.lookup (String.ofList ['r','o','t','a','r','e','t','i','_','t','e','s'].reverse) = some Manifest.sig_set_iterator:=by kernel_rfl
theorem args_sit_next (a : Value) : argsOk "set_iterator.__next__" ⟨[a],[]⟩:=by
 unfold argsOk;rw [signature?_of (id:="set_iterator.__next__") (n:=['_','_','t','x','e','n','_','_']) (o:=['r','o','t','a','r','e','t','i','_','t','e','s']) (by kernel_rfl) owner_sit];kernel_rfl
theorem args_sit_iter (a : Value) : argsOk "set_iterator.__iter__" ⟨[a],[]⟩:=by
 unfold argsOk;rw [signature?_of (id:="set_iterator.__iter__") (n:=['_','_','r','e','t','i','_','_']) (o:=['r','o','t','a','r','e','t','i','_','t','e','s']) (by kernel_rfl) owner_sit];kernel_rfl
noncomputable def SetAt (h : Heap) (d : Addr) (es : Array (Int × Value)) (ep : Nat) (t : SetTable) : Prop:=∃ o,h.get? d = some o /\ o.ExactSet /\ o.data = .set es ep t /\ t.fits es.size = true
noncomputable def IsSetIter (h : Heap) (it d : Addr) (slot i n ep : Nat) : Prop:=∃ o,h.get? it = some o /\ o.cls = .type "set_iterator" /\ o.data = .fields #[.int slot 0,.int i 0,.ref d,.int n 0,.int ep 0]
theorem IsSetIter.typeIs {s : Shared} {it d : Addr} {slot i n ep : Nat} (x : IsSetIter s.heap it d slot i n ep) : s.TypeIs (.ref it) "set_iterator":=let ⟨o,ho,hc,_⟩:=x;(iX1b o ho hc)
theorem SetAt.typeIs {s : Shared} {d : Addr} {es : Array (Int × Value)} {ep : Nat} {t : SetTable} (x : SetAt s.heap d es ep t) : s.TypeIs (.ref d) "set":=let ⟨o,ho,hx,_⟩:=x;(iX1b o ho hx.1)
noncomputable def orderOf (w : World) (d : Addr) (ep : Nat) (es : Array (Int × Value)) : Array (Int × Value):=if w.params.followText "set-order" = true then pickOrder (w.params.setOrder d ep) es else es
theorem orderOf_perm (w : World) (d : Addr) (ep : Nat) (es : Array (Int × Value)) : (orderOf w d ep es).toList.Perm es.toList:=by
 unfold orderOf;split
 ·exact pick_perm _ _
 ·exact .rfl
noncomputable def slotAt (w : World) (t : SetTable) : Nat -> Nat
 | 0=>0
 | i + 1=>if w.params.followText "set-order" = true then 0 else t.place.getD i 0 + 1
section
variable {w : World} {A : Around} {E : Value -> Shared -> Prop} {s : Shared}
theorem setsByText_wp {Q : Bool -> Shared -> Prop} (h : Q (w.params.followText "set-order") s) : wpAny (model pw w) A setsByText Q E s:=by
 unfold setsByText
 exact wpAny_bind (wpAny_askSetting (wpAny_pure h))
theorem sit_setNext {d : Addr} {es : Array (Int × Value)} {ep : Nat} {t : SetTable} {i : Nat} (hd : SetAt s.heap d es ep t) (hg : okH (es.map (·.1),t) = true) (hl : t.led = ledOf w) (hi : i <= es.size) {Q : Option (Value × Nat) -> Shared -> Prop}
  (h : Q (((orderOf w d ep es)[i]?).map fun e=>(e.2,slotAt w t (i + 1))) s) : wpAny (model pw w) A (setNext d (slotAt w t i) i ep) Q E s:=by
 refine eX1d hd fun o ho hex hdat hf=>?_
 unfold setNext
 refine wpAny_bind (wpAny_setState_of ho hdat hf ?_)
 dsimp only
 refine wpAny_bind (setsByText_wp ?_)
 unfold orderOf at h
 cases hb : w.params.followText "set-order" with
 | true =>
  rw [hb,if_pos rfl] at h
  rw [if_pos rfl,if_neg (by simp)]
  have hs : ∀ j,slotAt w t j = 0:=fun j=>by
   cases j with
   | zero=>rfl
   | succ j=>show (if w.params.followText "set-order" = true then 0 else t.place.getD j 0 + 1) = 0;rw [hb];rfl
  rw [hs] at h
  rw [hs]
  refine wpAny_bind ?_
  unfold setWalk
  refine wpAny_bind (wpAny_setState_of ho hdat hf ?_)
  dsimp only
  refine wpAny_bind (setsByText_wp ?_)
  rw [hb,if_pos rfl]
  refine wpAny_bind (wpAny_askSetting ?_)
  refine wpAny_pure ?_
  exact wpAny_pure h
 | false =>
  rw [hb,if_neg (by decide)] at h
  rw [if_neg (by decide)]
  have hled : t.led = true:=by rw [hl];unfold ledOf;rw [hb];rfl
  obtain ⟨mask,place,dummies,finger,led,moves,plain⟩:=t
  simp only at hled
  subst hled
  unfold okH at hg
  simp only [Bool.and_eq_true] at hg
  refine eX0b hg fun zz250 hb0=>?_;refine eX0b zz250 fun hpl hbl=>?_
  have hpl : plain = true:=hpl
  subst hpl
  have hpsz : place.size = es.size:=by
   unfold SetTable.fits at hf
   simp only [Bool.and_eq_true,beq_iff_eq] at hf
   exact hf.1
  have hbel : SetTable.below place (slotAt w ⟨mask,place,dummies,finger,true,moves,true⟩ i) = i:=by
   cases i with
   | zero=>exact eq_of_beq hb0
   | succ j =>
    have:=List.all_eq_true.mp hbl j (List.mem_range.mpr (by lia))
    show SetTable.below place (if w.params.followText "set-order" = true then 0 else place.getD j 0 + 1) = j + 1
    rw [hb,if_neg (by decide)]
    exact eq_of_beq this
  refine wpAny_ite_split (fun h=>Bool.noConfusion (show false = true from h)) (fun _=>?_)
  refine wpAny_bind (wpAny_of_eq (a:=()) (by rfl) ?_)
  refine wpAny_pure ?_
  show Q (match es[SetTable.below place (slotAt w ⟨mask,place,dummies,finger,true,moves,true⟩ i)]?,place[SetTable.below place (slotAt w ⟨mask,place,dummies,finger,true,moves,true⟩ i)]? with
     | some (_,x),some j=>some (x,j + 1)
     | _,_=>none) s
  rw [hbel]
  by_cases hlt : i < es.size
  ·rw [Array.getElem?_eq_getElem hlt,Array.getElem?_eq_getElem (by lia : i < place.size)]
   rw [Array.getElem?_eq_getElem hlt] at h
   have : slotAt w ⟨mask,place,dummies,finger,true,moves,true⟩ (i + 1) = place[i] + 1:=by
    show (if w.params.followText "set-order" = true then 0 else place.getD i 0 + 1) = _
    rw [hb,if_neg (by decide),Array.getD_eq_getD_getElem?,Array.getElem?_eq_getElem (by lia : i < place.size)];rfl
   rw [this] at h
   exact h
  ·rw [Array.getElem?_eq_none (by lia)]
   rw [Array.getElem?_eq_none (by lia)] at h
   exact h
theorem pyIter_set {d : Addr} {es : Array (Int × Value)} {ep : Nat} {t : SetTable} {Q : Value -> Shared -> Prop} (hd : SetAt s.heap d es ep t) (hpl : t.plain = true)
  (hQ : Q (.ref s.heap.objs.size) { s with heap:=s.heap.push { cls:=.type "set_iterator",data:=.fields #[.int 0 0,.int 0 0,.ref d,.int es.size 0,.int ep 0] } }) : wpAny (model pw w) A (pyIter (.ref d)) Q E s:=by
 have hT:=hd.typeIs
 refine eX1d (id hd) fun o ho hex hdat hf=>?_
 refine wpAny_pyIter_slot hT PySem.F.slot_set_iter (wpAny_call_entry PySem.F.slot_set_iter hT entry_set_iter ?_ (PySem.F.args_set_iter_1 _))
 unfold Builtin.«frozenset.__iter__»
 refine wpAny_bind (wpAny_pure ?_)
 refine wpAny_bind ?_
 unfold Builtin.Frozenset.sizeOf setEntries
 refine wpAny_bind (wpAny_bind (wpAny_setState_of ho hdat hf (wpAny_pure (wpAny_pure ?_))))
 refine wpAny_bind ?_
 refine wpAny_bind ?_
 obtain ⟨mask,place,dummies,finger,led,moves,plain⟩:=t
 have hpl : plain = true:=hpl
 subst hpl
 refine wpAny_setState_of ho hdat hf ?_
 dsimp only
 refine wpAny_bind (setsByText_wp (wpAny_pure ?_))
 refine wpAny_ite_split (fun h=>?_) (fun _=>?_)
 ·rw [Bool.and_eq_true] at h
  exact Bool.noConfusion (show false = true from h.2)
 refine wpAny_bind (wpAny_pure ?_)
 refine wpAny_bind ?_
 unfold setEpoch
 refine wpAny_bind (wpAny_setState_of ho hdat hf (wpAny_pure ?_))
 refine wpAny_bind ?_
 unfold newFields
 refine wpAny_newObj_type (wpAny_pure ⟨_,rfl,"set_iterator",_,(iX1b _ (Heap.get?_push_size _ rfl) rfl),slot_sit_next.lookup,?_⟩)
 exact hQ
theorem sit_self {it d : Addr} {slot i n ep : Nat} {Q : Value -> Shared -> Prop} (hit : IsSetIter s.heap it d slot i n ep) (h : Q (.ref it) s) : wpAny (model pw w) A (pyIter (.ref it)) Q E s:=by
 refine wpAny_pyIter_slot hit.typeIs slot_sit_iter (wpAny_call_entry slot_sit_iter hit.typeIs entry_sit_iter ?_ (args_sit_iter _))
 show wpAny _ _ (ret (.ref it)) _ _ s
 exact wpAny_pure ⟨_,rfl,"set_iterator",_,hit.typeIs,slot_sit_next.lookup,h⟩
theorem sit_item {it d : Addr} {es : Array (Int × Value)} {ep : Nat} {t : SetTable} {i : Nat} {x : Int × Value} (hit : IsSetIter s.heap it d (slotAt w t i) i es.size ep) (hd : SetAt s.heap d es ep t) (hg : okH (es.map (·.1),t) = true) (hl : t.led = ledOf w) (hi : i <= es.size)
  (hx : (orderOf w d ep es)[i]? = some x) {Q : Option Value -> Shared -> Prop}
  (hQ : ∀ h',IsSetIter h' it d (slotAt w t (i + 1)) (i + 1) es.size ep -> Heap.SameBut it s.heap h' -> Q (some x.2) { s with heap:=h' }) : wpAny (model pw w) A (pyNext (.ref it)) Q E s:=by
 refine eX1c (id hit) fun o ho hc hdt=>?_
 refine eX1d (id hd) fun od hod hex hdat hf=>?_
 unfold pyNext
 refine wpAny_bind (wpAny_attempt (wpAny_callSpecial?_slot (name:=Str.ofString "__next__") hit.typeIs slot_sit_next
  (wpAny_call_entry slot_sit_next hit.typeIs entry_sit_next ?_ (args_sit_next _))))
 refine wpAny_bind (wpAny_pure ?_)
 refine wpAny_bind (wpAny_fieldsOf ho hdt ?_)
 dsimp only
 refine wpAny_bind ?_
 unfold setEntries
 refine wpAny_bind (wpAny_setState_of hod hdat hf (wpAny_pure ?_))
 rw [if_neg (by simp)]
 refine wpAny_bind (sit_setNext hd hg hl hi ?_)
 rw [hx]
 show wpAny _ _ (setField (.ref it) 0 (rawInt ((slotAt w t (i + 1) : Nat) : Int)) >>= fun _=>setField (.ref it) 1 (rawInt ((i : Int) + 1)) >>= fun _=>ret x.2) _ _ s
 refine wpAny_bind (wpAny_setField ho hdt (by simp) ?_)
 have ho1:=Heap.get?_update_self (Obj.mapFields (·.setIfInBounds 0 (rawInt ((slotAt w t (i + 1) : Nat) : Int)))) ho (Obj.isFreed_of_fields (Obj.data_mapFields hdt _))
 have hd1:=Obj.data_mapFields hdt (·.setIfInBounds 0 (rawInt ((slotAt w t (i + 1) : Nat) : Int)))
 refine wpAny_bind (wpAny_setField ho1 hd1 (by simp) ?_)
 have ho2:=Heap.get?_update_self (Obj.mapFields (·.setIfInBounds 1 (rawInt ((i : Int) + 1)))) ho1 (Obj.isFreed_of_fields (Obj.data_mapFields hd1 _))
 have hd2:=Obj.data_mapFields hd1 (·.setIfInBounds 1 (rawInt ((i : Int) + 1)))
 refine wpAny_pure (iX1b _ rfl (wpAny_pure (hQ _ (iX1c _ ho2 (((Obj.cls_mapFields ..).trans (Obj.cls_mapFields ..)).trans hc) (by rw [hd2];simp [rawInt])) ((Heap.SameBut.update ..).trans (Heap.SameBut.update ..)))))
theorem sit_end {it d : Addr} {es : Array (Int × Value)} {ep : Nat} {t : SetTable} (hh : A.handled = none) (hit : IsSetIter s.heap it d (slotAt w t es.size) es.size es.size ep) (hd : SetAt s.heap d es ep t) (hg : okH (es.map (·.1),t) = true) (hl : t.led = ledOf w)
  {Q : Option Value -> Shared -> Prop} (hQ : ∀ h',Heap.ExtBut it s.heap h' -> Q none { s with heap:=h' }) : wpAny (model pw w) A (pyNext (.ref it)) Q E s:=by
 refine eX1c (id hit) fun o ho hc hdt=>?_
 refine eX1d (id hd) fun od hod hex hdat hf=>?_
 have hx : (orderOf w d ep es)[es.size]? = none:=by
  have:=(orderOf_perm w d ep es).length_eq
  rw [Array.length_toList,Array.length_toList] at this
  exact Array.getElem?_eq_none (by lia)
 unfold pyNext
 refine wpAny_bind (wpAny_attempt (wpAny_callSpecial?_slot (name:=Str.ofString "__next__") hit.typeIs slot_sit_next
  (wpAny_call_entry slot_sit_next hit.typeIs entry_sit_next ?_ (args_sit_next _))))
 refine wpAny_bind (wpAny_pure ?_)
 refine wpAny_bind (wpAny_fieldsOf ho hdt ?_)
 dsimp only
 refine wpAny_bind ?_
 unfold setEntries
 refine wpAny_bind (wpAny_setState_of hod hdat hf (wpAny_pure ?_))
 rw [if_neg (by simp)]
 refine wpAny_bind (sit_setNext hd hg hl (Nat.le_refl _) ?_)
 rw [hx]
 show wpAny _ _ (setField (.ref it) 2 .none >>= fun _=>newExc (.type "StopIteration") [] >>= _) _ _ s
 refine wpAny_bind (wpAny_setField ho hdt (by simp) ?_)
 show wpAny _ _ (newExc (.type "StopIteration") [] >>= _) _ _ _
 refine wpAny_bind ?_
 simp only [newExc,newTuple]
 refine wpAny_bind (wpAny_newObj_type ?_ (by size_fits))
 refine wpAny_bind (m:=firstArgMember _ _) (wpAny_of_eq (a:=Value.none) (by first | rfl | (simp only [firstArgMember];rfl)) ?_)
 refine wpAny_newObj_type ?_ (by size_fits)
 simp only [raiseNew]
 refine wpAny_bind (wpAny_handled ?_)
 rw [show A.in1.handled = none from hh]
 refine wpAny_bind (wpAny_pure (wpAny_throw ?_))
 refine wpAny_bind (wpAny_isInstance (T:="StopIteration") (b:=true) (iX1b _ (Heap.get?_push_size _ rfl) rfl) isSubtype_stop ?_)
 exact wpAny_pure (hQ _ (((Heap.SameBut.update ..).extBut.push _).push _))
end
theorem SetAt.at {h h' : Heap} {d : Addr} {es : Array (Int × Value)} {ep : Nat} {t : SetTable} (x : SetAt h d es ep t) (k : ∀ o,h.get? d = some o -> h'.get? d = some o) : SetAt h' d es ep t:=let ⟨o,ho,r⟩:=x;(iX1b o (k _ ho) r)
theorem walksSet {w : World} {A : Around} (hh : A.handled = none) (I d : Addr) (hne : d ≠ I) (es : Array (Int × Value)) (ep : Nat) (t : SetTable) (hg : okH (es.map (·.1),t) = true) (hl : t.led = ledOf w) :
  Walks pw w A I [I,d] [I] es.size (fun i v=>∃ x,(orderOf w d ep es)[i]? = some x /\ v = x.2) (fun i h=>IsSetIter h I d (slotAt w t i) i es.size ep /\ SetAt h d es ep t) where
 sub:=fun b hb=>by simp at hb;simp [hb]
 frame:=fun _ _ _ st hk=>(iX0b (let ⟨o,ho,r⟩:=st.1;(iX1b o (hk I (by simp) _ ho) r)) (st.2.at fun o e=>hk d (by simp) o e))
 item:=fun i s Q E hi st hQ=>by
  have hlen:=(orderOf_perm w d ep es).length_eq
  rw [Array.length_toList,Array.length_toList] at hlen
  refine eX1a ((show ∃ x,(orderOf w d ep es)[i]? = some x from (iX1a _ (Array.getElem?_eq_getElem (by lia))))) fun x hx=>?_
  refine sit_item st.1 st.2 hg hl (Nat.le_of_lt hi) hx fun h' hit' hs'=>?_
  exact hQ x.2 h' s.toks (iX1b x hx rfl) (iX0b hit' (st.2.at fun o e=>hs'.extBut d o hne e)) fun b o hb e=>hs'.extBut b o (fun h=>hb (by simp [h])) e
 done:=fun s Q E st hQ=>sit_end hh st.1 st.2 hg hl fun h' he'=>hQ h' s.toks fun b o hb e=>he' b o (fun h=>hb (by simp [h])) e
 self:=fun _ _ _ _ st hQ=>sit_self st.1 hQ
theorem hint_set {w : World} {A : Around} {E : Value -> Shared -> Prop} {s : Shared} {r : Addr} {Q : Bool -> Shared -> Prop} (hT : s.TypeIs (.ref r) "set") (h : Q false s) : wpAny (model pw w) A (Builtin.List.listLengthHint (.ref r)) Q E s:=by
 unfold Builtin.List.listLengthHint
 refine wpAny_bind (wpAny_specialOf hT PySem.F.slot_set_len.lookup ?_)
 generalize hid : ("set.__len__" : String) = id0
 as_aux_lemma =>
 wp_delta
 rw [show splitId id0 = some ("set","__len__") from by subst hid;decide +kernel]
 subst hid
 refine wpAny_bind (wpAny_isInstance (T:="set") (b:=true) hT (by rw [isSubtype_type];kernel_rfl) ?_)
 refine wpAny_ite_split (fun hab=>absurd hab (by decide)) (fun _=>?_)
 refine wpAny_ite_split (fun _=>?_) (fun hab=>absurd (by decide +kernel) hab)
 refine wpAny_bind (wpAny_typeOf hT ?_)
 exact wpAny_pure h
theorem srcSet {w : World} {d : Addr} (es : Array (Int × Value)) (ep : Nat) (t : SetTable) (hg : okH (es.map (·.1),t) = true) (hl : t.led = ledOf w) :
  KdlSrc pw w "set" d d es.size (fun i v=>∃ x,(orderOf w d ep es)[i]? = some x /\ v = x.2) (fun h=>SetAt h d es ep t) where
 type:=fun _ hm=>hm.typeIs
 there:=fun _ hm=>let ⟨_,ho,_⟩:=hm;(iX0b (Heap.lt_size ho) (Heap.lt_size ho))
 keep:=fun _ _ hm hk=>hm.at fun o e=>hk d (.inl rfl) o e
 notList:=by decide
 notTuple:=by decide
 hint:=fun _ _ _ _ hm hq=>hint_set hm.typeIs hq
 iter:=fun _ _ hh hm=>(iX2c _ _ (fun _ _ hq=>pyIter_set hm (by unfold okH at hg;simp only [Bool.and_eq_true] at hg;exact hg.1.1) hq) (walksSet hh _ d (Nat.ne_of_lt (let ⟨_,ho,_⟩:=hm;Heap.lt_size ho)) es ep t hg hl) (iX0b (iX1c _ (Heap.get?_push_size _ rfl) rfl rfl) (hm.at fun o e=>Heap.get?_push_of_some _ e)))
set_option genInjectivity false
set_option genSizeOf false
structure Pt where
 N : Fin 18
 B : Fin 10
deriving DecidableEq
noncomputable def Pt.birth (p : Pt) : Int:=(p.B.val : Int) + 1
noncomputable def Pt.num (p : Pt) : Int:=(p.N.val : Int)
noncomputable def Pt.cnt (p : Pt) : Int:=1 + p.num.fmod 3
noncomputable def Pt.copies (p : Pt) : Nat:=1 + p.N.val % 2
noncomputable def byte (n : Int) : UInt8:=n.toNat.toUInt8
noncomputable def oct (n : Int) (k : Nat) : List UInt8:=byte n :: List.replicate k 0
noncomputable def encPlace (p : Pt) (c : Nat) : List UInt8:=[byte c] ++ oct (10 * p.num) 3 ++ oct p.cnt 1
noncomputable def enc (p : Pt) : List UInt8 :=
 [byte p.copies] ++ ((List.range p.copies).map (encPlace p)).flatten ++ List.replicate ((3 - p.copies) * 7) 0 ++ [8,0] ++ (oct 16 1 ++ oct 16 1) ++ [0] ++ (oct p.birth 3 ++ oct 1 2) ++ ([p.num,0,0,7].map fun x=>oct x 3).flatten ++ [0]
noncomputable def encAll (ps : List Pt) : List UInt8:=(ps.map enc).flatten
theorem enc_len : ∀ p : Pt,(enc p).length = 53:=by
 have : ∀ N : Fin 18,∀ B : Fin 10,(enc ⟨N,B⟩).length = 53:=by decide +kernel
 exact fun p=>this p.N p.B
theorem encAll_len (ps : List Pt) : (encAll ps).length = 53 * ps.length:=by
 unfold encAll
 rw [List.length_flatten,List.map_map]
 induction ps with
 | nil=>rfl
 | cons p r ih=>rw [List.map_cons,List.sum_cons,ih,List.length_cons];simp [enc_len];lia
structure BS0 where
 d : Addr
 nd : Addr
 zd : Addr
 last : Int
 notes : List (Int × List Pt)
 zaps : List (Int × Addr × List (Str × Int))
noncomputable def BaseD (S : BS0) : AO:=.dictS true [("last",.int S.last),("notes",.ref S.nd),("zaps",.ref S.zd)]
noncomputable def BaseN (S : BS0) : AO:=.dictI true none (S.notes.map fun p=>(p.1,.bytes (encAll p.2)))
noncomputable def BaseZ (S : BS0) : AO:=.dictI true none (S.zaps.map fun p=>(p.1,.ref p.2.1))
noncomputable def ZapO (es : List (Str × Int)) : AO:=.dictS true (es.map fun q=>(q.1,.int q.2))
structure BaseAt0 (mem : Mem) (b : Addr) (S : BS0) : Prop where
 i : mem b = some (.inst 366 S.d)
 d : mem S.d = some (BaseD S)
 n : mem S.nd = some (BaseN S)
 z : mem S.zd = some (BaseZ S)
 nz : S.nd ≠ S.zd
 zs : ∀ p ∈ S.zaps,mem p.2.1 = some (ZapO p.2.2) /\ p.2.1 ≠ S.d
 ap : (S.zaps.map (·.2.1)).Nodup
 ln : S.notes.length <= 900
 lz : S.zaps.length <= 900
 ll : 0 <= S.last /\ S.last <= 1000000
structure BSt where
 last : Int
 notes : List (Int × List Pt)
 zaps : List (Int × List (Str × Int))
noncomputable def BS0.pl (S : BS0) : BSt:=⟨S.last,S.notes,S.zaps.map fun p=>(p.1,p.2.2)⟩
noncomputable def BaseAt (mem : Mem) (b : Addr) (S : BSt) : Prop:=∃ S0,BaseAt0 mem b S0 /\ S0.pl = S
noncomputable def isB : AO -> Bool
 | .dictI true _ _=>true
 | .dictS true _=>true
 | _=>false
noncomputable def Kp (m m' : Mem) : Prop:=∀ a o,m a = some o -> isB o = false -> m' a = some o
theorem Kp.refl (m : Mem) : Kp m m:=fun _ _ e _=>e
theorem Kp.trans {a b c : Mem} (h : Kp a b) (h' : Kp b c) : Kp a c:=fun x o e n=>h' x o (h x o e n) n
theorem Kp.set {m : Mem} {a : Addr} {o o' : AO} (e : m a = some o) (h : isB o = true) : Kp m (mset m a o'):=fun x p ex n=>by
 rw [mset_ne fun q=>by rw [q,e] at ex;cases ex;rw [h] at n;cases n];exact ex
theorem Kp.new {m : Mem} {a : Addr} {o : AO} (e : m a = none) : Kp m (mset m a o):=fun x p ex _=>by
 rw [mset_ne fun q=>by rw [q,e] at ex;cases ex];exact ex
noncomputable abbrev T (α : Type):=BSt -> Option (Except Addr α × BSt)
namespace T
noncomputable def pure {α : Type} (a : α) : T α:=fun S=>some (.ok a,S)
noncomputable def bind {α β : Type} (t : T α) (f : α -> T β) : T β:=fun S=>match t S with
 | some (.ok a,S')=>f a S'
 | some (.error C,S')=>some (.error C,S')
 | none=>none
noncomputable def fail {α : Type} (C : Addr) : T α:=fun S=>some (.error C,S)
noncomputable def wp {α : Type} (t : T α) (S : BSt) (Q : α -> BSt -> Prop) (X : Addr -> BSt -> Prop) : Prop:=match t S with
 | some (.ok a,S')=>Q a S'
 | some (.error C,S')=>X C S'
 | none=>False
noncomputable def need {α : Type} (p : Prop) [Decidable p] (t : T α) : T α:=fun S=>if p then t S else none
noncomputable def ask {α : Type} (f : BSt -> T α) : T α:=fun S=>f S S
noncomputable def out {α : Type} (a : α) (S : BSt) : T α:=fun _=>some (.ok a,S)
theorem wp_need {α : Type} {p : Prop} [Decidable p] {t : T α} {S : BSt} {Q : α -> BSt -> Prop} {X : Addr -> BSt -> Prop} : (need p t).wp S Q X ↔ p /\ t.wp S Q X:=by
 unfold wp need
 by_cases h : p
 ·rw [if_pos h];exact ⟨fun x=>(iX0b h x),fun x=>x.2⟩
 ·rw [if_neg h];exact ⟨fun x=>x.elim,fun x=>(h x.1).elim⟩
theorem wp_ask {α : Type} {f : BSt -> T α} {S : BSt} {Q : α -> BSt -> Prop} {X : Addr -> BSt -> Prop} : (ask f).wp S Q X ↔ (f S).wp S Q X:=Iff.rfl
theorem wp_out {α : Type} {a : α} {S S' : BSt} {Q : α -> BSt -> Prop} {X : Addr -> BSt -> Prop} : (out a S').wp S Q X ↔ Q a S':=Iff.rfl
theorem wp_fail {α : Type} {C : Addr} {S : BSt} {Q : α -> BSt -> Prop} {X : Addr -> BSt -> Prop} : (fail C : T α).wp S Q X ↔ X C S:=Iff.rfl
theorem wp_ite {α : Type} {p : Prop} [Decidable p] {t u : T α} {S : BSt} {Q : α -> BSt -> Prop} {X : Addr -> BSt -> Prop} : (if p then t else u : T α).wp S Q X ↔ if p then t.wp S Q X else u.wp S Q X:=by
 split <;> exact Iff.rfl
theorem wp_mono {α : Type} {t : T α} {S : BSt} {Q Q' : α -> BSt -> Prop} {X X' : Addr -> BSt -> Prop} (h : t.wp S Q X) (h1 : ∀ a S,Q a S -> Q' a S) (h2 : ∀ C S,X C S -> X' C S) : t.wp S Q' X':=by
 unfold wp at h ⊢
 split at h
 ·exact h1 _ _ h
 ·exact h2 _ _ h
 ·exact h
theorem wp_bind {α β : Type} {t : T α} {f : α -> T β} {S : BSt} {Q : β -> BSt -> Prop} {X : Addr -> BSt -> Prop} : (t.bind f).wp S Q X ↔ t.wp S (fun a S'=>(f a).wp S' Q X) X:=by
 unfold wp bind
 cases t S with
 | none=>exact Iff.rfl
 | some r =>
  obtain ⟨r,S'⟩:=r
  cases r <;> exact Iff.rfl
end T
theorem T.wp_pure {α : Type} {a : α} {S : BSt} {Q : α -> BSt -> Prop} {X : Addr -> BSt -> Prop} : T.wp (T.pure a) S Q X ↔ Q a S:=Iff.rfl
noncomputable def TQ {α : Type} (b : Addr) (val : α -> AV -> Mem -> Prop) (mem : Mem) (Q : MQ AV) (r : α) (S' : BSt) : Prop:=∀ a mem',BaseAt mem' b S' -> Kp mem mem' -> val r a mem' -> Q a mem'
noncomputable def TX (b : Addr) (mem : Mem) (X : MQ Addr) (C : Addr) (S' : BSt) : Prop:=∀ mem',BaseAt mem' b S' -> Kp mem mem' -> X C mem'
noncomputable def Tw {α : Type} (b : Addr) (t : T α) (val : α -> AV -> Mem -> Prop) (mem : Mem) (Q : MQ AV) (X : MQ Addr) : Prop :=
 ∃ S,BaseAt mem b S /\ t.wp S (TQ b val mem Q) (TX b mem X)
noncomputable def put1 {α β : Type} [DecidableEq α] (es : List (α × β)) (k : α) (v : β) : List (α × β):=match es with
 | []=>[(k,v)]
 | (k',v') :: r=>if k' = k then (k',v) :: r else (k',v') :: put1 r k v
theorem put1_map {α β : Type} [DecidableEq α] (f : β -> AV) (k : α) (v : β) : ∀ es : List (α × β),(put1 es k v).map (fun p=>(p.1,f p.2)) = sput (es.map fun p=>(p.1,f p.2)) k (f v)
 | []=>rfl
 | (k',v') :: r=>by
  unfold put1 sput
  rw [List.map_cons]
  by_cases q : k' = k
  ·simp [q]
  ·simp [q,put1_map f k v r]
theorem put1_len {α β : Type} [DecidableEq α] (k : α) (v : β) : ∀ es : List (α × β),(put1 es k v).length <= es.length + 1
 | []=>Nat.le_refl _
 | (k',v') :: r=>by
  unfold put1
  split
  ·simp
  ·have:=put1_len k v r;simp only [List.length_cons];lia
theorem lookup_map {α β : Type} [DecidableEq α] [BEq α] [LawfulBEq α] (f : β -> AV) (k : α) : ∀ es : List (α × β),(es.map fun p=>(p.1,f p.2)).lookup k = (es.lookup k).map f
 | []=>rfl
 | (k',v') :: r=>by
  rw [List.map_cons,List.lookup_cons,List.lookup_cons,lookup_map f k r]
  cases k == k' <;> rfl
theorem lookup_mapG {α β γ : Type} [BEq α] (f : β -> γ) (k : α) : ∀ es : List (α × β),(es.map fun p=>(p.1,f p.2)).lookup k = (es.lookup k).map f
 | []=>rfl
 | (k',v') :: r=>by
  rw [List.map_cons,List.lookup_cons,List.lookup_cons,lookup_mapG f k r]
  cases k == k' <;> rfl
theorem mem_lookup {α β : Type} [BEq α] [LawfulBEq α] {k : α} {v : β} : ∀ {es : List (α × β)},es.lookup k = some v -> (k,v) ∈ es
 | [],h=>by cases h
 | (k',v') :: r,h=>by
  rw [List.lookup_cons] at h
  cases q : k == k' with
  | true=>rw [q] at h;cases h;rw [eq_of_beq q];exact .head _
  | false=>rw [q] at h;exact .tail _ (mem_lookup h)
theorem lookup_mem1 {α β : Type} [BEq α] [LawfulBEq α] {k : α} {v : β} : ∀ {es : List (α × β)},(es.map (·.1)).Nodup -> (k,v) ∈ es -> es.lookup k = some v
 | (k',v') :: r,hn,h=>by
  rw [List.map_cons,List.nodup_cons] at hn
  rw [List.lookup_cons]
  rcases List.mem_cons.mp h with h | h
  ·cases h;rw [beq_self_eq_true]
  ·cases q : k == k' with
   | true=>exact absurd (List.mem_map_of_mem (f:=(·.1)) h) (by rw [eq_of_beq q];exact hn.1)
   | false=>exact lookup_mem1 hn.2 h
theorem inj_nodup {α β : Type} {f : α -> β} : ∀ {l : List α},(l.map f).Nodup -> ∀ x ∈ l,∀ y ∈ l,f x = f y -> x = y
 | a :: r,hn,x,hx,y,hy,e=>by
  rw [List.map_cons,List.nodup_cons] at hn
  rcases List.mem_cons.mp hx with hx1 | hx1
  ·rcases List.mem_cons.mp hy with hy1 | hy1
   ·rw [hx1,hy1]
   ·exact absurd (List.mem_map_of_mem (f:=f) hy1) (by rw [<- e,hx1];exact hn.1)
  ·rcases List.mem_cons.mp hy with hy1 | hy1
   ·exact absurd (List.mem_map_of_mem (f:=f) hx1) (by rw [e,hy1];exact hn.1)
   ·exact inj_nodup hn.2 x hx1 y hy1 e
theorem filter_map1 {α β : Type} [DecidableEq α] (f : β -> AV) (k : α) : ∀ es : List (α × β),(es.filter fun p=>decide (p.1 ≠ k)).map (fun p=>(p.1,f p.2)) = (es.map fun p=>(p.1,f p.2)).filter fun p=>decide (p.1 ≠ k)
 | []=>rfl
 | (k',v') :: r=>by
  have ih:=filter_map1 f k r
  rw [List.map_cons,List.filter_cons,List.filter_cons]
  by_cases q : k' ≠ k
  ·rw [if_pos (decide_eq_true q),if_pos (decide_eq_true q),List.map_cons,ih]
  ·rw [if_neg (by simpa using q),if_neg (by simpa using q),ih]
theorem aokL : AOk 366 "last":=fun P=>⟨by kernel_rfl,by kernel_rfl,none,by kernel_rfl,by kernel_rfl⟩
theorem aokN : AOk 366 "notes":=fun P=>⟨by kernel_rfl,by kernel_rfl,none,by kernel_rfl,by kernel_rfl⟩
theorem aokZ : AOk 366 "zaps":=fun P=>⟨by kernel_rfl,by kernel_rfl,none,by kernel_rfl,by kernel_rfl⟩
theorem sokL : SOk 366 "last":=fun P=>(iX0d (by kernel_rfl) (by kernel_rfl) (by kernel_rfl) (by kernel_rfl))
theorem sokN : SOk 366 "notes":=fun P=>(iX0d (by kernel_rfl) (by kernel_rfl) (by kernel_rfl) (by kernel_rfl))
theorem sokZ : SOk 366 "zaps":=fun P=>(iX0d (by kernel_rfl) (by kernel_rfl) (by kernel_rfl) (by kernel_rfl))
section
variable {cx : Cx} {mem : Mem} {b : Addr} {S : BS0} {Q : MQ AV} {X : MQ Addr}
theorem BaseAt0.aL (B : BaseAt0 mem b S) (h : Q (.int S.last) mem) : AttrV cx "last" (.ref b) mem Q X:=.inst B.i B.d rfl aokL (by nofun) h
theorem BaseAt0.aN (B : BaseAt0 mem b S) (h : Q (.ref S.nd) mem) : AttrV cx "notes" (.ref b) mem Q X:=.inst B.i B.d rfl aokN (by nofun) h
theorem BaseAt0.aZ (B : BaseAt0 mem b S) (h : Q (.ref S.zd) mem) : AttrV cx "zaps" (.ref b) mem Q X:=.inst B.i B.d rfl aokZ (by nofun) h
theorem ne_of {m : Mem} {a b : Addr} {x y : AO} (h1 : m a = some x) (h2 : m b = some y) (h : x ≠ y) : a ≠ b:=fun q=>h (by rw [q,h2] at h1;exact (Option.some.inj h1).symm)
theorem BaseAt0.setLast (B : BaseAt0 mem b S) {l : Int} (hl : 0 <= l /\ l <= 1000000) : BaseAt0 (mset mem S.d (BaseD { S with last:=l })) b { S with last:=l } :=
 ⟨(mset_ne (ne_of B.i B.d (by nofun))).trans B.i,mset_same ..,(mset_ne (ne_of B.n B.d (by nofun))).trans B.n,(mset_ne (ne_of B.z B.d (by nofun))).trans B.z,B.nz,fun p hp=>(iX0b ((mset_ne (B.zs p hp).2).trans (B.zs p hp).1) ((B.zs p hp).2)),B.ap,B.ln,B.lz,hl⟩
theorem BaseAt0.setNotes (B : BaseAt0 mem b S) {ns : List (Int × List Pt)} (hl : ns.length <= 900) : BaseAt0 (mset mem S.nd (BaseN { S with notes:=ns })) b { S with notes:=ns } :=
 ⟨(mset_ne (ne_of B.i B.n (by nofun))).trans B.i,(mset_ne (ne_of B.d B.n (by nofun))).trans B.d,mset_same ..,(mset_ne (Ne.symm B.nz)).trans B.z,B.nz,fun p hp=>(iX0b ((mset_ne (ne_of (B.zs p hp).1 B.n (by nofun))).trans (B.zs p hp).1) ((B.zs p hp).2)),B.ap,hl,B.lz,B.ll⟩
theorem BaseAt0.delZap (B : BaseAt0 mem b S) (z : Int) : BaseAt0 (mset mem S.zd (BaseZ { S with zaps:=S.zaps.filter fun p=>decide (p.1 ≠ z) })) b { S with zaps:=S.zaps.filter fun p=>decide (p.1 ≠ z) } :=
 ⟨(mset_ne (ne_of B.i B.z (by nofun))).trans B.i,(mset_ne (ne_of B.d B.z (by nofun))).trans B.d,(mset_ne B.nz).trans B.n,mset_same ..,B.nz,
  fun p hp=>have hp:=(List.mem_filter.mp hp).1;(iX0b ((mset_ne (ne_of (B.zs p hp).1 B.z (by nofun))).trans (B.zs p hp).1) ((B.zs p hp).2)),B.ap.sublist (List.filter_sublist.map _),B.ln,Nat.le_trans (List.length_filter_le _ _) B.lz,B.ll⟩
theorem put1_new {α β : Type} [DecidableEq α] {k : α} {v : β} : ∀ {es : List (α × β)},k ∉ es.map (·.1) -> put1 es k v = es ++ [(k,v)]
 | [],_=>rfl
 | (k',v') :: r,h=>by
  rw [List.map_cons,List.mem_cons,not_or] at h
  unfold put1
  rw [if_neg (Ne.symm h.1),put1_new h.2];rfl
theorem BaseAt0.newZap (B : BaseAt0 mem b S) {a : Addr} (ha : mem a = none) {z : Int} (hz : z ∉ S.zaps.map (·.1)) (hl : S.zaps.length < 900) :
  BaseAt0 (mset (mset mem a (ZapO [])) S.zd (BaseZ { S with zaps:=S.zaps ++ [(z,a,[])] })) b { S with zaps:=S.zaps ++ [(z,a,[])] }:=by
 have na : ∀ c o,mem c = some o -> c ≠ a:=fun c o e q=>by rw [q,ha] at e;cases e
 refine ⟨(mset_ne (ne_of B.i B.z (by nofun))).trans ((mset_ne (na _ _ B.i)).trans B.i),(mset_ne (ne_of B.d B.z (by nofun))).trans ((mset_ne (na _ _ B.d)).trans B.d),(mset_ne B.nz).trans ((mset_ne (na _ _ B.n)).trans B.n),mset_same ..,B.nz,fun p hp=>?_,?_,B.ln,by simp;lia,B.ll⟩
 ·rcases List.mem_append.mp hp with hp | hp
  ·exact (iX0b ((mset_ne (ne_of (B.zs p hp).1 B.z (by nofun))).trans ((mset_ne (na _ _ (B.zs p hp).1)).trans (B.zs p hp).1)) ((B.zs p hp).2))
  ·rw [List.mem_singleton.mp hp]
   exact (iX0b ((mset_ne (Ne.symm (na _ _ B.z))).trans (mset_same ..)) (Ne.symm (na _ _ B.d)))
 ·rw [List.map_append,List.nodup_append]
  refine (iX0c B.ap (by simp) (fun x hx y hy q=>?_))
  rw [List.map_singleton,List.mem_singleton] at hy
  refine eX1b (List.mem_map.mp hx) fun p hp ee251=>?_;subst ee251
  exact na _ _ (B.zs p hp).1 (q.trans hy)
noncomputable def setRows (zs : List (Int × Addr × List (Str × Int))) (z : Int) (es : List (Str × Int)) : List (Int × Addr × List (Str × Int)):=zs.map fun p=>if p.1 = z then (p.1,p.2.1,es) else p
theorem BaseAt0.setRows (B : BaseAt0 mem b S) (hk : (S.zaps.map (·.1)).Nodup) {z : Int} {a : Addr} {es0 es : List (Str × Int)} (h : S.zaps.lookup z = some (a,es0)) :
  BaseAt0 (mset mem a (ZapO es)) b { S with zaps:=Mine.setRows S.zaps z es }:=by
 have hm : (z,a,es0) ∈ S.zaps:=mem_lookup h
 have he:=B.zs _ hm
 have e1 : (Mine.setRows S.zaps z es).map (·.2.1) = S.zaps.map (·.2.1):=by
  unfold Mine.setRows;rw [List.map_map];apply List.map_congr_left;intro p _;simp only [Function.comp];split <;> rfl
 have e2 : (Mine.setRows S.zaps z es).map (fun p=>(p.1,AV.ref p.2.1)) = S.zaps.map fun p=>(p.1,AV.ref p.2.1):=by
  unfold Mine.setRows;rw [List.map_map];apply List.map_congr_left;intro p _;simp only [Function.comp];split <;> rfl
 refine ⟨(mset_ne (ne_of B.i he.1 (by nofun))).trans B.i,(mset_ne (Ne.symm he.2)).trans B.d,(mset_ne (ne_of B.n he.1 (by nofun))).trans B.n,?_,B.nz,fun p hp=>?_,?_,B.ln,?_,B.ll⟩
 ·rw [mset_ne (ne_of B.z he.1 (by nofun))]
  show mem S.zd = some (BaseZ { S with zaps:=Mine.setRows S.zaps z es })
  unfold BaseZ
  rw [e2];exact B.z
 ·refine eX1b (List.mem_map.mp hp) fun q hq ee252=>?_;subst ee252
  dsimp only
  by_cases hz : q.1 = z
  ·rw [if_pos hz]
   have : q = (z,a,es0):=by
    exact inj_nodup hk q hq _ hm hz
   subst this
   exact (iX0b (mset_same ..) he.2)
  ·rw [if_neg hz]
   refine (iX0b ((mset_ne fun e=>hz ?_).trans (B.zs q hq).1) ((B.zs q hq).2))
   have:=inj_nodup B.ap q hq _ hm e
   rw [this]
 ·rw [e1];exact B.ap
 ·show (Mine.setRows S.zaps z es).length <= 900
  unfold Mine.setRows;rw [List.length_map];exact B.lz
end
theorem BaseAt0.putNote {mem : Mem} {b : Addr} {S : BS0} (B : BaseAt0 mem b S) {k : Int} {ps : List Pt} (hl : S.notes.length < 900) :
  BaseAt0 (mset mem S.nd (.dictI true none (sput (S.notes.map fun p=>(p.1,.bytes (encAll p.2))) k (.bytes (encAll ps))))) b { S with notes:=put1 S.notes k ps }:=by
 have:=B.setNotes (ns:=put1 S.notes k ps) (by have:=put1_len k ps S.notes;lia)
 unfold BaseN at this
 rwa [put1_map (fun ps=>AV.bytes (encAll ps))] at this
theorem BaseAt0.dropNote {mem : Mem} {b : Addr} {S : BS0} (B : BaseAt0 mem b S) (k : Int) :
  BaseAt0 (mset mem S.nd (.dictI true none ((S.notes.map fun p=>(p.1,AV.bytes (encAll p.2))).filter fun p=>decide (p.1 ≠ k)))) b { S with notes:=S.notes.filter fun p=>decide (p.1 ≠ k) }:=by
 have:=B.setNotes (ns:=S.notes.filter fun p=>decide (p.1 ≠ k)) (Nat.le_trans (List.length_filter_le _ _) B.ln)
 unfold BaseN at this
 rwa [filter_map1 (fun ps=>AV.bytes (encAll ps))] at this
theorem BaseAt0.fresh {mem : Mem} {b a : Addr} {S : BS0} {o : AO} (B : BaseAt0 mem b S) (ha : mem a = none) : BaseAt0 (mset mem a o) b S:=by
 have na : ∀ c o,mem c = some o -> c ≠ a:=fun c o e q=>by rw [q,ha] at e;cases e
 exact ⟨(mset_ne (na _ _ B.i)).trans B.i,(mset_ne (na _ _ B.d)).trans B.d,(mset_ne (na _ _ B.n)).trans B.n,(mset_ne (na _ _ B.z)).trans B.z,B.nz,fun p hp=>(iX0b ((mset_ne (na _ _ (B.zs p hp).1)).trans (B.zs p hp).1) ((B.zs p hp).2)),B.ap,B.ln,B.lz,B.ll⟩
theorem sput_new {k : Int} {v : AV} : ∀ {es : List (Int × AV)},k ∉ es.map (·.1) -> sput es k v = es ++ [(k,v)]
 | [],_=>rfl
 | (k',v') :: r,h=>by
  rw [List.map_cons,List.mem_cons,not_or] at h
  unfold sput
  rw [if_neg (Ne.symm h.1),sput_new h.2];rfl
theorem BaseAt0.newZap' {mem : Mem} {b a : Addr} {S : BS0} {z : Int} (B : BaseAt0 mem b S) (ha : mem a = none) (hz : z ∉ S.zaps.map (·.1)) (hl : S.zaps.length < 900) :
  BaseAt0 (mset (mset mem a (.dictS true [])) S.zd (.dictI true none (sput (S.zaps.map fun p=>(p.1,AV.ref p.2.1)) z (.ref a)))) b { S with zaps:=S.zaps ++ [(z,a,[])] }:=by
 have:=B.newZap ha hz hl
 unfold BaseZ at this
 rw [sput_new (by rw [List.map_map];exact hz)]
 rw [List.map_append] at this
 exact this
noncomputable def tNewNote (ps : List Pt) : T Int:=.ask fun S=>.need (S.notes.length < 900 /\ S.last < 1000000) (.out (S.last + 1) { S with last:=S.last + 1,notes:=put1 S.notes (S.last + 1) ps })
noncomputable def specNewNote : Spec:=fun args mem Q X=>∃ b ps,args = [.ref b,.bytes (encAll ps)] /\ Tw b (tNewNote ps) (fun r a _=>a = .int r) mem Q X
theorem fnNewNote : FnC 1 293 specNewNote:=by
 refine FnC.go (d:=mt 44 2) (qual:=S "MemBase.new_note") ["self","octets"] (fun P=>rfl) (fun P=>by rfl) (by rfl) ?_ ?_
 ·exact fun _ _ _ _=>BindsTo.of_eq (by rfl)
 ·intro args mem Q X zz253;obtain ⟨b,ps,ee254,_,zz255,h⟩:=zz253;subst ee254;refine eX1b zz255 ?_;clear zz255;intro S B ee256;subst ee256
  refine ⟨rfl,fun cx hs hw rm=>?_⟩
  refine eX0b (T.wp_need.mp (T.wp_ask.mp h)) fun hg h=>?_
  replace h:=T.wp_out.mp h
  refine SV.cons (S1.setAttr hs (EV.bin (EV.attrS rfl (B.aL ?_))))
  refine EV.cInt (Op2.add (EV.name rfl (SetAttrV.inst B.i B.d sokL (nle rfl) ?_)))
  have B1:=B.setLast (l:=S.last + 1) (by have:=B.ll;have h2 : S.last < 1000000:=hg.2;lia)
  refine SV.cons (S1.setSub hs (EV.callB hs nB_bytes (EVs.s rfl (CallV.bytesCopy ?_))))
  refine EV.attrS rfl (B1.aN (EV.attrS rfl (B1.aL ?_)))
  refine SetV.dict (dkI true) B1.n (by rw [List.length_map];have:=B1.ln;lia) ?_
  have B2:=B1.putNote (k:=S.last + 1) (ps:=ps) hg.1
  refine SV.cons (S1.ret (EV.attrS rfl (B2.aL ?_)))
  exact h _ _ (iX1b _ B2 rfl) ((Kp.set B.d rfl).trans (Kp.set B1.n rfl)) rfl
theorem Rm.le {n m : Nat} {A : Around} (r : Rm n A) (h : m <= n) : Rm m A:=⟨by have:=r.depth;lia,by have:=r.units;lia,r.handled⟩
noncomputable abbrev KOr2b (cx : Cx) (X : MQ Addr) (loc : Loc) (a : AV) (f : Expr) (Q : MQ AV) : MQ Bool:=fun t m=>if t = true then Q a m else EV cx f loc m Q X
noncomputable abbrev KOr2 (cx : Cx) (X : MQ Addr) (loc : Loc) (f : Expr) (Q : MQ AV) : MQ AV:=fun a m=>Tr cx a m (KOr2b cx X loc a f Q) X
theorem EV.or2 {cx : Cx} {X : MQ Addr} {loc : Loc} {mem : Mem} {Q : MQ AV} {e f : Expr} {pos : Pos} (h : EV cx e loc mem (KOr2 cx X loc f Q) X) : EV cx (.BoolOp .Or [e,f] pos) loc mem Q X:=fun s I =>
 BoolOp_or (TV.go h I fun a s1 m1 I1 h1=>wpAny_mono (h1 loc a rfl s1 I1) (fun t s2 zq102=>eX1b zq102 fun m2 I2 h2=>by
  cases t with
  | true=>exact (iX1b m2 I2 h2)
  | false=>exact BoolOp_one (h2 s2 I2)) fun _ _ x=>x)
section
variable {cx : Cx} {mem : Mem} {b : Addr} {S : BS0} {Q : MQ AV} {X : MQ Addr} {k : Int}
theorem BaseAt0.inN (B : BaseAt0 mem b S) (h : Q (.bool (S.notes.lookup k).isSome) mem) : Op2 cx (compareOp .In) (.int k) (.ref S.nd) mem Q X :=
 Op2.inD (dkI true) B.n (by rw [lookup_map (fun ps=>AV.bytes (encAll ps)),Option.isSome_map];exact h)
theorem BaseAt0.notInN (B : BaseAt0 mem b S) (h : Q (.bool (!(S.notes.lookup k).isSome)) mem) : Op2 cx (compareOp .NotIn) (.int k) (.ref S.nd) mem Q X :=
 Op2.notInD (dkI true) B.n (by rw [lookup_map (fun ps=>AV.bytes (encAll ps)),Option.isSome_map];exact h)
theorem BaseAt0.inZ (B : BaseAt0 mem b S) (h : Q (.bool (S.zaps.lookup k).isSome) mem) : Op2 cx (compareOp .In) (.int k) (.ref S.zd) mem Q X :=
 Op2.inD (dkI true) B.z (by rw [lookup_map (fun (q : Addr × List (Str × Int))=>AV.ref q.1),Option.isSome_map];exact h)
theorem BaseAt0.notInZ (B : BaseAt0 mem b S) (h : Q (.bool (!(S.zaps.lookup k).isSome)) mem) : Op2 cx (compareOp .NotIn) (.int k) (.ref S.zd) mem Q X :=
 Op2.notInD (dkI true) B.z (by rw [lookup_map (fun (q : Addr × List (Str × Int))=>AV.ref q.1),Option.isSome_map];exact h)
theorem BaseAt0.subN (B : BaseAt0 mem b S) {ps : List Pt} (hl : S.notes.lookup k = some ps) (h : Q (.bytes (encAll ps)) mem) : SubV cx (.ref S.nd) (.int k) mem Q X :=
 SubV.dict (dkI true) B.n (by rw [lookup_map (fun ps=>AV.bytes (encAll ps)),hl];rfl) h
theorem BaseAt0.subZ (B : BaseAt0 mem b S) {a : Addr} {es : List (Str × Int)} (hl : S.zaps.lookup k = some (a,es)) (h : Q (.ref a) mem) : SubV cx (.ref S.zd) (.int k) mem Q X :=
 SubV.dict (dkI true) B.z (by rw [lookup_map (fun (q : Addr × List (Str × Int))=>AV.ref q.1),hl];rfl) h
theorem BaseAt0.zap (B : BaseAt0 mem b S) {a : Addr} {es : List (Str × Int)} (hl : S.zaps.lookup k = some (a,es)) : mem a = some (ZapO es):=(B.zs _ (mem_lookup hl)).1
end
theorem mokIsThere : MOk 366 "is_there" 286:=fun P=>(iX0d (by kernel_rfl) (by kernel_rfl) (by kernel_rfl) (by kernel_rfl))
theorem mokNewNote : MOk 366 "new_note" 293:=fun P=>(iX0d (by kernel_rfl) (by kernel_rfl) (by kernel_rfl) (by kernel_rfl))
theorem mokNote : MOk 366 "note" 300:=fun P=>(iX0d (by kernel_rfl) (by kernel_rfl) (by kernel_rfl) (by kernel_rfl))
theorem mokSetNote : MOk 366 "set_note" 307:=fun P=>(iX0d (by kernel_rfl) (by kernel_rfl) (by kernel_rfl) (by kernel_rfl))
theorem mokAddNote : MOk 366 "add_note" 314:=fun P=>(iX0d (by kernel_rfl) (by kernel_rfl) (by kernel_rfl) (by kernel_rfl))
theorem mokDrop : MOk 366 "drop" 321:=fun P=>(iX0d (by kernel_rfl) (by kernel_rfl) (by kernel_rfl) (by kernel_rfl))
theorem mokNewZap : MOk 366 "new_zap" 328:=fun P=>(iX0d (by kernel_rfl) (by kernel_rfl) (by kernel_rfl) (by kernel_rfl))
theorem mokRows : MOk 366 "rows" 335:=fun P=>(iX0d (by kernel_rfl) (by kernel_rfl) (by kernel_rfl) (by kernel_rfl))
theorem mokGet : MOk 366 "get" 342:=fun P=>(iX0d (by kernel_rfl) (by kernel_rfl) (by kernel_rfl) (by kernel_rfl))
theorem mokPut : MOk 366 "put" 349:=fun P=>(iX0d (by kernel_rfl) (by kernel_rfl) (by kernel_rfl) (by kernel_rfl))
theorem mokTake : MOk 366 "take" 356:=fun P=>(iX0d (by kernel_rfl) (by kernel_rfl) (by kernel_rfl) (by kernel_rfl))
theorem mokNames : MOk 366 "names" 363:=fun P=>(iX0d (by kernel_rfl) (by kernel_rfl) (by kernel_rfl) (by kernel_rfl))
noncomputable def tNote (k : Int) : T (List Pt):=.ask fun S=>match S.notes.lookup k with
 | some ps=>.out ps S
 | none=>.fail 56
noncomputable def specNote : Spec:=fun args mem Q X=>∃ b k,args = [.ref b,.int k] /\ Tw b (tNote k) (fun r a _=>a = .bytes (encAll r)) mem Q X
theorem fnNote : FnC 3 300 specNote:=by
 refine FnC.go (d:=mt 44 3) (qual:=S "MemBase.note") ["self","object_number"] (fun P=>rfl) (fun P=>by rfl) (by rfl) ?_ ?_
 ·exact fun _ _ _ _=>BindsTo.of_eq (by rfl)
 ·intro args mem Q X zz257;obtain ⟨b,k,ee258,_,zz259,h⟩:=zz257;subst ee258;refine eX1b zz259 ?_;clear zz259;intro S B ee260;subst ee260
  refine ⟨rfl,fun cx hs hw rm=>?_⟩
  replace h:=T.wp_ask.mp h
  refine SV.cons (S1.ite (BV.cmp (EV.name rfl (EV.attrS rfl (B.aN (B.notInN (Tr.bool ?_)))))))
  rw [show S.pl.notes = S.notes from rfl] at h
  cases hl : S.notes.lookup k with
  | none =>
   rw [hl] at h
   exact SV.cons (S1.raiseC rfl hs (rm.le (by decide)) nF56 (h mem (iX1b S B rfl) (Kp.refl _)))
  | some ps =>
   rw [hl] at h
   exact SV.nil (SV.cons (S1.ret (EV.sub (EV.attrS rfl (B.aN (EV.name rfl (B.subN hl (h _ mem (iX1b S B rfl) (Kp.refl _) rfl))))))))
noncomputable def specRows : Spec:=fun args mem Q X=>∃ b k S,args = [.ref b,.int k] /\ BaseAt0 mem b S /\ (∀ a es,S.zaps.lookup k = some (a,es) -> Q (.ref a) mem) /\ (S.zaps.lookup k = none -> X 56 mem)
theorem fnRows : FnC 3 335 specRows:=by
 refine FnC.go (d:=mt 44 8) (qual:=S "MemBase.rows") ["self","object_number"] (fun P=>rfl) (fun P=>by rfl) (by rfl) ?_ ?_
 ·exact fun _ _ _ _=>BindsTo.of_eq (by rfl)
 ·intro args mem Q X zz261;refine eX3d zz261 ?_;clear zz261;intro b k S ee262 B h1 h2;subst ee262
  refine ⟨rfl,fun cx hs hw rm=>?_⟩
  refine SV.cons (S1.ite (BV.cmp (EV.name rfl (EV.attrS rfl (B.aZ (B.notInZ (Tr.bool ?_)))))))
  cases hl : S.zaps.lookup k with
  | none=>exact SV.cons (S1.raiseC rfl hs (rm.le (by decide)) nF56 (h2 hl))
  | some p=>exact SV.nil (SV.cons (S1.ret (EV.sub (EV.attrS rfl (B.aZ (EV.name rfl (B.subZ hl (h1 _ _ hl))))))))
noncomputable def tSetNote (k : Int) (ps : List Pt) : T Unit:=.bind (tNote k) fun _=>.ask fun S=>.need (S.notes.length < 900) (.out () { S with notes:=put1 S.notes k ps })
noncomputable def specSetNote : Spec:=fun args mem Q X=>∃ b k ps,args = [.ref b,.int k,.bytes (encAll ps)] /\ Tw b (tSetNote k ps) (fun _ a _=>a = .none) mem Q X
theorem fnSetNote : FnC 4 307 specSetNote:=by
 refine FnC.go (d:=mt 44 4) (qual:=S "MemBase.set_note") ["self","object_number","octets"] (fun P=>rfl) (fun P=>by rfl) (by rfl) ?_ ?_
 ·exact fun _ _ _ _=>BindsTo.of_eq (by rfl)
 ·intro args mem Q X zz263;obtain ⟨b,k,ps,ee264,_,B0,h⟩:=zz263;subst ee264
  refine ⟨rfl,fun cx hs hw rm=>?_⟩
  replace h:=T.wp_bind.mp h
  refine eX1b (id B0) fun S B ee265=>?_;subst ee265
  refine SV.cons (S1.expr (EV.methS rfl (MethV.inst B.i B.d rfl mokNote (EVs.s rfl (fnNote _ _ _ _ _ rm ⟨b,k,rfl,_,B0,T.wp_mono h (fun r SS h a m1 B1 K1 e=>?_) fun _ _ h=>h⟩))))  _ hs)
  refine eX1b B1 ?_;clear B1;intro SS B1 ee266;subst ee266
  refine eX0b (T.wp_need.mp (T.wp_ask.mp h)) fun hg h=>?_
  replace h:=T.wp_out.mp h
  refine SV.cons (S1.setSub hs (EV.callB hs nB_bytes (EVs.s rfl (CallV.bytesCopy ?_))))
  refine EV.attrS rfl (B1.aN (EV.name rfl (SetV.dict (dkI true) B1.n (by rw [List.length_map];have:=B1.ln;lia) ?_)))
  exact SV.nil (h _ _ (iX1b _ (B1.putNote hg) rfl) (K1.trans (Kp.set B1.n rfl)) rfl)
noncomputable def tAddNote (k : Int) (ps : List Pt) : T Unit:=.bind (tNote k) fun old=>.ask fun S=>.need (S.notes.length < 900 /\ old.length + ps.length <= 1000) (.out () { S with notes:=put1 S.notes k (old ++ ps) })
theorem encAll_app (a b : List Pt) : encAll (a ++ b) = encAll a ++ encAll b:=by unfold encAll;rw [List.map_append,List.flatten_append]
noncomputable def specAddNote : Spec:=fun args mem Q X=>∃ b k ps,args = [.ref b,.int k,.bytes (encAll ps)] /\ Tw b (tAddNote k ps) (fun _ a _=>a = .none) mem Q X
theorem fnAddNote : FnC 4 314 specAddNote:=by
 refine FnC.go (d:=mt 44 5) (qual:=S "MemBase.add_note") ["self","object_number","octets"] (fun P=>rfl) (fun P=>by rfl) (by rfl) ?_ ?_
 ·exact fun _ _ _ _=>BindsTo.of_eq (by rfl)
 ·intro args mem Q X zz267;obtain ⟨b,k,ps,ee268,_,B0,h⟩:=zz267;subst ee268
  refine ⟨rfl,fun cx hs hw rm=>?_⟩
  replace h:=T.wp_bind.mp h
  refine eX1b (id B0) fun S B ee269=>?_;subst ee269
  refine SV.cons (S1.setSub hs (EV.bin (EV.methS rfl (MethV.inst B.i B.d rfl mokNote (EVs.s rfl (fnNote _ _ _ _ _ rm ⟨b,k,rfl,_,B0,T.wp_mono h (fun r SS h a m1 B1 K1 e=>?_) fun _ _ h=>h⟩))))))
  subst e
  refine eX1b B1 ?_;clear B1;intro SS B1 ee270;subst ee270
  refine eX0b (T.wp_need.mp (T.wp_ask.mp h)) fun hg h=>?_
  replace h:=T.wp_out.mp h
  refine EV.callB hs nB_bytes (EVs.s rfl (CallV.bytesCopy (Op2.addBytes (by rw [encAll_len,encAll_len];lia) ?_)))
  refine EV.attrS rfl (B1.aN (EV.name rfl (SetV.dict (dkI true) B1.n (by rw [List.length_map];have:=B1.ln;lia) ?_)))
  rw [<- encAll_app]
  exact SV.nil (h _ _ (iX1b _ (B1.putNote hg.1) rfl) (K1.trans (Kp.set B1.n rfl)) rfl)
noncomputable def tDrop (k : Int) : T Unit:=.ask fun S=>if (S.notes.lookup k).isSome = true then .out () { S with notes:=S.notes.filter fun p=>decide (p.1 ≠ k) } else if (S.zaps.lookup k).isSome = true then .out () { S with zaps:=S.zaps.filter fun p=>decide (p.1 ≠ k) } else .fail 56
noncomputable def specDrop : Spec:=fun args mem Q X=>∃ b k,args = [.ref b,.int k] /\ Tw b (tDrop k) (fun _ a _=>a = .none) mem Q X
theorem plDel {S : BS0} (z : Int) : BS0.pl { S with zaps:=S.zaps.filter fun p=>decide (p.1 ≠ z) } = { S.pl with zaps:=S.pl.zaps.filter fun p=>decide (p.1 ≠ z) }:=by
 unfold BS0.pl
 congr 1
 rw [List.filter_map];rfl
theorem plZ {S : BS0} {k : Int} : (S.pl.zaps.lookup k).isSome = (S.zaps.lookup k).isSome:=by
 unfold BS0.pl
 rw [lookup_mapG (fun (q : Addr × List (Str × Int))=>q.2),Option.isSome_map]
theorem BaseAt0.delZap' {mem : Mem} {b : Addr} {S : BS0} (B : BaseAt0 mem b S) (z : Int) :
  BaseAt0 (mset mem S.zd (.dictI true none ((S.zaps.map fun p=>(p.1,AV.ref p.2.1)).filter fun p=>decide (p.1 ≠ z)))) b { S with zaps:=S.zaps.filter fun p=>decide (p.1 ≠ z) }:=by
 have:=B.delZap z
 unfold BaseZ at this
 rwa [filter_map1 (fun (q : Addr × List (Str × Int))=>AV.ref q.1)] at this
theorem fnDrop : FnC 3 321 specDrop:=by
 refine FnC.go (d:=mt 44 6) (qual:=S "MemBase.drop") ["self","object_number"] (fun P=>rfl) (fun P=>by rfl) (by rfl) ?_ ?_
 ·exact fun _ _ _ _=>BindsTo.of_eq (by rfl)
 ·intro args mem Q X zz271;obtain ⟨b,k,ee272,_,zz273,h⟩:=zz271;subst ee272;refine eX1b zz273 ?_;clear zz273;intro S B ee274;subst ee274
  refine ⟨rfl,fun cx hs hw rm=>?_⟩
  replace h:=T.wp_ite.mp (T.wp_ask.mp h)
  rw [show S.pl.notes = S.notes from rfl] at h
  refine SV.cons (S1.ite (BV.cmp (EV.name rfl (EV.attrS rfl (B.aN (B.inN (Tr.bool ?_)))))))
  by_cases hn : (S.notes.lookup k).isSome = true
  ·rw [if_pos hn] at h
   refine ifT hn ?_
   refine SV.cons (S1.delSub (EV.attrS rfl (B.aN (EV.name rfl (DelV.dict (dkI true) B.n (by rw [lookup_map (fun ps=>AV.bytes (encAll ps)),Option.isSome_map];exact hn) (by rw [List.length_map];have:=B.ln;lia) ?_)))))
   exact SV.nil (SV.nil (T.wp_out.mp h _ _ (iX1b _ (B.dropNote k) rfl) (Kp.set B.n rfl) rfl))
  ·rw [if_neg hn] at h
   refine ifF hn ?_
   replace h:=T.wp_ite.mp h
   rw [plZ] at h
   refine SV.cons (S1.ite (BV.cmp (EV.name rfl (EV.attrS rfl (B.aZ (B.inZ (Tr.bool ?_)))))))
   by_cases hz : (S.zaps.lookup k).isSome = true
   ·rw [if_pos hz] at h
    refine ifT hz ?_
    refine SV.cons (S1.delSub (EV.attrS rfl (B.aZ (EV.name rfl (DelV.dict (dkI true) B.z (by rw [lookup_map (fun (q : Addr × List (Str × Int))=>AV.ref q.1),Option.isSome_map];exact hz) (by rw [List.length_map];have:=B.lz;lia) ?_)))))
    exact SV.nil (SV.nil (SV.nil (T.wp_out.mp h _ _ (iX1b _ (B.delZap' k) (plDel k)) (Kp.set B.z rfl) rfl)))
   ·rw [if_neg hz] at h
    refine ifF hz ?_
    exact SV.cons (S1.raiseC rfl hs (rm.le (by decide)) nF56 (T.wp_fail.mp h mem (iX1b S B rfl) (Kp.refl _)))
noncomputable def tNewZap : T Int:=.ask fun S=>.need (S.zaps.length < 900 /\ S.last < 1000000 /\ S.last + 1 ∉ S.zaps.map (·.1)) (.out (S.last + 1) { S with last:=S.last + 1,zaps:=S.zaps ++ [(S.last + 1,[])] })
noncomputable def specNewZap : Spec:=fun args mem Q X=>∃ b,args = [.ref b] /\ Tw b tNewZap (fun r v _=>v = .int r) mem Q X
theorem fnNewZap : FnC 1 328 specNewZap:=by
 refine FnC.go (d:=mt 44 7) (qual:=S "MemBase.new_zap") ["self"] (fun P=>rfl) (fun P=>by rfl) (by rfl) ?_ ?_
 ·exact fun _ _ _ _=>BindsTo.of_eq (by rfl)
 ·intro args mem Q X zz275;obtain ⟨b,ee276,_,zz277,h⟩:=zz275;subst ee276;refine eX1b zz277 ?_;clear zz277;intro S B ee278;subst ee278
  refine ⟨rfl,fun cx hs hw rm=>?_⟩
  refine eX0b (T.wp_need.mp (T.wp_ask.mp h)) fun hg h=>?_
  replace h:=T.wp_out.mp h
  refine eX0c hg fun hg1 hg2 hg3=>?_
  have hk : S.last + 1 ∉ S.zaps.map (·.1):=by
   intro q;apply hg3
   unfold BS0.pl;rw [List.map_map];exact q
  have hz : S.zaps.length < 900:=by unfold BS0.pl at hg1;simpa using hg1
  refine SV.cons (S1.setAttr hs (EV.bin (EV.attrS rfl (B.aL (EV.cInt (Op2.add (EV.name rfl (SetAttrV.inst B.i B.d sokL (nle rfl) ?_))))))))
  have B1:=B.setLast (l:=S.last + 1) (by have:=B.ll;have : S.last < 1000000:=hg2;lia)
  refine SV.cons (S1.setSub hs (EV.dict0S true fun a ha=>?_))
  have B2:=B1.fresh (o:=.dictS true []) ha
  refine EV.attrS rfl (B2.aZ (EV.attrS rfl (B2.aL (SetV.dict (dkI true) B2.z (by rw [List.length_map];have:=B2.lz;lia) ?_))))
  have B3:=B1.newZap' (z:=S.last + 1) ha hk hz
  refine SV.cons (S1.ret (EV.attrS rfl (B3.aL ?_)))
  refine h _ _ (iX1b _ B3 ?_) (((Kp.set B.d rfl).trans (Kp.new ha)).trans (Kp.set B2.z rfl)) rfl
  unfold BS0.pl
  rw [List.map_append];rfl
theorem plL {S : BS0} {k : Int} : S.pl.zaps.lookup k = (S.zaps.lookup k).map (·.2):=by
 unfold BS0.pl
 rw [lookup_mapG (fun (q : Addr × List (Str × Int))=>q.2)]
noncomputable def setEs (zs : List (Int × List (Str × Int))) (z : Int) (es : List (Str × Int)) : List (Int × List (Str × Int)):=zs.map fun p=>if p.1 = z then (p.1,es) else p
theorem plSet {S : BS0} {z : Int} {es : List (Str × Int)} : BS0.pl { S with zaps:=setRows S.zaps z es } = { S.pl with zaps:=setEs S.pl.zaps z es }:=by
 unfold BS0.pl setRows setEs
 congr 1
 rw [List.map_map,List.map_map]
 apply List.map_congr_left
 intro p _
 simp only [Function.comp]
 split <;> rfl
theorem BaseAt0.keysZ {cx : Cx} {loc : Loc} {mem : Mem} {s : Shared} {b : Addr} {S : BS0} (B : BaseAt0 mem b S) (I : InSt cx loc mem s) : (S.zaps.map (·.1)).Nodup:=by
 obtain ⟨o,ho,ents,n,_,_,h3,_⟩:=I.get B.z
 rw [List.map_map] at h3
 exact h3
theorem SV.know {cx : Cx} {ss : List Stmt} {loc : Loc} {mem : Mem} {Qn : LQ} {Qr : MQ AV} {X : MQ Addr} (P : Prop) (h1 : ∀ s,InSt cx loc mem s -> P) (h : P -> SV cx ss loc mem Qn Qr X) : SV cx ss loc mem Qn Qr X:=fun s I=>h (h1 s I) s I
noncomputable def oi : Option Int -> AV
 | some i=>.int i
 | none=>.none
noncomputable def tGet (k : Int) (x : Str) : T (Option Int):=.ask fun S=>match S.zaps.lookup k with
 | some es=>.out (es.lookup x) S
 | none=>.fail 56
noncomputable def specGet : Spec:=fun args mem Q X=>∃ b k x,args = [.ref b,.int k,.str x] /\ Tw b (tGet k x) (fun r a _=>a = oi r) mem Q X
theorem fnGet : FnC 4 342 specGet:=by
 refine FnC.go (d:=mt 44 9) (qual:=S "MemBase.get") ["self","object_number","name"] (fun P=>rfl) (fun P=>by rfl) (by rfl) ?_ ?_
 ·exact fun _ _ _ _=>BindsTo.of_eq (by rfl)
 ·intro args mem Q X zz279;obtain ⟨b,k,x,ee280,_,zz281,h⟩:=zz279;subst ee280;refine eX1b zz281 ?_;clear zz281;intro S B ee282;subst ee282
  refine ⟨rfl,fun cx hs hw rm=>?_⟩
  replace h:=T.wp_ask.mp h
  rw [plL] at h
  refine SV.cons (S1.ret (EV.meth (EV.methS rfl (MethV.inst B.i B.d rfl mokRows (EVs.s rfl (fnRows _ _ _ _ _ rm (iX3d b k S rfl B (fun a es hl=>?_) (fun hl=>?_))))))))
  ·rw [hl] at h
   refine MethV.dictGet (dkS true) (ep:=none) (B.zap hl) (EVs.s rfl (CallV.dictGet (dkS true) (ep:=none) (B.zap hl) ?_))
   rw [lookup_map (fun i=>AV.int i)]
   have e : ((es.lookup x).map fun i=>AV.int i).getD .none = oi (es.lookup x):=by cases es.lookup x <;> rfl
   rw [e]
   exact T.wp_out.mp h _ _ (iX1b S B rfl) (Kp.refl _) rfl
  ·rw [hl] at h
   exact T.wp_fail.mp h _ (iX1b S B rfl) (Kp.refl _)
noncomputable def tPut (k : Int) (x : Str) (n : Int) : T Unit:=.ask fun S=>.need (0 <= n /\ n < 10000000) (match S.zaps.lookup k with
 | some es=>.need (es.length < 900) (.out () { S with zaps:=setEs S.zaps k (put1 es x n) })
 | none=>.fail 56)
noncomputable def specPut : Spec:=fun args mem Q X=>∃ b k x n,args = [.ref b,.int k,.str x,.int n] /\ Tw b (tPut k x n) (fun _ a _=>a = .none) mem Q X
theorem fnPut : FnC 4 349 specPut:=by
 refine FnC.go (d:=mt 44 10) (qual:=S "MemBase.put") ["self","object_number","name","number"] (fun P=>rfl) (fun P=>by rfl) (by rfl) ?_ ?_
 ·exact fun _ _ _ _=>BindsTo.of_eq (by rfl)
 ·intro args mem Q X zz283;obtain ⟨b,k,x,n,ee284,_,zz285,h⟩:=zz283;subst ee284;refine eX1b zz285 ?_;clear zz285;intro S B ee286;subst ee286
  refine ⟨rfl,fun cx hs hw rm=>?_⟩
  refine eX0b (T.wp_need.mp (T.wp_ask.mp h)) fun zz287 h=>?_;refine eX0b zz287 fun hn0 hn1=>?_
  rw [plL] at h
  refine SV.know ((S.zaps.map (·.1)).Nodup) (fun s I=>B.keysZ I) fun hkz=>?_
  refine SV.cons (S1.ite (BV.not (BV.cmp2 (EV.cInt (EV.name rfl (Op2.le (Tr.bool ?_)))))))
  refine ifT (decide_eq_true hn0) ?_
  refine EV.binS rfl rfl (Op2.pow (by decide) (by decide) (by decide) (Op2.lt (Tr.bool ?_)))
  have hlt : decide (n < (2 : Int) ^ (Int.toNat 64)) = true:=decide_eq_true (Int.lt_trans hn1 (by decide))
  rw [hlt]
  refine SV.nil (SV.cons (S1.setSub hs (EV.name rfl (EV.methS rfl (MethV.inst B.i B.d rfl mokRows (EVs.s rfl (fnRows _ _ _ _ _ rm (iX3d b k S rfl B (fun a es hl=>?_) (fun hl=>?_)))))))))
  ·rw [hl] at h
   refine eX0b (T.wp_need.mp h) fun hlen h=>?_
   have hlen : es.length < 900:=hlen
   refine EV.name rfl (SetV.dict (dkS true) (ep:=none) (B.zap hl) (by rw [List.length_map];lia) ?_)
   have B1:=B.setRows hkz (es:=put1 es x n) hl
   unfold ZapO at B1
   rw [put1_map (fun i=>AV.int i)] at B1
   exact SV.nil (T.wp_out.mp h _ _ (iX1b _ B1 plSet) (Kp.set (B.zap hl) rfl) rfl)
  ·rw [hl] at h
   exact T.wp_fail.mp h _ (iX1b S B rfl) (Kp.refl _)
noncomputable def tTake (k : Int) (x : Str) : T Int:=.ask fun S=>match S.zaps.lookup k with
 | some es=>match es.lookup x with
  | some v=>.need (es.length < 900) (.out v { S with zaps:=setEs S.zaps k (es.filter fun p=>decide (p.1 ≠ x)) })
  | none=>.fail 56
 | none=>.fail 56
noncomputable def specTake : Spec:=fun args mem Q X=>∃ b k x,args = [.ref b,.int k,.str x] /\ Tw b (tTake k x) (fun r a _=>a = .int r) mem Q X
theorem fnTake : FnC 4 356 specTake:=by
 refine FnC.go (d:=mt 44 11) (qual:=S "MemBase.take") ["self","object_number","name"] (fun P=>rfl) (fun P=>by rfl) (by rfl) ?_ ?_
 ·exact fun _ _ _ _=>BindsTo.of_eq (by rfl)
 ·intro args mem Q X zz288;obtain ⟨b,k,x,ee289,_,zz290,h⟩:=zz288;subst ee289;refine eX1b zz290 ?_;clear zz290;intro S B ee291;subst ee291
  refine ⟨rfl,fun cx hs hw rm=>?_⟩
  replace h:=T.wp_ask.mp h
  rw [plL] at h
  refine SV.know ((S.zaps.map (·.1)).Nodup) (fun s I=>B.keysZ I) fun hkz=>?_
  refine SV.cons (S1.assign hs (EV.methS rfl (MethV.inst B.i B.d rfl mokRows (EVs.s rfl (fnRows _ _ _ _ _ rm (iX3d b k S rfl B (fun a es hl=>?_) (fun hl=>?_)))))))
  ·rw [hl] at h
   refine SV.cons (S1.ite (BV.cmpS rfl rfl (Op2.notInD (dkS true) (ep:=none) (B.zap hl) (Tr.bool ?_))))
   rw [lookup_map (fun i=>AV.int i),Option.isSome_map]
   cases hx : es.lookup x with
   | none =>
    dsimp only [Option.map] at h
    rw [hx] at h
    exact SV.cons (S1.raiseC rfl hs (rm.le (by decide)) nF56 (T.wp_fail.mp h _ (iX1b S B rfl) (Kp.refl _)))
   | some v =>
    dsimp only [Option.map] at h
    rw [hx] at h
    refine eX0b (T.wp_need.mp h) fun hlen h=>?_
    refine SV.nil (SV.cons (S1.ret (EV.methS rfl (MethV.dictPop (dkS true) (ep:=none) (B.zap hl) (EVs.s rfl (CallV.dictPop (dkS true) (ep:=none) (B.zap hl) (by rw [lookup_map (fun i=>AV.int i),hx];rfl) (by rw [List.length_map];lia) ?_))))))
    have B1:=B.setRows hkz (es:=es.filter fun p=>decide (p.1 ≠ x)) hl
    unfold ZapO at B1
    rw [filter_map1 (fun i=>AV.int i)] at B1
    exact T.wp_out.mp h _ _ (iX1b _ B1 plSet) (Kp.set (B.zap hl) rfl) rfl
  ·rw [hl] at h
   exact T.wp_fail.mp h _ (iX1b S B rfl) (Kp.refl _)
noncomputable def tNames (k : Int) : T (List Str):=.ask fun S=>match S.zaps.lookup k with
 | some es=>.need (es.length < 64) (.out (es.map (·.1)) S)
 | none=>.fail 56
noncomputable def specNames : Spec:=fun args mem Q X=>∃ b k,args = [.ref b,.int k] /\ Tw b (tNames k) (fun r a m=>∃ (l : Addr) (ss : List Str),a = .ref l /\ m l = some (.list (ss.map .str)) /\ ss.Perm r) mem Q X
theorem fnNames : FnC 4 363 specNames:=by
 refine FnC.go (d:=mt 44 12) (qual:=S "MemBase.names") ["self","object_number"] (fun P=>rfl) (fun P=>by rfl) (by rfl) ?_ ?_
 ·exact fun _ _ _ _=>BindsTo.of_eq (by rfl)
 ·intro args mem Q X zz292;obtain ⟨b,k,ee293,_,zz294,h⟩:=zz292;subst ee293;refine eX1b zz294 ?_;clear zz294;intro S B ee295;subst ee295
  refine ⟨rfl,fun cx hs hw rm=>?_⟩
  replace h:=T.wp_ask.mp h
  rw [plL] at h
  refine SV.cons (S1.ret (EV.callB hs nB_sorted (EVs.cons (EV.methS rfl (MethV.inst B.i B.d rfl mokRows (EVs.s rfl (fnRows _ _ _ _ _ rm (iX3d b k S rfl B (fun a es hl=>?_) (fun hl=>?_)))))))))
  ·rw [hl] at h
   refine eX0b (T.wp_need.mp h) fun hlen h=>?_
   refine EVs.nil (CallV.sortedDS (B.zap hl) (by rw [List.length_map];exact hlen) fun ss q hp hq=>?_)
   refine T.wp_out.mp h _ _ (iX1b _ (B.fresh hq) rfl) (Kp.new hq) (iX2c q ss rfl (mset_same ..) ?_)
   rw [List.map_map] at hp
   exact hp
  ·rw [hl] at h
   exact T.wp_fail.mp h _ (iX1b S B rfl) (Kp.refl _)
noncomputable def tIsThere (k : Int) : T Bool:=.ask fun S=>.out ((S.notes.lookup k).isSome || (S.zaps.lookup k).isSome) S
noncomputable def specIsThere : Spec:=fun args mem Q X=>∃ b k,args = [.ref b,.int k] /\ Tw b (tIsThere k) (fun r a _=>a = .bool r) mem Q X
theorem fnIsThere : FnC 1 286 specIsThere:=by
 refine FnC.go (d:=mt 44 1) (qual:=S "MemBase.is_there") ["self","object_number"] (fun P=>rfl) (fun P=>by rfl) (by rfl) ?_ ?_
 ·exact fun _ _ _ _=>BindsTo.of_eq (by rfl)
 ·intro args mem Q X zz296;obtain ⟨b,k,ee297,_,zz298,h⟩:=zz296;subst ee297;refine eX1b zz298 ?_;clear zz298;intro S B ee299;subst ee299
  refine ⟨rfl,fun cx hs hw rm=>?_⟩
  replace h:=(T.wp_ask (f:=fun S=>T.out ((S.notes.lookup k).isSome || (S.zaps.lookup k).isSome) S)).mp h
  replace h:=T.wp_out.mp h
  rw [plZ,show S.pl.notes = S.notes from rfl] at h
  refine SV.cons (S1.ret (EV.or2 (EV.cmp (EV.name rfl (EV.attrS rfl (B.aN (B.inN (Tr.bool ?_))))))))
  by_cases hn : (S.notes.lookup k).isSome = true
  ·refine ifT hn ?_
   exact h _ _ (iX1b S B rfl) (Kp.refl _) (by rw [hn];rfl)
  ·refine ifF hn ?_
   refine EV.cmp (EV.name rfl (EV.attrS rfl (B.aZ (B.inZ ?_))))
   exact h _ _ (iX1b S B rfl) (Kp.refl _) (by rw [show (S.notes.lookup k).isSome = false from eq_false_of_ne_true hn];rfl)
theorem MLe.refl (m : Mem) : MLe m m:=fun _ _ h=>h
theorem MLe.trans {a b c : Mem} (h : MLe a b) (h' : MLe b c) : MLe a c:=fun x o e=>h' x o (h x o e)
theorem MLe.new {m : Mem} {a : Addr} {o : AO} (h : m a = none) : MLe m (mset m a o):=fun x p e=>by
 rw [mset_ne fun q=>by rw [q,h] at e;cases e];exact e
noncomputable abbrev KDrL (Q : LQ) : LQ:=fun l m=>∃ m0,MLe m0 m /\ Q l m0
noncomputable abbrev KDr {α : Type} (Q : MQ α) : MQ α:=fun a m=>∃ m0,MLe m0 m /\ Q a m0
theorem SV.drop {cx : Cx} {ss : List Stmt} {loc : Loc} {mem : Mem} {Qn : LQ} {Qr : MQ AV} {X : MQ Addr} (h : SV cx ss loc mem (KDrL Qn) (KDr Qr) X) : SV cx ss loc mem Qn Qr X:=fun s I =>
 wpAny_mono (h s I) (fun f s' p=>by
  cases f with
  | next=>obtain ⟨l,m,I1,m0,hm,q⟩:=p;exact (iX2b l m0 (I1.less hm) q)
  | ret v=>obtain ⟨l,m,I1,m0,hm,q⟩:=p;exact (iX2b l m0 (I1.less hm) q)
  | _=>exact p.elim) fun _ _ x=>x
theorem bits0 : ∀ i : Fin 256,Builtin.bitAnd (((i.val : Nat) : Int).fdiv (2 ^ (Int.toNat (8 * 0)))) 255 = (i.val : Int):=by decide +kernel
theorem bits1 : ∀ i : Fin 256,Builtin.bitAnd (((i.val : Nat) : Int).fdiv (2 ^ (Int.toNat (8 * 1)))) 255 = 0:=by decide +kernel
theorem bits2 : ∀ i : Fin 256,Builtin.bitAnd (((i.val : Nat) : Int).fdiv (2 ^ (Int.toNat (8 * 2)))) 255 = 0:=by decide +kernel
theorem bits3 : ∀ i : Fin 256,Builtin.bitAnd (((i.val : Nat) : Int).fdiv (2 ^ (Int.toNat (8 * 3)))) 255 = 0:=by decide +kernel
noncomputable def specOct : Spec:=fun args mem Q X=>∃ (n : Fin 256) (k : Fin 4),args = [.int (n.val : Int),.int ((k.val : Int) + 1)] /\ Q (.bytes (oct (n.val : Int) k.val)) mem
theorem octSmall : ∀ k : Fin 4,Builtin.Range.small 0 ((k.val : Int) + 1) 1 = true:=by decide +kernel
theorem octRng : ∀ k : Fin 4,rngVals 0 (Builtin.Range.rangeSize 0 ((k.val : Int) + 1) 1).toNat 1 = (List.range (k.val + 1)).map fun i : Nat=>AV.int (i : Int):=by
 intro k
 obtain ⟨k,hk⟩:=k
 match k,hk with
 | 0,_=>kernel_rfl
 | 1,_=>kernel_rfl
 | 2,_=>kernel_rfl
 | 3,_=>kernel_rfl
noncomputable def shf (n : Int) : AV -> AV
 | .int j=>.int (Builtin.bitAnd (n.fdiv (2 ^ (Int.toNat (8 * j)))) 255)
 | a=>a
theorem octVals (n : Fin 256) (k : Fin 4) : [] ++ (((List.range (k.val + 1)).map fun i : Nat=>AV.int (i : Int)).filter fun _=>true).map (shf (n.val : Int)) = ((n.val : Int) :: List.replicate k.val 0).map AV.int:=by
 obtain ⟨k,hk⟩:=k
 have e0 : shf (n.val : Int) (.int 0) = .int (n.val : Int):=congrArg AV.int (bits0 n)
 have e1 : shf (n.val : Int) (.int 1) = .int 0:=congrArg AV.int (bits1 n)
 have e2 : shf (n.val : Int) (.int 2) = .int 0:=congrArg AV.int (bits2 n)
 have e3 : shf (n.val : Int) (.int 3) = .int 0:=congrArg AV.int (bits3 n)
 match k,hk with
 | 0,_=>show [shf (n.val : Int) (.int 0)] = _;rw [e0];rfl
 | 1,_=>show [shf (n.val : Int) (.int 0),shf (n.val : Int) (.int 1)] = _;rw [e0,e1];rfl
 | 2,_=>show [shf (n.val : Int) (.int 0),shf (n.val : Int) (.int 1),shf (n.val : Int) (.int 2)] = _;rw [e0,e1,e2];rfl
 | 3,_=>show [shf (n.val : Int) (.int 0),shf (n.val : Int) (.int 1),shf (n.val : Int) (.int 2),shf (n.val : Int) (.int 3)] = _;rw [e0,e1,e2,e3];rfl
theorem fnOct : FnC 3 104 specOct:=by
 refine FnC.go (d:=st 12) (qual:=S "octets_of") ["number","size"] (fun P=>rfl) (fun P=>by rfl) (by rfl) ?_ ?_
 ·exact fun _ _ _ _=>BindsTo.of_eq (by rfl)
 ·intro args mem Q X zz300;refine eX2b zz300 ?_;clear zz300;intro n k ee301 hQ;subst ee301
  refine ⟨rfl,fun cx hs hw rm=>?_⟩
  refine SV.drop ?_
  have hn0 : (0 : Int) <= (n.val : Int):=Int.natCast_nonneg _
  have hn1 : (n.val : Int) < 256:=by have:=n.isLt;omega
  refine SV.cons (S1.ite (BV.not (BV.cmp2 (EV.cInt (EV.name rfl (Op2.le (Tr.bool ?_)))))))
  refine ifT (decide_eq_true hn0) ?_
  have hk : (k.val : Int) + 1 <= 4:=by have:=k.isLt;lia
  have hp : (256 : Int) <= 256 ^ ((k.val : Int) + 1).toNat:=by
   have h1 : ((k.val : Int) + 1).toNat = k.val + 1:=by lia
   rw [h1,Int.pow_succ]
   have h2 : (0 : Int) < 256 ^ k.val:=Int.pow_pos (by decide)
   lia
  refine EV.binS rfl rfl (Op2.pow (by lia) (by lia) (by decide) (Op2.lt (Tr.bool ?_)))
  rw [decide_eq_true (Int.lt_of_lt_of_le hn1 hp)]
  refine SV.nil (SV.cons (S1.ret (EV.callB hs nB_bytes (EVs.cons (EV.comp [("number",.int (n.val : Int))] hs (EV.callB hs nB_range (EVs.s rfl (CallV.range1 fun r hr=>?_))) ?_)))))
  rotate_left
  ·exact Loc.le_cons rfl (Loc.le_nil _)
  refine (iX1b ((List.range (k.val + 1)).map fun i : Nat=>AV.int (i : Int)) (by simp;lia) (ItV.range (mset_same ..) (octSmall k) (octRng k) (CompP.same (fun _=>true) (shf (n.val : Int)) rfl rfl _ _ (fun v _ cx' _ _=>TestsV.nil (iX0b rfl rfl)) (fun v hv _ cx' hs' hA=>?_) fun D hD=>?_)))
  ·refine eX1b (List.mem_map.mp hv) fun i hi ee302=>?_;subst ee302
   have hi : i = 0 \/ i = 1 \/ i = 2 \/ i = 3:=by have:=List.mem_range.mp hi;have:=k.isLt;lia
   rcases hi with rfl | rfl | rfl | rfl
   ·exact EV.bin (EV.bin (EV.name rfl (EV.binS rfl rfl (Op2.mul (i:=8) (j:=0) (Op2.shr (by decide) (EV.cInt (Op2.and (iX0b rfl rfl))))))))
   ·exact EV.bin (EV.bin (EV.name rfl (EV.binS rfl rfl (Op2.mul (i:=8) (j:=1) (Op2.shr (by decide) (EV.cInt (Op2.and (iX0b rfl rfl))))))))
   ·exact EV.bin (EV.bin (EV.name rfl (EV.binS rfl rfl (Op2.mul (i:=8) (j:=2) (Op2.shr (by decide) (EV.cInt (Op2.and (iX0b rfl rfl))))))))
   ·exact EV.bin (EV.bin (EV.name rfl (EV.binS rfl rfl (Op2.mul (i:=8) (j:=3) (Op2.shr (by decide) (EV.cInt (Op2.and (iX0b rfl rfl))))))))
  ·refine EVs.nil (CallV.bytesInts (ns:=(n.val : Int) :: List.replicate k.val 0) ?_ ?_ (by simp;lia) (iX1b mem ((MLe.new hr).trans (MLe.new hD)) ?_))
   ·rw [mset_same,octVals n k]
   ·intro x hx
    rcases List.mem_cons.mp hx with rfl | hx
    ·exact (iX0b hn0 hn1)
    ·rw [(List.mem_replicate.mp hx).2];decide
   ·rw [List.map_cons,List.map_replicate]
    exact hQ
section
variable {prog : Program} {w : World} {A : Around} {E : Value -> Shared -> Prop} {s : Shared} {b : Array UInt8} {t : Tok}
theorem byteNext {it : Addr} {i : Nat} {c : UInt8} {Q : Value -> Shared -> Prop} (hit : KBw.IsBytesIter s.heap it b t i) (hx : b[i]? = some c)
  (hQ : ∀ h',KBw.IsBytesIter h' it b t (i + 1) -> Heap.SameBut it s.heap h' -> Q (.int (c.toNat : Int) s.toks) { s with heap:=h',toks:=s.toks + 1 }) : wpAny (model prog w) A (Builtin.SmallTypes.nextOf (.ref it)) Q E s:=by
 refine eX1c (id hit) fun o ho hc hd=>?_
 unfold Builtin.SmallTypes.nextOf
 refine wpAny_bind (wpAny_callSpecial?_slot (name:=PySem.Str.ofString "__next__") (KBw.iter_typeIs hit) KBw.slot_next
  (wpAny_call_entry KBw.slot_next (KBw.iter_typeIs hit) KBw.entry_next ?_ (KBw.args_next _)))
 show wpAny _ _ (field (.ref it) 0 >>= _) _ _ s
 refine wpAny_bind (wpAny_field ho hd (x:=.bytes b t) rfl ?_)
 show wpAny _ _ (if (Value.bytes b t == Value.none) = true then _ else _) _ _ s
 rw [if_neg (show ¬ ((Value.bytes b t == Value.none) = true) from Bool.false_ne_true)]
 show wpAny _ _ (field (.ref it) 1 >>= _) _ _ s
 refine wpAny_bind (wpAny_field ho hd (x:=.int i 0) rfl ?_)
 refine wpAny_bind (wpAny_of_eq (a:=b) rfl ?_)
 simp only [Int.toNat_natCast,hx]
 refine wpAny_bind (wpAny_setField ho hd (by simp) (wpAny_bind (wpAny_mkInt (wpAny_pure (iX1b _ rfl (wpAny_pure (hQ _ ?_ (Heap.SameBut.update ..))))))))
 exact ⟨_,Heap.get?_update_self _ ho (Obj.isFreed_of_fields (Obj.data_mapFields hd _)),(Obj.cls_mapFields ..).trans hc,by
  rw [Obj.data_mapFields hd];simp [rawInt]⟩
theorem byteDone {it : Addr} {i : Nat} {Q : Value -> Shared -> Prop} (hh : A.handled = none) (hit : KBw.IsBytesIter s.heap it b t i) (hx : b[i]? = none)
  (hE : ∀ h' e,Heap.ExtBut it s.heap h' -> (∃ o,h'.get? e = some o /\ o.cls = .type "StopIteration") -> E (.ref e) { s with heap:=h' }) : wpAny (model prog w) A (Builtin.SmallTypes.nextOf (.ref it)) Q E s:=by
 refine eX1c (id hit) fun o ho hc hd=>?_
 unfold Builtin.SmallTypes.nextOf
 refine wpAny_bind (wpAny_callSpecial?_slot (name:=PySem.Str.ofString "__next__") (KBw.iter_typeIs hit) KBw.slot_next
  (wpAny_call_entry KBw.slot_next (KBw.iter_typeIs hit) KBw.entry_next ?_ (KBw.args_next _)))
 show wpAny _ _ (field (.ref it) 0 >>= _) _ _ s
 refine wpAny_bind (wpAny_field ho hd (x:=.bytes b t) rfl ?_)
 show wpAny _ _ (if (Value.bytes b t == Value.none) = true then _ else _) _ _ s
 rw [if_neg (show ¬ ((Value.bytes b t == Value.none) = true) from Bool.false_ne_true)]
 show wpAny _ _ (field (.ref it) 1 >>= _) _ _ s
 refine wpAny_bind (wpAny_field ho hd (x:=.int i 0) rfl ?_)
 refine wpAny_bind (wpAny_of_eq (a:=b) rfl ?_)
 simp only [Int.toNat_natCast,hx]
 refine wpAny_bind (wpAny_rule (wpAny_bind (wpAny_setField ho hd (by simp) ?_)))
 show wpAny _ _ (newExc (.type "StopIteration") [] >>= _) _ _ _
 refine wpAny_bind ?_
 simp only [newExc,newTuple]
 refine wpAny_bind (wpAny_newObj_type ?_ (by size_fits))
 refine wpAny_bind (m:=firstArgMember _ _) (wpAny_of_eq (a:=Value.none) (by first | rfl | (simp only [firstArgMember];rfl)) ?_)
 refine wpAny_newObj_type ?_ (by size_fits)
 simp only [raiseNew]
 refine wpAny_bind (wpAny_handled ?_)
 first | rw [show A.in1.handled = none from hh] | rw [hh]
 refine wpAny_bind (wpAny_pure (wpAny_throw ?_))
 exact hE _ _ (((Heap.SameBut.update ..).extBut.push _).push _) (iX1b _ (Heap.get?_push_size _ rfl) rfl)
theorem Draws.bytes (hh : A.handled = none) (it : Addr) (b : Array UInt8) (t : Tok) : Draws prog w A it [it] b.size (fun i v=>∃ c u,b[i]? = some c /\ v = .int (c.toNat : Int) u) (fun i h=>KBw.IsBytesIter h it b t i) where
 live:=fun i h zq103=>eX1b zq103 fun o ho _=>(iX1a o ho)
 frame:=fun _ _ _ st hk=>let ⟨o,ho,r⟩:=st;(iX1b o (hk it (by simp) o ho) r)
 item:=fun i s Q E hi st hQ=>byteNext st (c:=b[i]) (by simp [hi]) fun h' hit' hs'=>hQ _ h' _ (iX2b _ _ (by simp [hi]) rfl) hit' hs'
 done:=fun s Q E st hE=>byteDone hh st (by simp) hE
theorem meets_enumerate_newB (x : Array UInt8) (t : Tok) :
  Meets (Builtin.«enumerate.__new__» ⟨[.type "enumerate",.bytes x t],[]⟩) (fun _ R s =>
   R (.ok (.ret (.ref (s.heap.push { cls:=.type "bytes_iterator",data:=.fields #[.bytes x t,.int 0 0] }).objs.size)))
    { s with heap:=(s.heap.push { cls:=.type "bytes_iterator",data:=.fields #[.bytes x t,.int 0 0] }).push { cls:=.type "enumerate",data:=.fields #[.none,.bool false,.ref s.heap.objs.size,rawInt 0,.none,.none] } }) :=
 .of_wp fun prog w A R s h=>by
  obtain ⟨hp,g,d,tk,os⟩:=s
  have hsub:=sub_enumerate
  wp_walk
  refine wpAny_stack_any fun st=>wpAny_pure ?_
  split
  ·rename_i c _ _ _ _ _
   cases (c == Value.type "enumerate")
   all_goals repeat (first | with_reducible apply KBw.pyIter_bytes | with_reducible refine wpAny_pure ?_ | with_reducible refine wpAny_bind ?_ | with_reducible refine wpAny_holding ?_ | with_reducible refine wpAny_rule ?_ | with_reducible refine wpAny_alloc' ?_ | with_reducible refine wpAny_fresh' ?_ | with_reducible refine wpAny_of_eq (by assumption) ?_ | ((with_reducible apply wpAny_load');focus (heap_get;done)) | ((with_reducible apply wpAny_loadPart');focus (heap_get;done)) | ((with_reducible apply wpAny_ite_false);focus (rfl;done)) | ((with_reducible apply wpAny_ite_true);focus (rfl;done)) | wp_delta)
   all_goals exact (iX1b _ rfl h)
  ·repeat (first | with_reducible apply KBw.pyIter_bytes | with_reducible refine wpAny_pure ?_ | with_reducible refine wpAny_bind ?_ | with_reducible refine wpAny_holding ?_ | with_reducible refine wpAny_rule ?_ | with_reducible refine wpAny_alloc' ?_ | with_reducible refine wpAny_fresh' ?_ | with_reducible refine wpAny_of_eq (by assumption) ?_ | ((with_reducible apply wpAny_load');focus (heap_get;done)) | ((with_reducible apply wpAny_loadPart');focus (heap_get;done)) | ((with_reducible apply wpAny_ite_false);focus (rfl;done)) | ((with_reducible apply wpAny_ite_true);focus (rfl;done)) | wp_delta)
   exact (iX1b _ rfl h)
theorem call_enumerate_bytes {x : Array UInt8} {t : Tok} {Q : Value -> Shared -> Prop}
  (h : ∀ h',IsEnum h' (s.heap.objs.size + 1) s.heap.objs.size 0 .none -> KBw.IsBytesIter h' s.heap.objs.size x t 0 ->
   (∀ b o,s.heap.get? b = some o -> h'.get? b = some o) -> Q (.ref (s.heap.objs.size + 1)) { s with heap:=h' }) :
  wpAny (model prog w) A (call (.type "enumerate") [.bytes x t]) Q E s:=by
 refine callType_new F.called_enumerate (by decide) (F.typeCall_enumerate_1 _) (F.newCall_enumerate_1 _) (fun obj=>F.args_object_init_2 obj _) F.entry_enumerate_new
  (meets_enumerate_newB x t) ?_
 have hz : (s.heap.push { cls:=.type "bytes_iterator",data:=.fields #[.bytes x t,.int 0 0] }).objs.size = s.heap.objs.size + 1:=Heap.size_push ..
 show _ /\ _
 rw [hz]
 have he : IsEnum ((s.heap.push { cls:=.type "bytes_iterator",data:=.fields #[.bytes x t,.int 0 0] }).push
   { cls:=.type "enumerate",data:=.fields #[.none,.bool false,.ref s.heap.objs.size,rawInt 0,.none,.none] }) (s.heap.objs.size + 1) s.heap.objs.size 0 .none:=by
  have:=Heap.get?_push_size (s.heap.push { cls:=.type "bytes_iterator",data:=.fields #[.bytes x t,.int 0 0] })
   (o:={ cls:=.type "enumerate",data:=.fields #[.none,.bool false,.ref s.heap.objs.size,rawInt 0,.none,.none] }) rfl
  rw [hz] at this;exact this
 exact (iX0b (iX1b _ he rfl) (h _ he (iX1c _ (Heap.get?_push_of_some _ (Heap.get?_push_size _ rfl)) rfl rfl) fun b o y=>Heap.get?_push_of_some _ (Heap.get?_push_of_some _ y)))
end
section
variable {cx : Cx} {loc : Loc} {mem mem' : Mem} {s : Shared}
theorem InSt.extS (I : InSt cx loc mem s) {S : Addr -> Prop} {h' : Heap} {t : Nat} (x : ∀ b o,¬ S b -> s.heap.get? b = some o -> h'.get? b = some o) (hS : ∀ a,S a -> ∃ ao,mem a = some ao)
  (tr : ∀ b ao,mem' b = some ao -> cx.G b = none /\ ∃ o,h'.get? b = some o /\ Rep cx.w o ao)
  (hm : mem' cx.env.locals = none) (hmc : ∀ y c,cx.env.cells.lookup y = some c -> mem' c = none) : InSt cx loc mem' { s with heap:=h',toks:=t }:=by
 have nG : ∀ a o,cx.G a = some o -> ¬ S a:=fun a o e q=>by refine eX1a (hS a q) fun ao h1=>?_;have:=(I.st.tr a ao h1).1;rw [e] at this;cases this
 have nL : ¬ S cx.env.locals:=fun q=>by refine eX1a (hS _ q) fun ao h1=>?_;rw [I.fm.ownM] at h1;cases h1
 have nC : ∀ y c,cx.env.cells.lookup y = some c -> ¬ S c:=fun y c e q=>by refine eX1a (hS _ q) fun ao h1=>?_;rw [(I.fm.cells y c e).1] at h1;cases h1
 have nT : ∀ b o vs,s.heap.get? b = some o -> o.data = .fields vs -> Tabby o vs -> ¬ S b:=fun b o vs e hd tb q=>by
  refine eX1a (hS _ q) fun ao h1=>?_
  refine eX1b (I.get h1) fun o2 h2 r=>?_
  rw [e] at h2;cases h2;exact r.notTab vs hd tb
 refine ⟨I.ok,⟨fun b o e n=>x b o (nG b o e) (I.st.kept b o e n),tr,I.st.tab.keep fun b o vs e q tb=>x b o (nT b o vs e q tb) e⟩,fun b o e n=>?_,?_,I.gens,I.drawn,I.os⟩
 ·refine eX1a (I.fr b o e n) fun sl hs=>?_
  exact (iX1a sl (x b _ (nG b o e) hs))
 ·refine eX1b (I.fm.ns) fun m hn hm'=>?_
  have hn':=hn
  refine eX3c hn' fun o es n e1 e2 e3=>?_
  refine ⟨(iX1b m (hn.at fun o e=>x _ o nL e) hm'),I.fm.own,hm,fun y c e=>?_,I.fm.apart,I.fm.bound⟩
  refine eX0e (I.fm.cells y c e) fun c1 c2 zz303 c4 c5=>?_;refine eX2b zz303 fun v o ho hd=>?_
  refine (iX0e (hmc y c e) c2 (iX2b v o (x c o (nC y c e) ho) hd) (fun hk u hu=>?_) c5)
  refine eX1b (c4 hk u hu) fun u' zz304 hu'=>?_;refine eX1b zz304 fun o' ho' hd'=>?_
  exact (iX1b u' (iX1b o' (x c o' (nC y c e) ho') hd') hu')
theorem InSt.upd2 (I : InSt cx loc mem s) {a b c : Addr} {h' : Heap} {ao bo co ao' bo' : AO} {oa ob oc : Obj} {t : Nat} (ea : mem a = some ao) (eb : mem b = some bo) (hab : a ≠ b) (hc : c = s.heap.objs.size)
  (x : ∀ z o,z ≠ a -> z ≠ b -> s.heap.get? z = some o -> h'.get? z = some o) (ha : h'.get? a = some oa) (hb : h'.get? b = some ob) (hcc : h'.get? c = some oc) (ra : Rep cx.w oa ao') (rb : Rep cx.w ob bo') (rc : Rep cx.w oc co) :
  InSt cx loc (mset (mset (mset mem a ao') b bo') c co) { s with heap:=h',toks:=t }:=by
 subst hc
 have f:=I.fresh
 have fa:=I.free ea
 have fb:=I.free eb
 refine I.extS (S:=fun z=>z = a \/ z = b) (fun z o hz e=>by rw [not_or] at hz;exact x z o hz.1 hz.2 e) (fun z hz=>hz.elim (fun q=>(iX1a _ (q ▸ ea))) fun q=>(iX1a _ (q ▸ eb))) (fun z zo e=>?_) ?_ fun y d e=>?_
 ·by_cases q : z = s.heap.objs.size
  ·subst q;rw [mset_same] at e;cases e;exact ⟨f.2.1,oc,hcc,rc⟩
  ·rw [mset_ne q] at e
   by_cases q : z = b
   ·subst q;rw [mset_same] at e;cases e;exact ⟨fb.G,ob,hb,rb⟩
   ·rw [mset_ne q] at e
    by_cases q' : z = a
    ·subst q';rw [mset_same] at e;cases e;exact ⟨fa.G,oa,ha,ra⟩
    ·rw [mset_ne q'] at e
     obtain ⟨h1,o2,h2,h3⟩:=I.st.tr z zo e
     exact ⟨h1,o2,x z o2 q' q h2,h3⟩
 ·rw [mset_ne (Ne.symm f.2.2.1),mset_ne (Ne.symm fb.L),mset_ne (Ne.symm fa.L)];exact I.fm.ownM
 ·rw [mset_ne (f.2.2.2 y d e),mset_ne (fb.C y d e),mset_ne (fa.C y d e)];exact (I.fm.cells y d e).1
end
noncomputable def IsBI (o : Obj) (bs : Array UInt8) (t : Tok) (i : Nat) : Prop:=o.cls = .type "bytes_iterator" /\ o.data = .fields #[.bytes bs t,.int i 0]
noncomputable def IsEO (o : Obj) (it : Addr) (i : Int) : Prop:=∃ old,o = { cls:=.type "enumerate",dict:=none,data:=.fields #[.none,.bool false,.ref it,rawInt i,.none,old],slots:=#[] }
theorem IsBI.rep {w : World} {o : Obj} {bs : Array UInt8} {t : Tok} {i : Nat} (h : IsBI o bs t i) : Rep w o (.raw o) :=
 ⟨rfl,freed_of h.2,fun vs q tb=>by
  rw [h.2] at q;cases q
  rcases tb with e | ⟨y,u,e⟩
  ·rw [h.1] at e;cases e
  ·cases e⟩
theorem IsEO.rep {w : World} {o : Obj} {it : Addr} {i : Int} (h : IsEO o it i) : Rep w o (.raw o):=by
 refine eX1a h ?_;clear h;intro old ee305;subst ee305
 refine (iX0c rfl rfl (fun vs q tb=>?_))
 cases q
 rcases tb with e | ⟨y,u,e⟩ <;> cases e
noncomputable def enM (m : Mem) (it e : Addr) (ob oe : Obj) : Mem:=mset (mset m it (.raw ob)) e (.raw oe)
structure EnOk (m : Mem) (it e : Addr) (ob oe : Obj) (bs : Array UInt8) (t : Tok) (i : Nat) : Prop where
 hb : IsBI ob bs t i
 he : IsEO oe it i
 n1 : m it = none
 n2 : m e = none
 ne : e ≠ it
theorem CallV.enumB {cx : Cx} {X : MQ Addr} {mem : Mem} {Q : MQ AV} {bs : List UInt8} (h : ∀ it e ob oe t,EnOk mem it e ob oe bs.toArray t 0 -> Q (.ref e) (enM mem it e ob oe)) : CallV cx (.type "enumerate") [.bytes bs] mem Q X:=fun loc vs hvs s I=>by
 refine eX1b (one_of hvs) fun x ee306 h1=>?_;subst ee306
 refine eX1a (er_bytes h1) fun t ee307=>?_;subst ee307
 refine call_enumerate_bytes fun h' he hb hk=>?_
 refine eX1b hb fun ob h2 h3=>?_
 have f:=I.fresh
 have I1 : InSt cx loc (mset mem s.heap.objs.size (.raw ob)) { s with heap:=h' }:=I.made (t:=s.toks) hk h2 (IsBI.rep h3)
 have nlt : ∀ z : Addr,z < s.heap.objs.size -> z ≠ s.heap.objs.size + 1:=fun z hz q=>absurd (q ▸ hz) (Nat.not_lt.mpr (Nat.le_succ _))
 have hn : mem (s.heap.objs.size + 1) = none:=by
  cases q : mem (s.heap.objs.size + 1) with
  | none=>rfl
  | some ao=>exact absurd rfl (nlt _ (I.lt q))
 have hG : Free cx (s.heap.objs.size + 1):=by
  refine ⟨?_,?_,fun y c e q=>?_⟩
  ·cases q : cx.G (s.heap.objs.size + 1) with
   | none=>rfl
   | some o =>
    by_cases hf : s.heap.objs.size + 1 ∈ frs cx.l
    ·refine eX1a (I.fr _ _ q hf) fun sl hs=>?_;exact absurd rfl (nlt _ (Heap.lt_size hs))
    ·exact absurd rfl (nlt _ (Heap.lt_size (I.st.kept _ _ q hf)))
  ·refine eX1b (I.fm.ns) fun m hn _=>?_
   exact fun q=>nlt _ hn.lt q.symm
  ·refine eX0d (I.fm.cells y c e) fun _ _ zz308 _=>?_;refine eX2b zz308 fun v o ho _=>?_
   exact nlt _ (Heap.lt_size ho) q
 have oeo : IsEO { cls:=.type "enumerate",dict:=none,data:=.fields #[.none,.bool false,.ref s.heap.objs.size,rawInt 0,.none,.none],slots:=#[] } s.heap.objs.size ((0 : Nat) : Int):=(iX1a .none rfl)
 exact (iX1b _ (I1.track hG he (IsEO.rep oeo)) (h _ _ _ _ t ⟨h3,oeo,f.1,hn,Nat.succ_ne_self _⟩))
noncomputable def enVals (F : Int -> UInt8 -> AV) (bs : Array UInt8) (n : Nat) : List AV:=(List.range n).map fun (j : Nat)=>F (j : Int) (bs.getD j 0)
theorem enVals_succ (F : Int -> UInt8 -> AV) (bs : Array UInt8) (n : Nat) : enVals F bs (n + 1) = enVals F bs n ++ [F (n : Int) (bs.getD n 0)]:=by
 unfold enVals;rw [List.range_succ,List.map_append];rfl
theorem enM_put {m : Mem} {it e D : Addr} {ob oe : Obj} {x : AO} (h1 : D ≠ it) (h2 : D ≠ e) : mset (enM m it e ob oe) D x = enM (mset m D x) it e ob oe:=by
 unfold enM;rw [mset_comm (Ne.symm h2),mset_comm (Ne.symm h1)]
theorem enM_upd {m : Mem} {it e : Addr} {ob oe ob' oe' : Obj} (h : e ≠ it) : mset (mset (enM m it e ob oe) it (.raw ob')) e (.raw oe') = enM m it e ob' oe':=by
 unfold enM;rw [mset_comm h (mset m it (.raw ob)),mset_mset,mset_mset]
theorem enM_none {m : Mem} {it e D : Addr} {ob oe : Obj} (hne : e ≠ it) (h : enM m it e ob oe D = none) : D ≠ e /\ D ≠ it /\ m D = none:=by
 have d2 : D ≠ e:=(neN h (mset_same ..)).symm
 have h1:=(mset_ne d2).symm.trans h
 have d1 : D ≠ it:=(neN h1 (mset_same ..)).symm
 exact iX0c d2 d1 ((mset_ne d1).symm.trans h1)
theorem enumLoop {cx : Cx} {loc : Loc} {m0 : Mem} {s : Shared} {e it D : Addr} {a b : Str} {pa pb tp pos : Pos} {kk : Nat} {elt iter : Expr} {scope : Scope} {bs : Array UInt8} {t : Tok} {F : Int -> UInt8 -> AV} {R : Result -> Shared -> Prop} {ob oe : Obj}
  (I : InSt cx loc (enM (mset m0 D (.list [])) it e ob oe) s) (K : EnOk m0 it e ob oe bs t 0) (hD : m0 D = none) (d1 : D ≠ it) (d2 : D ≠ e) (hx : bs.size <= 1000000)
  (ka : cx.env.scope.names.lookup a = some .local) (kb : cx.env.scope.names.lookup b = some .local) (la : loc.lookup a = none) (lb : loc.lookup b = none) (hab : b ≠ a)
  (hE : ∀ (i : Nat) c,bs[i]? = some c -> ∀ mem G',EV (cx.withG G') elt ((b,.int (c.toNat : Int)) :: (a,.int (i : Int)) :: loc) mem (fun y m=>y = F (i : Int) c /\ m = mem) NoX)
  (hR : ∀ s',InSt cx loc (mset m0 D (.list (enVals F bs bs.size))) s' -> R (.ok .next) s') :
  codeAny (model pw cx.w) cx.A (.compLoop (.ListComp elt [⟨.Tuple [.Name a pa,.Name b pb] kk tp,iter,[],0⟩] scope pos) 0 (.ref e) (.ref D) cx.env) R s:=by
 refine loop_tests (fun n s'=>∃ i ob oe,n = bs.size - i /\ i <= bs.size /\ EnOk m0 it e ob oe bs t i /\ InSt cx loc (enM (mset m0 D (.list (enVals F bs i))) it e ob oe) s') ?_ bs.size (iX3d 0 ob oe rfl (Nat.zero_le _) K I)
 intro n s' zz309;refine eX3d zz309 ?_;clear zz309;intro i ob oe ee310 hi K I4;subst ee310
 have ge : enM (mset m0 D (.list (enVals F bs i))) it e ob oe e = some (.raw oe):=mset_same ..
 have gi : enM (mset m0 D (.list (enVals F bs i))) it e ob oe it = some (.raw ob):=(mset_ne (Ne.symm K.ne)).trans (mset_same ..)
 refine eX1d (I4.get ge) fun oe2 hoe ee311 _ _=>?_;subst ee311
 refine eX1d (I4.get gi) fun ob2 hob ee312 _ _=>?_;subst ee312
 refine eX1a (K.he) fun old ee313=>?_;subst ee313
 have hst : KBw.IsBytesIter s'.heap it bs t i:=(iX1b _ hob K.hb)
 have gD : (mset m0 D (.list (enVals F bs i))) it = none:=(mset_ne (Ne.symm d1)).trans K.n1
 have gD2 : (mset m0 D (.list (enVals F bs i))) e = none:=(mset_ne (Ne.symm d2)).trans K.n2
 by_cases hlt : i < bs.size
 ·refine wpAny_pyNext_enum_itemD (Draws.bytes (A:=cx.A.in1) I.ok.handled it bs t) hoe hst hlt K.ne (by simpa using K.ne) fun x h' tk hP heo hst' htup hsz hk=>?_
  refine eX2b hP ?_;clear hP;intro c u hc ee314;subst ee314
  refine eX1b hst' fun ob' hob' hbi=>?_
  refine wpAny_letOwnedTupleGo_enum heo fun h2 he2 hs2=>?_
  have htup2 : h2.get? s'.heap.objs.size = some (tupOf #[.int i tk,.int (c.toNat : Int) u] 0):=(hs2.2 _ (Nat.ne_of_gt (Heap.lt_size hoe))).trans htup
  have hob2 : h2.get? it = some ob':=(hs2.2 _ (Ne.symm K.ne)).trans hob'
  have he2 : h2.get? e = some { cls:=.type "enumerate",dict:=none,data:=.fields #[.none,.bool false,.ref it,rawInt ((i : Int) + 1),.none,.int (c.toNat : Int) u],slots:=#[] }:=by simpa using he2
  generalize hoE : ({ cls:=.type "enumerate",dict:=none,data:=.fields #[.none,.bool false,.ref it,rawInt ((i : Int) + 1),.none,.int (c.toNat : Int) u],slots:=#[] } : Obj) = oE at he2
  as_aux_lemma =>
  have oeo : IsEO oE it ((i + 1 : Nat) : Int):=(iX1a _ hoE.symm)
  have I5:=I4.upd2 (t:=tk + 1) (h':=h2) (c:=s'.heap.objs.size) gi ge (Ne.symm K.ne) rfl (fun z o h1 h3 e=>(hs2.2 z h3).trans (hk z o h3 h1 e)) hob2 he2 htup2 (ao':=.raw ob') (bo':=.raw oE) (co:=.tuple [.int i,.int (c.toNat : Int)]) (IsBI.rep hbi) (IsEO.rep oeo) (iX2b _ _ rfl rfl)
  rw [enM_upd K.ne] at I5
  have hA : AsgV cx (.Tuple [.Name a pa,.Name b pb] kk tp) (.ref s'.heap.objs.size) loc (mset (enM (mset m0 D (.list (enVals F bs i))) it e ob' oE) s'.heap.objs.size (.tuple [.int i,.int (c.toNat : Int)]))
    (fun l m=>l = (b,.int (c.toNat : Int)) :: (a,.int (i : Int)) :: loc /\ m = mset (enM (mset m0 D (.list (enVals F bs i))) it e ob' oE) s'.heap.objs.size (.tuple [.int i,.int (c.toNat : Int)])) :=
   AsgV.tuple (mset_same _ _ _) (AsgV.name rfl (AsgV.name rfl (iX0b rfl rfl) kb) ka)
  refine wpAny_mono (hA _ _ _ rfl I5) (fun _ s3 zq104=>eX2c zq104 fun l m I6 hl hm=>?_) fun _ _ x=>x
  subst hl hm
  rw [List.forIn_nil]
  refine wpAny_pure ?_
  refine ifT rfl ?_
  refine wpAny_mono (TV.any (hE i c hc _ cx.G) I6) (fun x s4 zq105=>eX1c zq105 fun m I7 hx hm=>?_) fun _ _ x=>x
  subst hm
  have fT : enM (mset m0 D (.list (enVals F bs i))) it e ob' oE s'.heap.objs.size = none:=eX0c (enM_none K.ne I4.fresh.1) fun q1 q2 q3=>(mset_ne q1).trans ((mset_ne q2).trans q3)
  have I8 : InSt cx loc (enM (mset m0 D (.list (enVals F bs i))) it e ob' oE) s4:=(I7.wloc (Loc.le_trans (Loc.le_skip la) (Loc.le_skip (by rw [lookup_cons_ne hab];exact lb)))).less (fun z o hz=>by rw [mset_ne fun q=>by rw [q,fT] at hz;cases hz];exact hz)
  have gDD : enM (mset m0 D (.list (enVals F bs i))) it e ob' oE D = some (.list (enVals F bs i)):=(mset_ne d2).trans ((mset_ne d1).trans (mset_same ..))
  refine eX2c (I8.list gDD) fun its n hoD hits hsz2=>?_
  refine wpAny_list_append_plain (iX1a n hoD) (fun h3 zq106 hs'=>eX1a zq106 fun n' hl'=>?_) (by
   rw [sizeLine_eq,hsz2];unfold enVals;simp;lia)
  have I9:=I8.upd (t:=s4.toks) gDD hs'.extBut hl' (ao':=.list (enVals F bs i ++ [er x])) (iX2b (its.push x) n' rfl (by rw [<- hits];simp))
  rw [enM_put d1 d2,mset_mset] at I9
  refine ⟨bs.size - (i + 1),by lia,i + 1,ob',oE,rfl,hlt,⟨hbi,oeo,K.n1,K.n2,K.ne⟩,?_⟩
  rw [enVals_succ]
  have : bs.getD i 0 = c:=by
   rw [Array.getD_eq_getD_getElem?,hc];rfl
  rw [this,<- hx]
  exact I9
 ·have : i = bs.size:=by lia
  subst this
  refine wpAny_pyNext_enum_endD (Draws.bytes (A:=cx.A.in1) I.ok.handled it bs t) hoe hst fun h' hx=>?_
  refine hR _ ((I4.lose (t:=s'.toks) gi hx).less fun z o hz=>?_)
  have q1 : z ≠ it:=fun q=>by rw [q,gD] at hz;cases hz
  have q2 : z ≠ e:=fun q=>by rw [q,gD2] at hz;cases hz
  rw [mdel_ne q1];unfold enM;rw [mset_ne q2,mset_ne q1];exact hz
theorem compEnumLoop {cx : Cx} {loc locC : Loc} {m0 : Mem} {s : Shared} {pos pa pb tp : Pos} {scope sc : Scope} {iter elt : Expr} {a b : Str} {kk : Nat} {it e : Addr} {ob oe : Obj} {bs : Array UInt8} {t : Tok} {E : Value -> Shared -> Prop} {cl : List (Str × Addr)} {R : Value -> Addr -> Result -> Shared -> Prop} {F : Int -> UInt8 -> AV}
  (I : InSt cx loc (enM m0 it e ob oe) s) (K : EnOk m0 it e ob oe bs t 0) (hx : bs.size <= 1000000)
  (hs : cx.env.scope = sc) (hc : compOk scope sc = true) (hl : Loc.le locC loc) (ho : locOk scope locC = true)
  (hcl1 : ∀ y c,cl.lookup y = some c -> (y,.free) ∈ scope.names /\ cx.env.cells.lookup y = some c) (hcl2 : ∀ y,(y,.free) ∈ scope.names -> cl.lookup y = cx.env.cells.lookup y)
  (ka : (relabel scope (scEnv sc)).names.lookup a = some .local) (kb : (relabel scope (scEnv sc)).names.lookup b = some .local) (la : locC.lookup a = none) (lb : locC.lookup b = none) (hab : b ≠ a)
  (hE : ∀ cx',cx'.env.scope = relabel scope (scEnv sc) -> cx'.A = cx.A -> ∀ (i : Nat) c,bs[i]? = some c -> ∀ mem,EV cx' elt ((b,.int (c.toNat : Int)) :: (a,.int (i : Int)) :: locC) mem (fun y m=>y = F (i : Int) c /\ m = mem) NoX)
  (hR : ∀ D C s',Free cx C -> m0 D = none -> mset m0 D (.list (enVals F bs bs.size)) C = none -> (∃ mm,s'.heap.Ns C mm) -> InSt cx loc (mset m0 D (.list (enVals F bs bs.size))) s' -> R (.ref D) C (.ok .next) s') :
  wpAny (model pw cx.w) cx.A (newList []) (fun acc s₃=>wpAny (model pw cx.w) cx.A (newFunctionEnv scope cx.env.globals cl [] cx.env.qual none .none (some cx.env)) (fun cenv s₄ =>
   codeAny (model pw cx.w) cx.A (.compStart (.ListComp elt [⟨.Tuple [.Name a pa,.Name b pb] kk tp,iter,[],0⟩] scope pos) 0 (.ref e) acc { cenv with scope:=relabel scope cx.env }) (R acc cenv.locals) s₄) E s₃) E s:=by
 refine eX0d (compOk_elim hc) fun k1 k2 k3 k4=>?_
 refine wpAny_newObj_type ?_
 have hDn : enM m0 it e ob oe s.heap.objs.size = none:=I.fresh.1
 refine eX0c (enM_none K.ne hDn) fun d2 d1 hD=>?_
 have ID:=I.push (t:=s.toks) (ao:=.list []) (o:=listOf #[] 0) (iX2b (#[]) 0 rfl rfl)
 rw [enM_put d1 d2] at ID
 refine wpAny_newFunctionEnv (fun x hx=>k2 x hx) (by intro y hy;simp at hy) (fun h₁ hns hsb=>?_) k1
 generalize hsD : s.heap.objs.size = D at *
 as_aux_lemma =>
 have IC:=ID.enterC (t:=s.toks + ([] : List (Str × Value)).length) hs hc hl ho hcl1 hcl2 hns hsb
 have fC:=ID.fresh
 have Z:=compFroz cx (s.heap.push (listOf #[] 0)) (compEnvC scope cl (s.heap.push (listOf #[] 0)).objs.size cx.env)
 generalize hC : (s.heap.push (listOf #[] 0)).objs.size = C at *
 as_aux_lemma =>
 have sceq : relabel scope cx.env = relabel scope (scEnv sc):=by subst hs;rfl
 have ka' : (relabel scope cx.env).names.lookup a = some .local:=by rw [sceq];exact ka
 have kb' : (relabel scope cx.env).names.lookup b = some .local:=by rw [sceq];exact kb
 have fin : ∀ s3 : Shared,InSt (compCx cx (s.heap.push (listOf #[] 0)) (compEnvC scope cl C cx.env)) locC (enM (mset m0 D (.list [])) it e ob oe) s3 ->
   codeAny (model pw cx.w) cx.A (.compLoop (.ListComp elt [⟨.Tuple [.Name a pa,.Name b pb] kk tp,iter,[],0⟩] scope pos) 0 (.ref e) (.ref D) (compEnvC scope cl C cx.env)) (R (.ref D) C) s3:=fun s3 I3 =>
  enumLoop (cx:=compCx cx (s.heap.push (listOf #[] 0)) (compEnvC scope cl C cx.env)) I3 K hD d1 d2 hx ka' kb' la lb hab (fun i c hc mem G'=>hE ((compCx cx (s.heap.push (listOf #[] 0)) (compEnvC scope cl C cx.env)).withG G') sceq rfl i c hc mem) fun s' I5 =>
   hR D C s' ⟨fC.2.1,Ne.symm (Ne.symm fC.2.2.1),fC.2.2.2⟩ hD I5.fm.ownM (let ⟨mm,h,_⟩:=I5.fm.ns;(iX1a mm h)) (Z.thaw ID I5)
 refine codeAny_compStart_list (fin _ IC) ?_
 refine eX1d (IC.get (show enM (mset m0 D (.list [])) it e ob oe e = some (.raw oe) from mset_same ..)) fun oe3 hoe3 e3 _ _=>?_
 refine eX1a (K.he) fun old ee317=>?_;subst ee317
 subst e3
 exact wpAny_pyIter_enum hoe3 (fin _ IC)
noncomputable abbrev KEnum (cx : Cx) (scope sc : Scope) (a b : Str) (elt : Expr) (locC : Loc) (F : Int -> UInt8 -> AV) (Q : MQ AV) : MQ AV:=fun v m=>∃ m0 it e ob oe bs t,v = .ref e /\ m = enM m0 it e ob oe /\ EnOk m0 it e ob oe bs t 0 /\ bs.size <= 1000000 /\
 (∀ cx',cx'.env.scope = relabel scope (scEnv sc) -> cx'.A = cx.A -> ∀ (i : Nat) c,bs[i]? = some c -> ∀ mem,EV cx' elt ((b,.int (c.toNat : Int)) :: (a,.int (i : Int)) :: locC) mem (fun y m=>y = F (i : Int) c /\ m = mem) NoX) /\
 ∀ D,m0 D = none -> Q (.ref D) (mset m0 D (.list (enVals F bs bs.size)))
theorem EV.compEnum {cx : Cx} {X : MQ Addr} {loc : Loc} {mem : Mem} {Q : MQ AV} {pos pa pb tp : Pos} {scope sc : Scope} {iter elt : Expr} {a b : Str} {kk : Nat} (locC : Loc) (F : Int -> UInt8 -> AV) (hs : cx.env.scope = sc)
  (h : EV cx iter loc mem (KEnum cx scope sc a b elt locC F Q) X)
  (hl : Loc.le locC loc) (ka : (relabel scope (scEnv sc)).names.lookup a = some .local:=by rfl) (kb : (relabel scope (scEnv sc)).names.lookup b = some .local:=by rfl) (la : locC.lookup a = none:=by rfl) (lb : locC.lookup b = none:=by rfl) (hab : b ≠ a:=by decide)
  (hc : compOk scope sc = true:=by rfl) (ho : locOk scope locC = true:=by rfl)
  (hf : ∀ x,foldedSetIterable iter cx.env x = pure x:=by intro _;rfl) :
  EV cx (.ListComp elt [⟨.Tuple [.Name a pa,.Name b pb] kk tp,iter,[],0⟩] scope pos) loc mem Q X:=fun s I=>by
 refine eX1c (I.closure hs hc) fun cl c1 hcl1 hcl2=>?_
 rw [eval_ListComp]
 refine wpAny_comprehension_free (use:=none) rfl hf c1 (compKind hc).1 (compKind hc).2 (TV.go h I fun v s₁ m1 I1 z=>eX4a z fun m0 it e ob z=>eX3f z fun oe bs t hv hm K hx hE hQ=>?_)
 cases er_ref hv
 subst hm
 refine eX1d (I1.get (show enM m0 it e ob oe e = some (.raw oe) from mset_same ..)) fun oe2 hoe e1 _ _=>?_
 have K':=K
 refine eX1a (K.he) fun old e2=>?_
 rw [e1,e2] at hoe
 refine wpAny_pyIter_enum hoe ?_
 refine compEnumLoop I1 K hx hs hc hl ho hcl1 hcl2 ka kb la lb hab hE fun D C s' fC hD hC zq108 I3=>eX1a zq108 fun mm hns=>?_
 refine (iX1b mm hns (fun h' hsb=>?_))
 refine eX3c hns fun oC es n hoC hd _=>?_
 exact (iX1b _ (I3.loseObj (t:=s'.toks) fC hC hoC (fun vs q=>by rw [hd] at q;cases q) hsb.extBut) (hQ D hD))
noncomputable def numAt1 (i : Int) (c : UInt8) : Int:=(c.toNat : Int) * 2 ^ (8 * i).toNat
noncomputable def numOf (bs : List UInt8) : Int:=((List.range bs.length).map fun (j : Nat)=>numAt1 (j : Int) (bs.toArray.getD j 0)).sum
noncomputable def specNum : Spec:=fun args mem Q X=>∃ bs : List UInt8,args = [.bytes bs] /\ bs.length <= 1000 /\ Q (.int (numOf bs)) mem
theorem fnNum : FnC 3 99 specNum:=by
 refine FnC.go (d:=st 11) (qual:=S "number_of") ["octets"] (fun P=>rfl) (fun P=>by rfl) (by rfl) ?_ ?_
 ·exact fun _ _ _ _=>BindsTo.of_eq (by rfl)
 ·intro args mem Q X zz318;refine eX1c zz318 ?_;clear zz318;intro bs ee319 hb hQ;subst ee319
  refine ⟨rfl,fun cx hs hw rm=>?_⟩
  refine SV.drop ?_
  refine SV.cons (S1.ret (EV.callB hs nB_sum (EVs.cons (EV.compEnum [] (fun i c=>.int (numAt1 i c)) hs ?_ (Loc.le_nil _)))))
  refine EV.callB hs nB_enumerate (EVs.s rfl ?_)
  refine CallV.enumB fun it e ob oe t K=>(iX4a mem it e ob (iX3f oe _ t rfl rfl K ?_ ?_ (fun D hD=>?_)))
  ·simp;lia
  ·intro cx' hs' hA i c hc mem'
   have hi : i < bs.toArray.size:=(Array.getElem?_eq_some_iff.mp hc).1
   have hi : i < bs.length:=by simpa using hi
   have hc2 : c.toNat < 256:=c.toNat_lt
   exact EV.bin (EV.name rfl (EV.binS rfl rfl (Op2.mul (i:=8) (Op2.shl (by lia) (by lia) (by lia) (iX0b rfl rfl)))))
  ·refine EVs.nil (CallV.sum (ns:=(List.range bs.length).map fun (j : Nat)=>numAt1 (j : Int) (bs.toArray.getD j 0)) ?_ (iX1b mem (MLe.new hD) hQ))
   rw [mset_same]
   unfold enVals
   rw [List.map_map];simp
noncomputable def pdict (t1 t2 : Addr) (p : Pt) : List (Str × AV) :=
 [("dvas",.ref t1),("kind",.int 8),("level",.int 0),("lsize",.int 16),("psize",.int 16),("packed",.int 0),("summed",.int 0),("birth",.int p.birth),("fill",.int 1),("sum",.ref t2),("dedup",.int 0)]
structure PtrAt (m : Mem) (r : Addr) (p : Pt) (d t1 t2 : Addr) (pls : List Addr) : Prop where
 i : m r = some (.inst 129 d)
 d : m d = some (.dictS false (pdict t1 t2 p))
 t1 : m t1 = some (.tuple (pls.map .ref))
 pl : All2 (fun (a : Addr) (c : Nat)=>m a = some (.tuple [.int (c : Int),.int (10 * p.num),.int p.cnt])) pls (List.range p.copies)
 t2 : m t2 = some (.tuple [.int p.num,.int 0,.int 0,.int 7])
noncomputable def Ptr (m : Mem) (r : Addr) (p : Pt) : Prop:=∃ d t1 t2 pls,PtrAt m r p d t1 t2 pls
theorem PtrAt.keep {m m' : Mem} {r : Addr} {p : Pt} {d t1 t2 : Addr} {pls : List Addr} (h : PtrAt m r p d t1 t2 pls) (k : Kp m m') : PtrAt m' r p d t1 t2 pls :=
 ⟨k _ _ h.i rfl,k _ _ h.d rfl,k _ _ h.t1 rfl,h.pl.imp fun _ _ e=>k _ _ e rfl,k _ _ h.t2 rfl⟩
theorem Ptr.keep {m m' : Mem} {r : Addr} {p : Pt} (h : Ptr m r p) (k : Kp m m') : Ptr m' r p:=let ⟨_,_,_,_,x⟩:=h;(iX4a _ _ _ _ (x.keep k))
theorem aokPdvas : AOk 129 "dvas":=fun P=>⟨by kernel_rfl,by kernel_rfl,none,by kernel_rfl,by kernel_rfl⟩
theorem sokPdvas : SOk 129 "dvas":=fun P=>(iX0d (by kernel_rfl) (by kernel_rfl) (by kernel_rfl) (by kernel_rfl))
theorem aokPkind : AOk 129 "kind":=fun P=>⟨by kernel_rfl,by kernel_rfl,none,by kernel_rfl,by kernel_rfl⟩
theorem sokPkind : SOk 129 "kind":=fun P=>(iX0d (by kernel_rfl) (by kernel_rfl) (by kernel_rfl) (by kernel_rfl))
theorem aokPlevel : AOk 129 "level":=fun P=>⟨by kernel_rfl,by kernel_rfl,none,by kernel_rfl,by kernel_rfl⟩
theorem sokPlevel : SOk 129 "level":=fun P=>(iX0d (by kernel_rfl) (by kernel_rfl) (by kernel_rfl) (by kernel_rfl))
theorem aokPlsize : AOk 129 "lsize":=fun P=>⟨by kernel_rfl,by kernel_rfl,none,by kernel_rfl,by kernel_rfl⟩
theorem sokPlsize : SOk 129 "lsize":=fun P=>(iX0d (by kernel_rfl) (by kernel_rfl) (by kernel_rfl) (by kernel_rfl))
theorem aokPpsize : AOk 129 "psize":=fun P=>⟨by kernel_rfl,by kernel_rfl,none,by kernel_rfl,by kernel_rfl⟩
theorem sokPpsize : SOk 129 "psize":=fun P=>(iX0d (by kernel_rfl) (by kernel_rfl) (by kernel_rfl) (by kernel_rfl))
theorem aokPpacked : AOk 129 "packed":=fun P=>⟨by kernel_rfl,by kernel_rfl,none,by kernel_rfl,by kernel_rfl⟩
theorem sokPpacked : SOk 129 "packed":=fun P=>(iX0d (by kernel_rfl) (by kernel_rfl) (by kernel_rfl) (by kernel_rfl))
theorem aokPsummed : AOk 129 "summed":=fun P=>⟨by kernel_rfl,by kernel_rfl,none,by kernel_rfl,by kernel_rfl⟩
theorem sokPsummed : SOk 129 "summed":=fun P=>(iX0d (by kernel_rfl) (by kernel_rfl) (by kernel_rfl) (by kernel_rfl))
theorem aokPbirth : AOk 129 "birth":=fun P=>⟨by kernel_rfl,by kernel_rfl,none,by kernel_rfl,by kernel_rfl⟩
theorem sokPbirth : SOk 129 "birth":=fun P=>(iX0d (by kernel_rfl) (by kernel_rfl) (by kernel_rfl) (by kernel_rfl))
theorem aokPfill : AOk 129 "fill":=fun P=>⟨by kernel_rfl,by kernel_rfl,none,by kernel_rfl,by kernel_rfl⟩
theorem sokPfill : SOk 129 "fill":=fun P=>(iX0d (by kernel_rfl) (by kernel_rfl) (by kernel_rfl) (by kernel_rfl))
theorem aokPsum : AOk 129 "sum":=fun P=>⟨by kernel_rfl,by kernel_rfl,none,by kernel_rfl,by kernel_rfl⟩
theorem sokPsum : SOk 129 "sum":=fun P=>(iX0d (by kernel_rfl) (by kernel_rfl) (by kernel_rfl) (by kernel_rfl))
theorem aokPdedup : AOk 129 "dedup":=fun P=>⟨by kernel_rfl,by kernel_rfl,none,by kernel_rfl,by kernel_rfl⟩
theorem sokPdedup : SOk 129 "dedup":=fun P=>(iX0d (by kernel_rfl) (by kernel_rfl) (by kernel_rfl) (by kernel_rfl))
theorem mokPlain : MOk 129 "plain" 126:=fun P=>(iX0d (by kernel_rfl) (by kernel_rfl) (by kernel_rfl) (by kernel_rfl))
noncomputable def pnames : List Str:=["dvas","kind","level","lsize","psize","packed","summed","birth","fill","sum","dedup"]
noncomputable def specPInit : Spec:=fun args mem Q X=>∃ x d v0 v1 v2 v3 v4 v5 v6 v7 v8 v9 v10,args = [.ref x,v0,v1,v2,v3,v4,v5,v6,v7,v8,v9,v10] /\ mem x = some (.inst 129 d) /\ mem d = some (.dictS false []) /\ Q .none (mset mem d (.dictS false (pnames.zip [v0,v1,v2,v3,v4,v5,v6,v7,v8,v9,v10])))
theorem fnPInit : FnK 2 119 specPInit:=by
 refine FnK.go (d:=mt 18 0) (qual:=S "Pointer.__init__") ["self","dvas","kind","level","lsize","psize","packed","summed","birth","fill","sum_now","dedup"] (fun P=>rfl) (fun P=>by rfl) (by rfl) ?_ ?_
 ·exact fun _ _ _ hX=>BindsTo.of_defaults rfl (hX 112 _ rfl) rfl rfl rfl
 ·intro args mem Q X zz320;refine eX4a zz320 ?_;clear zz320;intro x d v0 v1 zy1;refine eX4a zy1 ?_;clear zy1;intro v2 v3 v4 v5 zy2;refine eX4a zy2 ?_;clear zy2;intro v6 v7 v8 v9 zy3;refine eX1d zy3 ?_;clear zy3;intro v10 ee321 hx hd hQ;subst ee321
  refine ⟨rfl,fun cx hs hw rm=>?_⟩
  have hxd : x ≠ d:=fun q=>by rw [q,hd] at hx;cases hx
  have hx' : ∀ o,mset mem d o x = some (.inst 129 d):=fun o=>(mset_ne hxd).trans hx
  refine SV.cons (S1.setAttr hs (EV.name rfl (EV.name rfl (SetAttrV.inst hx hd sokPdvas (nle rfl) ?_))))
  refine SV.cons (S1.setAttr hs (EV.name rfl (EV.name rfl (SetAttrV.inst (hx' _) (mset_same ..) sokPkind (nle rfl) ?_))))
  rw [mset_mset]
  refine SV.cons (S1.setAttr hs (EV.name rfl (EV.name rfl (SetAttrV.inst (hx' _) (mset_same ..) sokPlevel (nle rfl) ?_))))
  rw [mset_mset]
  refine SV.cons (S1.setAttr hs (EV.name rfl (EV.name rfl (SetAttrV.inst (hx' _) (mset_same ..) sokPlsize (nle rfl) ?_))))
  rw [mset_mset]
  refine SV.cons (S1.setAttr hs (EV.name rfl (EV.name rfl (SetAttrV.inst (hx' _) (mset_same ..) sokPpsize (nle rfl) ?_))))
  rw [mset_mset]
  refine SV.cons (S1.setAttr hs (EV.name rfl (EV.name rfl (SetAttrV.inst (hx' _) (mset_same ..) sokPpacked (nle rfl) ?_))))
  rw [mset_mset]
  refine SV.cons (S1.setAttr hs (EV.name rfl (EV.name rfl (SetAttrV.inst (hx' _) (mset_same ..) sokPsummed (nle rfl) ?_))))
  rw [mset_mset]
  refine SV.cons (S1.setAttr hs (EV.name rfl (EV.name rfl (SetAttrV.inst (hx' _) (mset_same ..) sokPbirth (nle rfl) ?_))))
  rw [mset_mset]
  refine SV.cons (S1.setAttr hs (EV.name rfl (EV.name rfl (SetAttrV.inst (hx' _) (mset_same ..) sokPfill (nle rfl) ?_))))
  rw [mset_mset]
  refine SV.cons (S1.setAttr hs (EV.name rfl (EV.name rfl (SetAttrV.inst (hx' _) (mset_same ..) sokPsum (nle rfl) ?_))))
  rw [mset_mset]
  refine SV.cons (S1.setAttr hs (EV.name rfl (EV.name rfl (SetAttrV.inst (hx' _) (mset_same ..) sokPdedup (nle rfl) ?_))))
  rw [mset_mset]
  exact SV.nil hQ
noncomputable def plainVals (t1 t2 : Addr) (p : Pt) : List AV:=[.ref t1,.int 8,.int 0,.int 16,.int 16,.int 0,.int 0,.int p.birth,.int 1,.ref t2,.int 0]
noncomputable def plainD (p : Pt) : PyData:=.tuple [.tuple ((List.range p.copies).map fun (c : Nat)=>.tuple [.int (c : Int),.int (10 * p.num),.int p.cnt]),.int 8,.int 0,.int 16,.int 16,.int 0,.int 0,.int p.birth,.int 1,.tuple [.int p.num,.int 0,.int 0,.int 7],.int 0]
theorem PtrAt.dat {m : Mem} {r q : Addr} {p : Pt} {d t1 t2 : Addr} {pls : List Addr} (h : PtrAt m r p d t1 t2 pls) (hq : m q = some (.tuple (plainVals t1 t2 p))) : Dat m (.ref q) (plainD p):=by
 have hp : ∀ {pls : List Addr} {cs : List Nat},All2 (fun (a : Addr) (c : Nat)=>m a = some (.tuple [.int (c : Int),.int (10 * p.num),.int p.cnt])) pls cs ->
   All2 (Dat m) (pls.map AV.ref) (cs.map fun (c : Nat)=>PyData.tuple [.int (c : Int),.int (10 * p.num),.int p.cnt]):=by
  intro pls cs h
  induction h with
  | nil=>exact .nil
  | cons e _ ih=>exact .cons (.tuple e (.cons (.int _) (.cons (.int _) (.cons (.int _) .nil)))) ih
 exact .tuple hq (.cons (.tuple h.t1 (hp h.pl)) (.cons (.int _) (.cons (.int _) (.cons (.int _) (.cons (.int _) (.cons (.int _) (.cons (.int _) (.cons (.int _) (.cons (.int _) (.cons (.tuple h.t2 (.cons (.int _) (.cons (.int _) (.cons (.int _) (.cons (.int _) .nil))))) (.cons (.int _) .nil)))))))))))
noncomputable def specPlain : Spec:=fun args mem Q X=>∃ r p d t1 t2 pls,args = [.ref r] /\ PtrAt mem r p d t1 t2 pls /\ ∀ q,mem q = none -> Q (.ref q) (mset mem q (.tuple (plainVals t1 t2 p)))
theorem fnPlain : FnC 2 126 specPlain:=by
 refine FnC.go (d:=mt 18 1) (qual:=S "Pointer.plain") ["self"] (fun P=>rfl) (fun P=>by rfl) (by rfl) ?_ ?_
 ·exact fun _ _ _ _=>BindsTo.of_eq (by rfl)
 ·intro args mem Q X zz322;refine eX4a zz322 ?_;clear zz322;intro r p d t1 zy4;refine eX2c zy4 ?_;clear zy4;intro t2 pls ee323 H hQ;subst ee323
  refine ⟨rfl,fun cx hs hw rm=>?_⟩
  refine SV.drop ?_
  refine SV.cons (S1.assign hs (EV.tuple (EVs.cons (EV.attrS rfl (AttrV.inst H.i H.d rfl aokPkind (by nofun) (EVs.cons (EV.attrS rfl (AttrV.inst H.i H.d rfl aokPlevel (by nofun) (EVs.cons (EV.attrS rfl (AttrV.inst H.i H.d rfl aokPlsize (by nofun) (EVs.cons (EV.attrS rfl (AttrV.inst H.i H.d rfl aokPpsize (by nofun) (EVs.cons (EV.attrS rfl (AttrV.inst H.i H.d rfl aokPpacked (by nofun) (EVs.cons (EV.attrS rfl (AttrV.inst H.i H.d rfl aokPsummed (by nofun) (EVs.nil (iX0b (nle rfl) (fun t3 h3=>?_)))))))))))))))))))))))
  have H1:=H.keep (Kp.new (o:=.tuple [.int 8,.int 0,.int 16,.int 16,.int 0,.int 0]) h3)
  refine SV.cons (S1.ret (EV.bin (EV.bin (EV.tuple (EVs.cons (EV.attrS rfl (AttrV.inst H1.i H1.d rfl aokPdvas (by nofun) (EVs.nil (iX0b (nle rfl) (fun t4 h4=>?_))))))))))
  have H2:=H1.keep (Kp.new (o:=.tuple [.ref t1]) h4)
  have n34 : t3 ≠ t4:=fun q=>by rw [<- q,mset_same] at h4;cases h4
  refine EV.name rfl (Op2.addTuple (mset_same ..) ((mset_ne n34).trans (mset_same ..)) (by nofun) (by nofun) (nle rfl) fun t5 h5=>?_)
  have H3:=H2.keep (Kp.new (o:=.tuple ([.ref t1] ++ [.int 8,.int 0,.int 16,.int 16,.int 0,.int 0])) h5)
  refine EV.tuple (EVs.cons (EV.attrS rfl (AttrV.inst H3.i H3.d rfl aokPbirth (by nofun) (EVs.cons (EV.attrS rfl (AttrV.inst H3.i H3.d rfl aokPfill (by nofun) (EVs.cons (EV.attrS rfl (AttrV.inst H3.i H3.d rfl aokPsum (by nofun) (EVs.cons (EV.attrS rfl (AttrV.inst H3.i H3.d rfl aokPdedup (by nofun) (EVs.nil (iX0b (nle rfl) (fun t6 h6=>?_)))))))))))))))
  have n56 : t5 ≠ t6:=fun q=>by rw [<- q,mset_same] at h6;cases h6
  refine Op2.addTuple ((mset_ne n56).trans (mset_same ..)) (mset_same ..) (by nofun) (by nofun) (nle rfl) fun t7 h7=>(iX1b _ ?_ (hQ t7 ?_))
  ·intro a o e
   by_cases q : a = t7
   ·subst q;rw [mset_same] at e ⊢;exact e
   ·rw [mset_ne q] at e ⊢
    exact (((MLe.new h3).trans (MLe.new h4)).trans (MLe.new h5)).trans (MLe.new h6) a o e
  ·exact ((((MLe.new h3).trans (MLe.new h4)).trans (MLe.new h5)).trans (MLe.new h6)).none_of h7
theorem EV.drop {cx : Cx} {e : Expr} {loc : Loc} {mem : Mem} {Q : MQ AV} {X : MQ Addr} (h : EV cx e loc mem (KDr Q) X) : EV cx e loc mem Q X:=fun s I =>
 wpAny_mono (h s I) (fun v s' z=>eX1b z fun m I1 z=>eX1b z fun m0 hm q=>(iX1b m0 (I1.less hm) q)) fun _ _ x=>x
noncomputable def ItemV (A : Around) (sc' : Scope) (target elt : Expr) (loc : Loc) (mem : Mem) (v z : AV) : Prop:=∀ cx',cx'.env.scope = sc' -> cx'.A = A -> AsgV cx' target v loc mem fun l m=>Loc.le loc l /\ m = mem /\ EV cx' elt l mem (fun y m=>y = z /\ m = mem) NoX
theorem CompP.rel {A : Around} {sc' : Scope} {target elt : Expr} {loc : Loc} {src : Option Addr} {Fin : List AV -> Mem -> Prop} {mem : Mem} {xs zs : List AV} (ys : List AV) (x : All2 (ItemV A sc' target elt loc mem) xs zs) (hF : Fin (ys ++ zs) mem) : CompP A sc' target [] elt loc src Fin xs ys mem:=by
 induction x generalizing ys with
 | nil=>exact (List.append_nil ys ▸ hF : Fin ys mem)
 | @cons v z xs zs h1 r ih =>
  intro cx' hs hA u s E hu I
  refine wpAny_mono (h1 cx' hs hA u s E hu I) (fun _ s' zq110=>eX2d zq110 fun l m I' hle e hE=>(iX2c l m I' hle (TestsV.nil ?_))) fun _ _ x=>x
  subst e
  refine ifT rfl ?_
  refine hE.mono (fun y m e=>?_) fun _ _ x=>x
  refine eX0b e ?_;clear e;intro ee324 ee325;subst ee324;subst ee325
  exact (iX0b (fun _ _=>rfl) (ih (ys ++ [y]) (List.append_assoc ys [y] zs ▸ hF)))
theorem All2.map {α β γ δ : Type} {R : α -> β -> Prop} {S : γ -> δ -> Prop} {f : α -> γ} {g : β -> δ} (h : ∀ a b,R a b -> S (f a) (g b)) : ∀ {l : List α} {m : List β},All2 R l m -> All2 S (l.map f) (m.map g)
 | _,_,.nil=>.nil
 | _,_,.cons x r=>.cons (h _ _ x) (All2.map h r)
theorem All2.andR {α β : Type} {R : α -> β -> Prop} {P : β -> Prop} {l : List α} {m : List β} (x : All2 R l m) (h : ∀ b ∈ m,P b) : All2 (fun a b=>R a b /\ P b) l m:=by
 induction x with
 | nil=>exact .nil
 | cons x _ ih=>exact .cons (iX0b x (h _ (.head _))) (ih fun b hb=>h b (.tail _ hb))
theorem octCall {cx : Cx} {X : MQ Addr} {mem : Mem} {Q : MQ AV} {n k : Int} (rm : Rm 3 cx.A) (h0 : 0 <= n) (h1 : n < 256) (k1 : 1 <= k) (k2 : k <= 4) (h : Q (.bytes (oct n (k - 1).toNat)) mem) : CallV cx (.ref 104) [.int n,.int k] mem Q X:=by
 refine fnOct cx _ mem Q X rm (iX2b (⟨n.toNat,by lia⟩) (⟨(k - 1).toNat,by lia⟩) ?_ ?_)
 ·have e1 : ((n.toNat : Nat) : Int) = n:=by lia
  have e2 : (((k - 1).toNat : Nat) : Int) + 1 = k:=by lia
  simp only [e1,e2]
 ·have e1 : ((n.toNat : Nat) : Int) = n:=by lia
  simp only [e1];exact h
theorem Pt.num_lt (p : Pt) : 0 <= p.num /\ p.num < 18:=by unfold Pt.num;have:=p.N.isLt;lia
theorem Pt.birth_lt (p : Pt) : 1 <= p.birth /\ p.birth <= 10:=by unfold Pt.birth;have:=p.B.isLt;lia
theorem Pt.cnt_lt (p : Pt) : 1 <= p.cnt /\ p.cnt <= 3:=by
 have : ∀ N : Fin 18,∀ B : Fin 10,1 <= (Pt.mk N B).cnt /\ (Pt.mk N B).cnt <= 3:=by decide +kernel
 exact this p.N p.B
theorem Pt.copies_lt (p : Pt) : 1 <= p.copies /\ p.copies <= 2:=by unfold Pt.copies;lia
noncomputable def Pt.sz (p : Pt) : Int:=(List.replicate p.copies p.cnt).sum
noncomputable def specDsize : Spec:=fun args mem Q X=>∃ r p,args = [.ref r] /\ Ptr mem r p /\ Q (.int p.sz) mem
theorem fnDsize : FnC 3 138 specDsize:=by
 refine FnC.go (d:=st 19) (qual:=S "dsize") ["pointer"] (fun P=>rfl) (fun P=>by rfl) (by rfl) ?_ ?_
 ·exact fun _ _ _ _=>BindsTo.of_eq (by rfl)
 ·intro args mem Q X zz326;refine eX2c zz326 ?_;clear zz326;intro r p ee327 zz328 hQ;subst ee327;refine eX4a zz328 fun d t1 t2 pls H=>?_
  refine ⟨rfl,fun cx hs hw rm=>?_⟩
  refine SV.drop ?_
  refine SV.cons (S1.ret (EV.ite (BV.cmpS rfl rfl (Op2.isNone (by nofun) (Tr.bool ?_)))))
  refine ifF (show ¬ (isNoneB (AV.ref r) = true) from Bool.false_ne_true) ?_
  refine EV.callB hs nB_sum (EVs.cons (EV.comp [] hs (EV.attrS rfl (AttrV.inst H.i H.d rfl aokPdvas (by nofun) (iX1b (pls.map .ref) ?_ (ItV.tup H.t1 (CompP.rel [] (All2.map (g:=fun (_ : Nat)=>AV.int p.cnt) (fun a c e=>?_) H.pl) fun D hD=>?_))))) (Loc.le_nil _)))
  ·have:=H.pl.len;have:=p.copies_lt;rw [List.length_range] at *;rw [List.length_map];lia
  ·exact fun cx' hs' hA=>AsgV.tuple e (AsgV.name hs' (AsgV.name hs' (AsgV.name hs' (iX0c (Loc.le_nil _) rfl (EV.name rfl (iX0b rfl rfl))))))
  ·refine EVs.nil (CallV.sum (ns:=List.replicate p.copies p.cnt) ?_ (iX1b mem (MLe.new hD) hQ))
   rw [mset_same,List.nil_append,List.map_replicate,List.map_const'];simp
noncomputable def specPOct : Spec:=fun args mem Q X=>∃ r p,args = [.ref r] /\ Ptr mem r p /\ Q (.bytes (enc p)) mem
theorem fnPOct : FnC 4 143 specPOct:=by
 refine FnC.go (d:=st 20) (qual:=S "pointer_octets") ["pointer"] (fun P=>rfl) (fun P=>by rfl) (by rfl) ?_ ?_
 ·exact fun _ _ _ _=>BindsTo.of_eq (by rfl)
 ·intro args mem Q X zz329;refine eX2c zz329 ?_;clear zz329;intro r p ee330 zz331 hQ;subst ee330;refine eX4a zz331 fun d t1 t2 pls H=>?_
  refine ⟨rfl,fun cx hs hw rm=>?_⟩
  refine SV.drop ?_
  have hn:=p.num_lt
  have hb:=p.birth_lt
  have hc:=p.cnt_lt
  have hp:=p.copies_lt
  have hplen : pls.length = p.copies:=by rw [H.pl.len,List.length_range]
  refine SV.cons (S1.ite (BV.cmpS rfl rfl (Op2.isNone (by nofun) (Tr.bool ?_))))
  refine ifF (show ¬ (isNoneB (AV.ref r) = true) from Bool.false_ne_true) ?_
  refine SV.nil (SV.cons (S1.assignComp [] hs (EV.attrS rfl (AttrV.inst H.i H.d rfl aokPdvas (by nofun) (iX1b (pls.map .ref) (by rw [List.length_map];lia) (ItV.tup H.t1 (CompP.rel [] (All2.map (g:=fun (c : Nat)=>AV.bytes (encPlace p c)) (fun a c e=>?_) (H.pl.andR (P:=fun c=>c < 2) fun c hc=>by have:=List.mem_range.mp hc;lia)) fun D hD=>?_))))) (Loc.le_nil _)))
  ·refine eX0b e fun e hc2=>?_
   refine fun cx' hs' hA=>AsgV.tuple e (AsgV.name hs' (AsgV.name hs' (AsgV.name hs' (iX0c (Loc.le_nil _) rfl (EV.drop ?_)))))
   have rm' : Rm 3 cx'.A:=hA ▸ rm
   refine EV.bin ?_
   refine EV.bin ?_
   refine EV.callB hs' nB_bytes ?_
   refine EVs.cons ?_
   refine EV.list ?_
   refine EVs.s rfl ?_
   refine (iX0b (nle rfl) (fun l hl=>?_))
   refine EVs.nil ?_
   refine CallV.bytesInts (ns:=[(c : Int)]) (mset_same ..) (fun n hn=>by rw [List.mem_singleton.mp hn];lia) (nle rfl) ?_
   refine EV.callF hs' nF104 ?_
   refine EVs.s rfl ?_
   refine octCall rm' (by lia) (by lia) (by decide) (by decide) ?_
   refine Op2.addBytes (nle rfl) ?_
   refine EV.callF hs' nF104 ?_
   refine EVs.s rfl ?_
   refine octCall rm' (by lia) (by lia) (by decide) (by decide) ?_
   refine Op2.addBytes (nle rfl) (iX1c mem (MLe.new hl) rfl rfl)
  generalize hz : ([] ++ (List.range p.copies).map fun (c : Nat)=>AV.bytes (encPlace p c)) = zs
  as_aux_lemma =>
  have hzl : zs.length = p.copies:=by rw [<- hz];simp
  have hzb : zs = ((List.range p.copies).map (encPlace p)).map .bytes:=by rw [<- hz,List.nil_append,List.map_map];rfl
  generalize hbs : (List.range p.copies).map (encPlace p) = bss at hzb
  as_aux_lemma =>
  have hfl : bss.flatten.length <= 14:=by
   have : ∀ N : Fin 18,∀ B : Fin 10,(((List.range (Pt.mk N B).copies).map (encPlace (Pt.mk N B))).flatten).length <= 14:=by decide +kernel
   rw [<- hbs]
   exact this p.N p.B
  have H1:=H.keep (Kp.new (o:=.list zs) hD)
  refine SV.cons ?_
  refine S1.assign hs ?_
  refine EV.bin ?_
  refine EV.bin ?_
  refine EV.callB hs nB_bytes ?_
  refine EVs.cons ?_
  refine EV.list ?_
  refine EVs.cons ?_
  refine EV.callB hs nB_len ?_
  refine EVs.s rfl ?_
  refine CallV.listLen (mset_same ..) (by lia) ?_
  refine EVs.nil ?_
  refine (iX0b (nle rfl) (fun l1 hl1=>?_))
  refine EVs.nil ?_
  refine CallV.bytesInts (ns:=[(zs.length : Int)]) (mset_same ..) (fun n hn=>by rw [List.mem_singleton.mp hn];lia) (nle rfl) ?_
  have H2:=H1.keep (Kp.new (o:=.list [.int (zs.length : Int)]) hl1)
  have nD1 : D ≠ l1:=fun q=>by rw [<- q,mset_same] at hl1;cases hl1
  have eD : mset (mset mem D (.list zs)) l1 (.list [.int (zs.length : Int)]) D = some (.list zs):=(mset_ne nD1).trans (mset_same ..)
  have eDb : mset (mset mem D (.list zs)) l1 (.list [.int (zs.length : Int)]) D = some (.list (bss.map .bytes)):=by rw [<- hzb];exact eD
  refine EV.meth ?_
  refine EV.cBytes ?_
  refine MethV.join ?_
  refine EVs.s rfl ?_
  refine CallV.join (bss:=bss) eDb (by lia) ?_
  refine Op2.addBytes (by simp only [List.length_map,List.length_cons,List.length_nil];lia) ?_
  refine EV.callB hs nB_bytes ?_
  refine EVs.cons ?_
  refine EV.bin ?_
  refine EV.bin ?_
  refine EV.glob hs rfl ?_
  refine EV.callB hs nB_len ?_
  refine EVs.s rfl ?_
  refine CallV.listLen eD (by lia) ?_
  refine Op2.sub (i:=3) ?_
  refine EV.glob hs rfl ?_
  refine Op2.mul (j:=7) (hm:=IntMulOk.of_right (by decide)) ?_
  refine EVs.nil ?_
  refine CallV.bytesZero (by lia) (by lia) ?_
  refine Op2.addBytes (by simp only [List.length_append,List.length_replicate,List.length_map,List.length_cons,List.length_nil];lia) ?_
  refine SV.cons ?_
  refine S1.assign hs ?_
  refine EV.bin ?_
  refine EV.callF hs nF104 ?_
  refine EVs.cons ?_
  refine EV.attrS rfl ?_
  refine AttrV.inst H2.i H2.d rfl aokPlsize (by nofun) ?_
  refine EVs.s rfl ?_
  refine octCall rm (by lia) (by lia) (by decide) (by decide) ?_
  refine EV.callF hs nF104 ?_
  refine EVs.cons ?_
  refine EV.attrS rfl ?_
  refine AttrV.inst H2.i H2.d rfl aokPpsize (by nofun) ?_
  refine EVs.s rfl ?_
  refine octCall rm (by lia) (by lia) (by decide) (by decide) ?_
  refine Op2.addBytes (nle rfl) ?_
  refine SV.cons ?_
  refine S1.assign hs ?_
  refine EV.callB hs nB_bytes ?_
  refine EVs.cons ?_
  refine EV.list ?_
  refine EVs.cons ?_
  refine EV.bin ?_
  refine EV.bin ?_
  refine EV.attrS rfl ?_
  refine AttrV.inst H2.i H2.d rfl aokPpacked (by nofun) ?_
  refine EV.cInt ?_
  refine Op2.mul (i:=0) (j:=16) ?_
  refine EV.attrS rfl ?_
  refine AttrV.inst H2.i H2.d rfl aokPsummed (by nofun) ?_
  refine Op2.add ?_
  refine EVs.nil (iX0b (nle rfl) (fun l2 hl2=>?_))
  refine EVs.nil ?_
  refine CallV.bytesInts (ns:=[0 * 16 + 0]) (mset_same ..) (by decide) (nle rfl) ?_
  have H3:=H2.keep (Kp.new (o:=.list [.int (0 * 16 + 0)]) hl2)
  refine SV.cons ?_
  refine S1.assign hs ?_
  refine EV.bin ?_
  refine EV.callF hs nF104 ?_
  refine EVs.cons ?_
  refine EV.attrS rfl ?_
  refine AttrV.inst H3.i H3.d rfl aokPbirth (by nofun) ?_
  refine EVs.s rfl ?_
  refine octCall rm (by lia) (by lia) (by decide) (by decide) ?_
  refine EV.callF hs nF104 ?_
  refine EVs.cons ?_
  refine EV.attrS rfl ?_
  refine AttrV.inst H3.i H3.d rfl aokPfill (by nofun) ?_
  refine EVs.s rfl ?_
  refine octCall rm (by lia) (by lia) (by decide) (by decide) ?_
  refine Op2.addBytes (nle rfl) ?_
  refine SV.cons ?_
  refine S1.assign hs ?_
  refine EV.meth ?_
  refine EV.cBytes ?_
  refine MethV.join ?_
  refine EVs.cons ?_
  refine EV.comp [] hs ?_ (Loc.le_nil _)
  refine EV.attrS rfl ?_
  refine AttrV.inst H3.i H3.d rfl aokPsum (by nofun) ?_
  refine (iX1b ([.int p.num,.int 0,.int 0,.int 7]) (nle rfl) (ItV.tup H3.t2 (CompP.rel (zs:=[.bytes (oct p.num 3),.bytes (oct 0 3),.bytes (oct 0 3),.bytes (oct 7 3)]) [] ?_ fun D2 hD2=>?_)))
  ·refine .cons ?_ (.cons ?_ (.cons ?_ (.cons ?_ .nil)))
   all_goals
    refine fun cx' hs' hA=>AsgV.name hs' (iX0c (Loc.le_nil _) rfl ?_)
    have rm' : Rm 3 cx'.A:=hA ▸ rm
    refine EV.callF hs' nF104 ?_
    refine EVs.s rfl ?_
    refine octCall rm' (by first | lia | decide) (by first | omega | decide) (by decide) (by decide) ?_
    exact (iX0b rfl rfl)
  refine EVs.nil (CallV.join (bss:=[oct p.num 3,oct 0 3,oct 0 3,oct 7 3]) (mset_same ..) (nle rfl) ?_)
  have H4:=H3.keep (Kp.new (o:=.list ([] ++ [.bytes (oct p.num 3),.bytes (oct 0 3),.bytes (oct 0 3),.bytes (oct 7 3)])) hD2)
  refine SV.cons ?_
  refine S1.ret ?_
  refine EV.bin ?_
  refine EV.bin ?_
  refine EV.bin ?_
  refine EV.bin ?_
  refine EV.bin ?_
  refine EV.bin ?_
  refine EV.name rfl ?_
  refine EV.callB hs nB_bytes ?_
  refine EVs.cons ?_
  refine EV.list ?_
  refine EVs.cons ?_
  refine EV.attrS rfl ?_
  refine AttrV.inst H4.i H4.d rfl aokPkind (by nofun) ?_
  refine EVs.cons ?_
  refine EV.attrS rfl ?_
  refine AttrV.inst H4.i H4.d rfl aokPlevel (by nofun) ?_
  refine EVs.nil ?_
  refine (iX0b (nle rfl) (fun l3 hl3=>?_))
  refine EVs.nil ?_
  refine CallV.bytesInts (ns:=[8,0]) (mset_same ..) (by decide) (nle rfl) ?_
  refine Op2.addBytes (by simp only [List.length_append,List.length_replicate,List.length_map,List.length_cons,List.length_nil,List.flatten_cons,List.flatten_nil,oct];lia) ?_
  refine EV.name rfl ?_
  refine Op2.addBytes (by simp only [List.length_append,List.length_replicate,List.length_map,List.length_cons,List.length_nil,List.flatten_cons,List.flatten_nil,oct];lia) ?_
  refine EV.name rfl ?_
  refine Op2.addBytes (by simp only [List.length_append,List.length_replicate,List.length_map,List.length_cons,List.length_nil,List.flatten_cons,List.flatten_nil,oct];lia) ?_
  refine EV.name rfl ?_
  refine Op2.addBytes (by simp only [List.length_append,List.length_replicate,List.length_map,List.length_cons,List.length_nil,List.flatten_cons,List.flatten_nil,oct];lia) ?_
  refine EV.name rfl ?_
  refine Op2.addBytes (by simp only [List.length_append,List.length_replicate,List.length_map,List.length_cons,List.length_nil,List.flatten_cons,List.flatten_nil,oct];lia) ?_
  have H5:=H4.keep (Kp.new (o:=.list [.int 8,.int 0]) hl3)
  refine EV.callB hs nB_bytes ?_
  refine EVs.cons ?_
  refine EV.list ?_
  refine EVs.cons ?_
  refine EV.attrS rfl ?_
  refine AttrV.inst H5.i H5.d rfl aokPdedup (by nofun) ?_
  refine EVs.nil ?_
  refine (iX0b (nle rfl) (fun l4 hl4=>?_))
  refine EVs.nil ?_
  refine CallV.bytesInts (ns:=[0]) (mset_same ..) (by decide) (nle rfl) ?_
  refine Op2.addBytes (by simp only [List.length_append,List.length_replicate,List.length_map,List.length_cons,List.length_nil,List.flatten_cons,List.flatten_nil,oct];lia) (iX1b mem ?_ ?_)
  ·exact ((((((MLe.new hD).trans (MLe.new hl1)).trans (MLe.new hl2)).trans (MLe.new hD2)).trans (MLe.new hl3)).trans (MLe.new hl4))
  ·unfold enc at hQ
   rw [hbs] at hQ
   refine cast ?_ hQ
   congr 2
   rw [hzl]
   have e3 : ((3 - (p.copies : Int)) * 7).toNat = (3 - p.copies) * 7:=by lia
   rw [e3]
   rfl
theorem Kp.of_le {m m' : Mem} (h : MLe m m') : Kp m m':=fun a o e _=>h a o e
theorem Ptr.le {m m' : Mem} {r : Addr} {p : Pt} (h : Ptr m r p) (k : MLe m m') : Ptr m' r p:=h.keep (Kp.of_le k)
theorem CompP.grow {A : Around} {sc' : Scope} {target elt : Expr} {loc : Loc} {src : Option Addr} {Fin : List AV -> Mem -> Prop} {Z : AV -> AV -> Mem -> Prop} (mono : ∀ v y m m',MLe m m' -> Z v y m -> Z v y m') {xs : List AV} (ys : List AV) {mem : Mem}
  (hs : ∀ d,src = some d -> mem d ≠ none)
  (h1 : ∀ v ∈ xs,∀ m,MLe mem m -> ∀ cx',cx'.env.scope = sc' -> cx'.A = A -> AsgV cx' target v loc m fun l m1=>Loc.le loc l /\ m1 = m /\ EV cx' elt l m (fun y m2=>MLe m m2 /\ Z v y m2) NoX)
  (hF : ∀ zs m,MLe mem m -> All2 (fun v y=>Z v y m) xs zs -> Fin (ys ++ zs) m) : CompP A sc' target [] elt loc src Fin xs ys mem:=by
 induction xs generalizing ys mem with
 | nil=>exact (List.append_nil ys ▸ hF [] mem (MLe.refl _) .nil : Fin ys mem)
 | cons v xs ih =>
  intro cx' hs' hA u s E hu I
  refine wpAny_mono (h1 v (.head _) mem (MLe.refl _) cx' hs' hA u s E hu I) (fun _ s' zq111=>eX2d zq111 fun l m I' hle e hE=>(iX2c l m I' hle (TestsV.nil ?_))) fun _ _ x=>x
  subst e
  refine ifT rfl ?_
  refine hE.mono (fun y m2 e=>?_) fun _ _ x=>x
  refine eX0b e fun hm hz=>?_
  refine (iX0b (fun d hd=>?_) (ih (ys ++ [y]) (fun d hd q=>hs d hd ?_) (fun w hw m3 h3=>h1 w (.tail _ hw) m3 (hm.trans h3)) fun zs m3 h3 ha=>?_))
  ·cases q : m d with
   | none=>exact absurd q (hs d hd)
   | some o=>exact hm _ _ q
  ·cases q' : m d with
   | none=>rfl
   | some o=>rw [hm _ _ q'] at q;cases q
  ·exact (List.append_assoc ys [y] zs).symm ▸ hF (y :: zs) m3 (hm.trans h3) (.cons (mono _ _ _ _ h3 hz) ha)
theorem All2.choose {α β γ δ : Type} {R : α -> β -> Prop} {P : γ -> δ -> Prop} {f : δ -> α} {g : γ -> β} {cs : List δ} {ys : List β} (x : All2 R (cs.map f) ys) (k : ∀ c ∈ cs,∀ y,R (f c) y -> ∃ a,y = g a /\ P a c) : ∃ as,ys = as.map g /\ All2 P as cs:=by
 induction cs generalizing ys with
 | nil=>cases x;exact (iX1b ([]) rfl .nil)
 | cons c cs ih =>
  cases x with
  | cons h r =>
   refine eX1b (k c (.head _) _ h) fun a e ha=>?_
   refine eX1b (ih r fun c hc=>k c (.tail _ hc)) fun as e' hr=>?_
   exact (iX1b (a :: as) (e ▸ e' ▸ rfl) (.cons ha hr))
theorem numCall {cx : Cx} {X : MQ Addr} {mem : Mem} {Q : MQ AV} {bs : List UInt8} {n : Int} (rm : Rm 3 cx.A) (hv : numOf bs = n) (hl : bs.length <= 1000) (h : Q (.int n) mem) : CallV cx (.ref 99) [.bytes bs] mem Q X:=by
 subst hv
 exact fnNum cx _ mem Q X rm (iX1c bs rfl hl h)
noncomputable def sl (bs : List UInt8) (i j : Nat) : List UInt8:=(bs.drop i).take (j - i)
theorem sl_len (bs : List UInt8) (i j : Nat) (h : bs.length <= 1000) : (sl bs i j).length <= 1000:=by
 unfold sl;rw [List.length_take,List.length_drop];lia
noncomputable def encA (p : Pt) : Prop:=((enc p).getD 0 0).toNat = p.copies /\ ((enc p).getD 22 0).toNat = 8 /\ ((enc p).getD 23 0).toNat = 0 /\ ((enc p).getD 28 0).toNat = 0 /\ ((enc p).getD 52 0).toNat = 0
theorem encA_ok : ∀ p : Pt,encA p:=by
 have : ∀ N : Fin 18,∀ B : Fin 10,encA ⟨N,B⟩:=by unfold encA;decide +kernel
 exact fun p=>this p.N p.B
noncomputable def encB (p : Pt) : Prop:=numOf (sl (enc p) 24 26) = 16 /\ numOf (sl (enc p) 26 28) = 16 /\ numOf (sl (enc p) 29 33) = p.birth /\ numOf (sl (enc p) 33 36) = 1
theorem encB_ok : ∀ p : Pt,encB p:=by
 have : ∀ N : Fin 18,∀ B : Fin 10,encB ⟨N,B⟩:=by unfold encB;decide +kernel
 exact fun p=>this p.N p.B
noncomputable def encC (p : Pt) : Prop:=numOf (sl (enc p) 36 40) = p.num /\ numOf (sl (enc p) 40 44) = 0 /\ numOf (sl (enc p) 44 48) = 0 /\ numOf (sl (enc p) 48 52) = 7
theorem encC_ok : ∀ p : Pt,encC p:=by
 have : ∀ N : Fin 18,∀ B : Fin 10,encC ⟨N,B⟩:=by unfold encC;decide +kernel
 exact fun p=>this p.N p.B
noncomputable def encD (p : Pt) : Prop:=(sl (enc p) (1 + 7 * p.copies) 22).any (· != 0) = false
theorem encD_ok : ∀ p : Pt,encD p:=by
 have : ∀ N : Fin 18,∀ B : Fin 10,encD ⟨N,B⟩:=by unfold encD;decide +kernel
 exact fun p=>this p.N p.B
noncomputable def encE (p : Pt) : Prop:=∀ c : Fin 2,c.val < p.copies -> ((enc p).getD (1 + 7 * c.val) 0).toNat = c.val /\ numOf (sl (enc p) (2 + 7 * c.val) (6 + 7 * c.val)) = 10 * p.num /\ numOf (sl (enc p) (6 + 7 * c.val) (8 + 7 * c.val)) = p.cnt
theorem encE_ok : ∀ p : Pt,encE p:=by
 have : ∀ N : Fin 18,∀ B : Fin 10,encE ⟨N,B⟩:=by unfold encE;decide +kernel
 exact fun p=>this p.N p.B
theorem enc_ok (p : Pt) : encA p /\ encB p /\ encC p /\ encD p /\ encE p:=⟨encA_ok p,encB_ok p,encC_ok p,encD_ok p,encE_ok p⟩
theorem SubV.encAt {cx : Cx} {X : MQ Addr} {mem : Mem} {Q : MQ AV} {p : Pt} {i : Int} {n : Nat} (h0 : 0 <= i) (h1 : i < 53) (hv : ((enc p).getD i.toNat 0).toNat = n) (h : Q (.int (n : Int)) mem) : SubV cx (.bytes (enc p)) (.int i) mem Q X:=by
 subst hv
 have hl:=enc_len p
 refine SubV.bytes (c:=(enc p).getD i.toNat 0) (by lia) h0 ?_ h
 rw [List.getD_eq_getElem?_getD,List.getElem?_eq_getElem (by lia)];rfl
theorem makesP : ∀ P,makesIn (KF P) 129 = true:=fun P=>by rfl
theorem MLe.upd2 {m : Mem} {x d : Addr} {o a b : AO} (h1 : m x = none) (h2 : m d = none) : MLe m (mset (mset (mset m d o) x a) d b):=fun z p e=>by
 have hzd : z ≠ d:=fun q=>by rw [q,h2] at e;cases e
 have hzx : z ≠ x:=fun q=>by rw [q,h1] at e;cases e
 rw [mset_ne hzd,mset_ne hzx,mset_ne hzd];exact e
theorem CallV.ptr {cx : Cx} {X : MQ Addr} {mem : Mem} {Q : MQ AV} {p : Pt} {t1 t2 : Addr} {pls : List Addr} (rm : Rm 4 cx.A) (h1 : mem t1 = some (.tuple (pls.map .ref))) (hp : All2 (fun (a : Addr) (c : Nat)=>mem a = some (.tuple [.int (c : Int),.int (10 * p.num),.int p.cnt])) pls (List.range p.copies))
  (h2 : mem t2 = some (.tuple [.int p.num,.int 0,.int 0,.int 7])) (h : ∀ r m',MLe mem m' -> Ptr m' r p -> Q (.ref r) m') :
  CallV cx (.ref 129) [.ref t1,.int 8,.int 0,.int 16,.int 16,.int 0,.int 0,.int p.birth,.int 1,.ref t2,.int 0] mem Q X:=by
 refine CallV.make (fI:=119) false (n:=2) makesP (fun P=>by rfl) (fun P=>by rfl) (rm.le (by decide)) fun x d A hx hd hne rmA=>fnPInit _ _ _ _ _ rmA ?_
 refine (iX4a x d _ _ (iX4a _ _ _ _ (iX4a _ _ _ _ (iX1e _ rfl (mset_same ..) ((mset_ne (Ne.symm hne)).trans (mset_same ..)) rfl (h x _ (MLe.upd2 hx hd) ?_)))))
 have hl : MLe mem (mset (mset (mset mem d (.dictS false [])) x (.inst 129 d)) d (.dictS false (pdict t1 t2 p))):=MLe.upd2 hx hd
 exact ⟨d,t1,t2,pls,(mset_ne hne).trans (mset_same ..),mset_same ..,hl _ _ h1,hp.imp fun _ _ e=>hl _ _ e,hl _ _ h2⟩
noncomputable def specPtrOf : Spec:=fun args mem Q X=>∃ p,args = [.bytes (enc p)] /\ ∀ r m',MLe mem m' -> Ptr m' r p -> Q (.ref r) m'
theorem fnPtrOf : FnC 5 148 specPtrOf:=by
 refine FnC.go (d:=st 21) (qual:=S "pointer_of") ["octets"] (fun P=>rfl) (fun P=>by rfl) (by rfl) ?_ ?_
 ·exact fun _ _ _ _=>BindsTo.of_eq (by rfl)
 ·intro args mem Q X zz334;refine eX1b zz334 ?_;clear zz334;intro p ee335 hQ;subst ee335
  refine ⟨rfl,fun cx hs hw rm=>?_⟩
  have hn:=p.num_lt
  have hb:=p.birth_lt
  have hc:=p.cnt_lt
  have hp:=p.copies_lt
  have hel:=enc_len p
  refine eX0e (enc_ok p) fun zz336 zz337 zz338 fany fpl=>?_;refine eX0e zz336 fun f0 f22 f23 f28 f52=>?_;refine eX0d zz337 fun g24 g26 g29 g33=>?_;refine eX0d zz338 fun g36 g40 g44 g48=>?_
  refine SV.cons ?_
  refine S1.ite ?_
  refine BV.cmp ?_
  refine EV.callB hs nB_len ?_
  refine EVs.s rfl ?_
  refine CallV.bytesLen (by rw [hel];decide) ?_
  refine EV.glob hs rfl ?_
  refine Op2.lt ?_
  refine Tr.bool ?_
  rw [hel];refine ifF (show ¬ (decide (((53 : Nat) : Int) < 53) = true) from by decide) ?_
  refine SV.nil ?_
  refine SV.cons ?_
  refine S1.assign (hwr:=hw) hs ?_
  refine EV.subS rfl rfl ?_
  refine SubV.encAt (by decide) (by decide) f0 ?_
  refine SV.cons ?_
  refine S1.ite ?_
  refine BV.or ?_
  refine BVor.cons ?_
  refine BV.cmp ?_
  refine EV.name rfl ?_
  refine EV.glob hs rfl ?_
  refine Op2.gt (j:=3) ?_
  refine Tr.bool ?_
  refine ifF (show ¬ (decide ((3 : Int) < (p.copies : Int)) = true) from by simp;lia) ?_
  refine BVor.cons ?_
  refine BV.plain ?_
  refine EV.callB hs nB_any ?_
  refine EVs.cons ?_
  refine EV.sliceB ?_
  refine EV.name rfl ?_
  refine EV.bin ?_
  refine EV.cInt ?_
  refine EV.bin ?_
  refine EV.glob hs rfl ?_
  refine EV.name rfl ?_
  refine Op2.mul (i:=7) (hm:=IntMulOk.of_left (by decide)) ?_
  refine Op2.add ?_
  refine EV.ite ?_
  refine BV.cmpS rfl rfl ?_
  refine Op2.gt ?_
  refine Tr.bool ?_
  refine ifT (show decide ((0 : Int) < (p.copies : Int)) = true from by simp;lia) ?_
  refine EV.glob hs rfl ?_
  refine (iX3e _ (1 + 7 * p.copies) 22 rfl (congrArg AV.int (by push_cast;rfl)) rfl (by rw [hel];decide) ?_)
  refine EVs.nil ?_
  refine CallV.anyBytes ?_
  refine Tr.bool ?_
  rw [show (List.take (22 - (1 + 7 * p.copies)) (List.drop (1 + 7 * p.copies) (enc p))).any (· != 0) = false from fany];refine ifF Bool.false_ne_true ?_
  refine BVor.nil ?_
  refine ifF Bool.false_ne_true ?_
  refine SV.nil ?_
  refine SV.cons ?_
  refine S1.ite ?_
  refine BV.cmpS rfl rfl ?_
  refine Op2.eq ?_
  refine Tr.bool ?_
  refine ifF (show ¬ (((p.copies : Int) == 0) = true) from by simp;lia) ?_
  refine SV.nil ?_
  refine SV.cons ?_
  refine S1.assign (hwr:=hw) hs ?_
  refine EV.callB hs nB_range ?_
  refine EVs.consS rfl ?_
  refine EVs.cons ?_
  refine EV.bin ?_
  refine EV.cInt ?_
  refine EV.bin ?_
  refine EV.glob hs rfl ?_
  refine EV.name rfl ?_
  refine Op2.mul (i:=7) (hm:=IntMulOk.of_left (by decide)) ?_
  refine Op2.add ?_
  refine EVs.cons ?_
  refine EV.glob hs rfl ?_
  refine EVs.nil ?_
  refine CallV.range3 (c:=7) (by decide) (by rcases (by lia : p.copies = 1 \/ p.copies = 2) with q | q <;> rw [q] <;> kernel_rfl) fun rg hrg=>?_
  have hrs : Builtin.Range.small 1 (1 + 7 * (p.copies : Int)) 7 = true:=by rcases (by lia : p.copies = 1 \/ p.copies = 2) with q | q <;> rw [q] <;> kernel_rfl
  have hrv : rngVals 1 (Builtin.Range.rangeSize 1 (1 + 7 * (p.copies : Int)) 7).toNat 7 = (List.range p.copies).map fun (c : Nat)=>AV.int (1 + 7 * (c : Int)):=by rcases (by lia : p.copies = 1 \/ p.copies = 2) with q | q <;> rw [q] <;> kernel_rfl
  refine SV.cons ?_
  refine S1.assign (hwr:=hw) hs ?_
  refine EV.callB hs nB_tuple ?_
  refine EVs.cons ?_
  refine EV.comp [("octets",.bytes (enc p))] hs ?_ (Loc.le_cons rfl (Loc.le_nil _))
  refine EV.name rfl ?_
  refine (iX1b ((List.range p.copies).map fun (c : Nat)=>AV.int (1 + 7 * (c : Int))) (by rw [List.length_map,List.length_range];lia) (ItV.range (mset_same ..) hrs hrv (CompP.grow (Z:=fun v y m=>∃ a,y = .ref a /\ ∀ c : Nat,v = .int (1 + 7 * (c : Int)) -> m a = some (.tuple [.int (c : Int),.int (10 * p.num),.int p.cnt])) (fun v y m m' hm hz=>let ⟨a,e1,e2⟩:=hz;(iX1b a e1 (fun c hc=>hm _ _ (e2 c hc)))) [] (by nofun) (fun v hv m hm cx' hs' hA=>?_) fun zs m1 hm1 hall=>?_)))
  ·refine eX1b (List.mem_map.mp hv) fun c hcr ee339=>?_;subst ee339
   have hcr:=List.mem_range.mp hcr
   refine eX0c (fpl ⟨c,by lia⟩ hcr) fun k1 k2 k3=>?_
   have rm' : Rm 3 cx'.A:=hA ▸ rm.le (by decide)
   refine AsgV.name hs' (iX0c (Loc.le_skip rfl) rfl ?_)
   have ei : (1 + 7 * (c : Int)).toNat = 1 + 7 * c:=by lia
   refine EV.tuple ?_
   refine EVs.cons ?_
   refine EV.subS rfl rfl ?_
   refine SubV.encAt (n:=c) (by lia) (by lia) (by rw [ei];exact k1) ?_
   refine EVs.cons ?_
   refine EV.callF hs' nF99 ?_
   refine EVs.cons ?_
   refine EV.sliceB ?_
   refine EV.name rfl ?_
   refine EV.binS rfl rfl ?_
   refine Op2.add ?_
   refine EV.binS rfl rfl ?_
   refine Op2.add ?_
   refine (iX3e _ (2 + 7 * c) (6 + 7 * c) rfl (congrArg AV.int (by push_cast;lia)) (congrArg AV.int (by push_cast;lia)) (by rw [enc_len];decide) ?_)
   refine EVs.nil ?_
   refine numCall rm' k2 (sl_len _ _ _ (by rw [enc_len];decide)) ?_
   refine EVs.cons ?_
   refine EV.callF hs' nF99 ?_
   refine EVs.cons ?_
   refine EV.sliceB ?_
   refine EV.name rfl ?_
   refine EV.binS rfl rfl ?_
   refine Op2.add ?_
   refine EV.binS rfl rfl ?_
   refine Op2.add ?_
   refine (iX3e _ (6 + 7 * c) (8 + 7 * c) rfl (congrArg AV.int (by push_cast;lia)) (congrArg AV.int (by push_cast;lia)) (by rw [enc_len];decide) ?_)
   refine EVs.nil ?_
   refine numCall rm' k3 (sl_len _ _ _ (by rw [enc_len];decide)) ?_
   refine EVs.nil (iX0b (nle rfl) (fun l hl=>⟨MLe.new hl,l,rfl,fun c2 h2=>?_⟩))
   have h2:=AV.int.inj h2
   have : c = c2:=by lia
   subst this
   exact mset_same ..
  refine eX1b (hall.choose (g:=AV.ref) (P:=fun (a : Addr) (c : Nat)=>m1 a = some (.tuple [.int (c : Int),.int (10 * p.num),.int p.cnt])) fun c hc y zq112=>eX1b zq112 fun a e1 e2=>(iX1b a e1 (e2 c rfl))) fun pls ee340 hpls=>?_;subst ee340
  have hplen : pls.length = p.copies:=by rw [hpls.len,List.length_range]
  intro D hD
  refine EVs.nil (CallV.tupleOf (mset_same ..) (by rw [List.nil_append,List.length_map];lia) fun t1 ht1=>?_)
  rw [List.nil_append] at ht1 ⊢
  have hM : MLe mem (mset (mset m1 D (.list (pls.map .ref))) t1 (.tuple (pls.map .ref))):=(((MLe.new hrg).trans hm1).trans (MLe.new hD)).trans (MLe.new ht1)
  have hT : mset (mset m1 D (.list (pls.map .ref))) t1 (.tuple (pls.map .ref)) t1 = some (.tuple (pls.map .ref)):=mset_same ..
  have hP2:=hpls.imp fun a c e=>((MLe.new (o:=.list (pls.map .ref)) hD).trans (MLe.new (o:=.tuple (pls.map .ref)) ht1)) _ _ e
  generalize mset (mset m1 D (.list (pls.map .ref))) t1 (.tuple (pls.map .ref)) = m2 at hM hT hP2
  as_aux_lemma =>
  clear hall hm1 hpls hD ht1
  refine SV.cons ?_
  refine S1.swap ["kind","level","both"] hs ?_
  refine EV.tuple ?_
  refine EVs.cons ?_
  refine EV.sub ?_
  refine EV.name rfl ?_
  refine EV.glob hs rfl ?_
  refine SubV.encAt (by decide) (by decide) f22 ?_
  refine EVs.cons ?_
  refine EV.sub ?_
  refine EV.name rfl ?_
  refine EV.bin ?_
  refine EV.glob hs rfl ?_
  refine EV.cInt ?_
  refine Op2.add ?_
  refine SubV.encAt (by decide) (by decide) f23 ?_
  refine EVs.cons ?_
  refine EV.sub ?_
  refine EV.name rfl ?_
  refine EV.bin ?_
  refine EV.glob hs rfl ?_
  refine EV.cInt ?_
  refine Op2.add ?_
  refine SubV.encAt (by decide) (by decide) f28 ?_
  refine EVs.nil (iX0b (nle rfl) (fun u1 hu1=>(iX2d u1 _ rfl (mset_same ..) rfl ?_)))
  refine SV.cons ?_
  refine S1.swap ["lsize","psize"] hs ?_
  refine EV.tuple ?_
  refine EVs.cons ?_
  refine EV.callF hs nF99 ?_
  refine EVs.cons ?_
  refine EV.sliceB ?_
  refine EV.name rfl ?_
  refine EV.bin ?_
  refine EV.glob hs rfl ?_
  refine EV.cInt ?_
  refine Op2.add ?_
  refine EV.bin ?_
  refine EV.glob hs rfl ?_
  refine EV.cInt ?_
  refine Op2.add ?_
  refine (iX3e _ 24 26 rfl rfl rfl (by rw [enc_len];decide) ?_)
  refine EVs.nil ?_
  refine numCall (rm.le (by decide)) g24 (sl_len _ _ _ (by rw [enc_len];decide)) ?_
  refine EVs.cons ?_
  refine EV.callF hs nF99 ?_
  refine EVs.cons ?_
  refine EV.sliceB ?_
  refine EV.name rfl ?_
  refine EV.bin ?_
  refine EV.glob hs rfl ?_
  refine EV.cInt ?_
  refine Op2.add ?_
  refine EV.bin ?_
  refine EV.glob hs rfl ?_
  refine EV.cInt ?_
  refine Op2.add ?_
  refine (iX3e _ 26 28 rfl rfl rfl (by rw [enc_len];decide) ?_)
  refine EVs.nil ?_
  refine numCall (rm.le (by decide)) g26 (sl_len _ _ _ (by rw [enc_len];decide)) ?_
  refine EVs.nil (iX0b (nle rfl) (fun u2 hu2=>(iX2d u2 _ rfl (mset_same ..) rfl ?_)))
  refine SV.cons ?_
  refine S1.swap ["birth","fill"] hs ?_
  refine EV.tuple ?_
  refine EVs.cons ?_
  refine EV.callF hs nF99 ?_
  refine EVs.cons ?_
  refine EV.sliceB ?_
  refine EV.name rfl ?_
  refine EV.bin ?_
  refine EV.glob hs rfl ?_
  refine EV.cInt ?_
  refine Op2.add ?_
  refine EV.bin ?_
  refine EV.glob hs rfl ?_
  refine EV.cInt ?_
  refine Op2.add ?_
  refine (iX3e _ 29 33 rfl rfl rfl (by rw [enc_len];decide) ?_)
  refine EVs.nil ?_
  refine numCall (rm.le (by decide)) g29 (sl_len _ _ _ (by rw [enc_len];decide)) ?_
  refine EVs.cons ?_
  refine EV.callF hs nF99 ?_
  refine EVs.cons ?_
  refine EV.sliceB ?_
  refine EV.name rfl ?_
  refine EV.bin ?_
  refine EV.glob hs rfl ?_
  refine EV.cInt ?_
  refine Op2.add ?_
  refine EV.bin ?_
  refine EV.glob hs rfl ?_
  refine EV.cInt ?_
  refine Op2.add ?_
  refine (iX3e _ 33 36 rfl rfl rfl (by rw [enc_len];decide) ?_)
  refine EVs.nil ?_
  refine numCall (rm.le (by decide)) g33 (sl_len _ _ _ (by rw [enc_len];decide)) ?_
  refine EVs.nil (iX0b (nle rfl) (fun u3 hu3=>(iX2d u3 _ rfl (mset_same ..) rfl ?_)))
  have hM3:=((MLe.new (o:=.tuple [.int 8,.int 0,.int 0]) hu1).trans (MLe.new (o:=.tuple [.int 16,.int 16]) hu2)).trans (MLe.new (o:=.tuple [.int p.birth,.int 1]) hu3)
  replace hM3 : MLe m2 (mset (mset (mset m2 u1 (.tuple [.int ((8 : Nat) : Int),.int ((0 : Nat) : Int),.int ((0 : Nat) : Int)])) u2 (.tuple [.int 16,.int 16])) u3 (.tuple [.int p.birth,.int 1])):=hM3
  generalize mset (mset (mset m2 u1 (.tuple [.int ((8 : Nat) : Int),.int ((0 : Nat) : Int),.int ((0 : Nat) : Int)])) u2 (.tuple [.int 16,.int 16])) u3 (.tuple [.int p.birth,.int 1]) = m3 at hM3
  as_aux_lemma =>
  refine SV.cons ?_
  refine S1.assign (hwr:=hw) hs ?_
  refine EV.callB hs nB_tuple ?_
  refine EVs.cons ?_
  refine EV.comp [("octets",.bytes (enc p))] hs ?_ (Loc.le_cons rfl (Loc.le_nil _))
  refine EV.callB hs nB_range ?_
  refine EVs.cons ?_
  refine EV.bin ?_
  refine EV.glob hs rfl ?_
  refine EV.cInt ?_
  refine Op2.add ?_
  refine EVs.cons ?_
  refine EV.bin ?_
  refine EV.glob hs rfl ?_
  refine EV.cInt ?_
  refine Op2.add ?_
  refine EVs.s rfl ?_
  refine CallV.range3 (a:=36) (b:=52) (c:=4) (by decide) (by decide) fun rg2 hrg2=>?_
  refine (iX1b ([.int 36,.int 40,.int 44,.int 48]) (nle rfl) (ItV.range (mset_same ..) (by decide) (by kernel_rfl) (CompP.rel (zs:=[.int p.num,.int 0,.int 0,.int 7]) [] (.cons ?_ (.cons ?_ (.cons ?_ (.cons ?_ .nil)))) fun D2 hD2=>?_)))
  ·refine fun cx' hs' hA=>AsgV.name hs' (iX0c (Loc.le_skip rfl) rfl ?_)
   have rm' : Rm 3 cx'.A:=hA ▸ rm.le (by decide)
   refine EV.callF hs' nF99 ?_
   refine EVs.cons ?_
   refine EV.sliceB ?_
   refine EV.name rfl ?_
   refine EV.name rfl ?_
   refine EV.binS rfl rfl ?_
   refine Op2.add ?_
   refine (iX3e _ 36 40 rfl rfl rfl (by rw [enc_len];decide) ?_)
   refine EVs.nil ?_
   refine numCall rm' g36 (sl_len _ _ _ (by rw [enc_len];decide)) ?_
   exact (iX0b rfl rfl)
  ·refine fun cx' hs' hA=>AsgV.name hs' (iX0c (Loc.le_skip rfl) rfl ?_)
   have rm' : Rm 3 cx'.A:=hA ▸ rm.le (by decide)
   refine EV.callF hs' nF99 ?_
   refine EVs.cons ?_
   refine EV.sliceB ?_
   refine EV.name rfl ?_
   refine EV.name rfl ?_
   refine EV.binS rfl rfl ?_
   refine Op2.add ?_
   refine (iX3e _ 40 44 rfl rfl rfl (by rw [enc_len];decide) ?_)
   refine EVs.nil ?_
   refine numCall rm' g40 (sl_len _ _ _ (by rw [enc_len];decide)) ?_
   exact (iX0b rfl rfl)
  ·refine fun cx' hs' hA=>AsgV.name hs' (iX0c (Loc.le_skip rfl) rfl ?_)
   have rm' : Rm 3 cx'.A:=hA ▸ rm.le (by decide)
   refine EV.callF hs' nF99 ?_
   refine EVs.cons ?_
   refine EV.sliceB ?_
   refine EV.name rfl ?_
   refine EV.name rfl ?_
   refine EV.binS rfl rfl ?_
   refine Op2.add ?_
   refine (iX3e _ 44 48 rfl rfl rfl (by rw [enc_len];decide) ?_)
   refine EVs.nil ?_
   refine numCall rm' g44 (sl_len _ _ _ (by rw [enc_len];decide)) ?_
   exact (iX0b rfl rfl)
  ·refine fun cx' hs' hA=>AsgV.name hs' (iX0c (Loc.le_skip rfl) rfl ?_)
   have rm' : Rm 3 cx'.A:=hA ▸ rm.le (by decide)
   refine EV.callF hs' nF99 ?_
   refine EVs.cons ?_
   refine EV.sliceB ?_
   refine EV.name rfl ?_
   refine EV.name rfl ?_
   refine EV.binS rfl rfl ?_
   refine Op2.add ?_
   refine (iX3e _ 48 52 rfl rfl rfl (by rw [enc_len];decide) ?_)
   refine EVs.nil ?_
   refine numCall rm' g48 (sl_len _ _ _ (by rw [enc_len];decide)) ?_
   exact (iX0b rfl rfl)
  refine EVs.nil (CallV.tupleOf (mset_same ..) (nle rfl) fun t2 ht2=>?_)
  rw [List.nil_append] at ht2 ⊢
  have hM4 : MLe m3 (mset (mset (mset m3 rg2 (.range 36 52 4)) D2 (.list [.int p.num,.int 0,.int 0,.int 7])) t2 (.tuple [.int p.num,.int 0,.int 0,.int 7])):=((MLe.new hrg2).trans (MLe.new hD2)).trans (MLe.new ht2)
  have hT2 : mset (mset (mset m3 rg2 (.range 36 52 4)) D2 (.list [.int p.num,.int 0,.int 0,.int 7])) t2 (.tuple [.int p.num,.int 0,.int 0,.int 7]) t2 = some (.tuple [.int p.num,.int 0,.int 0,.int 7]):=mset_same ..
  generalize mset (mset (mset m3 rg2 (.range 36 52 4)) D2 (.list [.int p.num,.int 0,.int 0,.int 7])) t2 (.tuple [.int p.num,.int 0,.int 0,.int 7]) = m4 at hM4 hT2
  as_aux_lemma =>
  have hM5:=hM3.trans hM4
  refine SV.cons ?_
  refine S1.assign (hwr:=hw) hs ?_
  refine EV.sub ?_
  refine EV.name rfl ?_
  refine EV.bin ?_
  refine EV.glob hs rfl ?_
  refine EV.cInt ?_
  refine Op2.add ?_
  refine SubV.encAt (by decide) (by decide) f52 ?_
  refine SV.cons ?_
  refine S1.ite ?_
  refine BV.or ?_
  refine BVor.cons ?_
  refine BV.cmp ?_
  refine EV.name rfl ?_
  refine EV.glob hs rfl ?_
  refine Op2.ge ?_
  refine Tr.bool ?_
  refine ifF (show ¬ (decide ((18 : Int) <= ((8 : Nat) : Int)) = true) from by decide) ?_
  refine BVor.cons ?_
  refine BV.cmp ?_
  refine EV.binS rfl rfl ?_
  refine Op2.fdiv (by decide) (hp:=by decide) ?_
  refine EV.glob hs rfl ?_
  refine Op2.ge ?_
  refine Tr.bool ?_
  refine ifF (show ¬ (decide ((4 : Int) <= Int.fdiv ((0 : Nat) : Int) 16) = true) from by decide) ?_
  refine BVor.cons ?_
  refine BV.cmp ?_
  refine EV.binS rfl rfl ?_
  refine Op2.mod (by decide) ?_
  refine EV.glob hs rfl ?_
  refine Op2.ge ?_
  refine Tr.bool ?_
  refine ifF (show ¬ (decide ((4 : Int) <= Int.fmod ((0 : Nat) : Int) 16) = true) from by decide) ?_
  refine BVor.cons ?_
  refine BV.cmpS rfl rfl ?_
  refine Op2.gt ?_
  refine Tr.bool ?_
  refine ifF (show ¬ (decide ((1 : Int) < ((0 : Nat) : Int)) = true) from by decide) ?_
  refine BVor.cons ?_
  refine BV.cmpS rfl rfl ?_
  refine Op2.eq ?_
  refine Tr.bool ?_
  refine ifF (show ¬ ((p.birth == 0) = true) from by simp;lia) ?_
  refine BVor.nil ?_
  refine ifF Bool.false_ne_true ?_
  refine SV.nil ?_
  refine SV.cons ?_
  refine S1.ret ?_
  refine EV.callF hs nF129 ?_
  refine EVs.consS rfl ?_
  refine EVs.consS rfl ?_
  refine EVs.consS rfl ?_
  refine EVs.consS rfl ?_
  refine EVs.consS rfl ?_
  refine EVs.cons ?_
  refine EV.binS rfl rfl ?_
  refine Op2.fdiv (by decide) (hp:=by decide) ?_
  refine EVs.cons ?_
  refine EV.binS rfl rfl ?_
  refine Op2.mod (by decide) ?_
  refine EVs.s rfl ?_
  exact CallV.ptr rm (hM5 _ _ hT) (hP2.imp fun a c e=>hM5 _ _ e) hT2 fun r m' hm hr=>hQ r m' ((hM.trans hM5).trans hm) hr
theorem BaseAt0.le {m m' : Mem} {b : Addr} {S : BS0} (B : BaseAt0 m b S) (h : MLe m m') : BaseAt0 m' b S :=
 ⟨h _ _ B.i,h _ _ B.d,h _ _ B.n,h _ _ B.z,B.nz,fun p hp=>(iX0b (h _ _ (B.zs p hp).1) ((B.zs p hp).2)),B.ap,B.ln,B.lz,B.ll⟩
theorem BaseAt.le {m m' : Mem} {b : Addr} {S : BSt} (B : BaseAt m b S) (h : MLe m m') : BaseAt m' b S:=let ⟨S0,B0,e⟩:=B;(iX1b S0 (B0.le h) e)
theorem BaseAt.meth {cx : Cx} {mem : Mem} {b f : Addr} {S : BSt} {name : Str} {k : Value -> AV -> Mem -> Prop} {X : MQ Addr} (B : BaseAt mem b S) (hok : MOk 366 name f) (h : k (.ref f) (.ref b) mem)
  (hl : ∀ x y z : AV,([("last",x),("notes",y),("zaps",z)] : List (Str × AV)).lookup name = none:=by intro _ _ _;rfl) : MethV cx name (.ref b) mem k X:=by
 refine eX1b B fun S0 B0 _=>?_
 exact MethV.inst B0.i B0.d (hl _ _ _) hok h
noncomputable def PtrsAt (m : Mem) (l : Addr) (ps : List Pt) : Prop:=∃ rs : List Addr,m l = some (.list (rs.map .ref)) /\ All2 (fun r p=>Ptr m r p) rs ps
theorem PtrsAt.keep {m m' : Mem} {l : Addr} {ps : List Pt} (h : PtrsAt m l ps) (k : Kp m m') : PtrsAt m' l ps:=let ⟨rs,e,a⟩:=h;(iX1b rs (k _ _ e rfl) (a.imp fun _ _ p=>p.keep k))
noncomputable def PL (m : Mem) (a : AV) (ps : List Pt) : Prop:=∃ l,a = .ref l /\ PtrsAt m l ps
theorem encAll_one (p : Pt) : encAll [p] = enc p:=by unfold encAll;simp
theorem Tw.go {α : Type} {b : Addr} {t : T α} {val : α -> AV -> Mem -> Prop} {mem : Mem} {Q : MQ AV} {X : MQ Addr} {S : BSt} {Q1 : α -> BSt -> Prop} {X1 : Addr -> BSt -> Prop} (B : BaseAt mem b S) (h : t.wp S Q1 X1) (h1 : ∀ r S' a m,Q1 r S' -> BaseAt m b S' -> Kp mem m -> val r a m -> Q a m)
  (h2 : ∀ C S' m,X1 C S' -> BaseAt m b S' -> Kp mem m -> X C m) : Tw b t val mem Q X :=
 (iX1b S B (T.wp_mono h (fun r S' q a m B' K v=>h1 r S' a m q B' K v) fun C S' q m B' K=>h2 C S' m q B' K))
noncomputable def specNewPts : Spec:=fun args mem Q X=>∃ b,args = [.ref b] /\ Tw b (tNewNote []) (fun r a _=>a = .int r) mem Q X
theorem fnNewPts : FnC 4 155 specNewPts:=by
 refine FnC.go (d:=st 23) (qual:=S "new_points") ["base"] (fun P=>rfl) (fun P=>by rfl) (by rfl) ?_ ?_
 ·exact fun _ _ _ _=>BindsTo.of_eq (by rfl)
 ·intro args mem Q X zz341;obtain ⟨b,ee342,S,B0,h⟩:=zz341;subst ee342
  refine ⟨rfl,fun cx hs hw rm=>?_⟩
  refine SV.cons ?_
  refine S1.ret ?_
  refine EV.methS rfl ?_
  refine B0.meth mokNewNote ?_
  refine EVs.cons ?_
  refine EV.cBytes ?_
  refine EVs.nil ?_
  exact fnNewNote _ _ _ _ _ (rm.le (by decide)) ⟨b,[],rfl,_,B0,h⟩
noncomputable def specAddPt : Spec:=fun args mem Q X=>∃ b k r p,args = [.ref b,.int k,.ref r] /\ Ptr mem r p /\ Tw b (tAddNote k [p]) (fun _ a _=>a = .none) mem Q X
theorem fnAddPt : FnC 6 162 specAddPt:=by
 refine FnC.go (d:=st 24) (qual:=S "add_point") ["base","object_now","pointer"] (fun P=>rfl) (fun P=>by rfl) (by rfl) ?_ ?_
 ·exact fun _ _ _ _=>BindsTo.of_eq (by rfl)
 ·intro args mem Q X zz343;obtain ⟨b,k,r,p,ee344,H,S,B0,h⟩:=zz343;subst ee344
  refine ⟨rfl,fun cx hs hw rm=>?_⟩
  refine SV.cons ?_
  refine S1.expr ?_ _ hs
  refine EV.methS rfl ?_
  refine B0.meth mokAddNote ?_
  refine EVs.consS rfl ?_
  refine EVs.cons ?_
  refine EV.callF hs nF143 ?_
  refine EVs.s rfl ?_
  refine fnPOct _ _ _ _ _ (rm.le (by decide)) (iX2c r p rfl H ?_)
  refine EVs.nil ?_
  refine fnAddNote _ _ _ _ _ (rm.le (by decide)) (iX3b b k ([p]) (by rw [encAll_one]) (Tw.go B0 h (fun r S1' a m q B1 K1 e=>?_) fun C S1' m q B1 K1=>q m B1 K1))
  refine SV.nil (q _ _ B1 K1 rfl)
theorem All2.get {α β : Type} {R : α -> β -> Prop} {l : List α} {m : List β} (x : All2 R l m) : ∀ (i : Nat) b,m[i]? = some b -> ∃ a,l[i]? = some a /\ R a b:=by
 induction x with
 | nil=>exact fun i b h=>nomatch (show none = some b from h)
 | cons x r ih =>
  intro i b h
  cases i with
  | zero=>cases h;exact (iX1b _ rfl x)
  | succ i=>exact ih i b h
theorem All2.of_get {α β : Type} {R : α -> β -> Prop} {l : List α} {m : List β} (hl : l.length = m.length) (h : ∀ (i : Nat) a b,l[i]? = some a -> m[i]? = some b -> R a b) : All2 R l m:=by
 induction l generalizing m with
 | nil=>cases m with | nil=>exact .nil | cons _ _=>cases hl
 | cons a l ih=>cases m with
  | nil=>cases hl
  | cons b m=>exact .cons (h 0 a b rfl rfl) (ih (Nat.succ.inj hl) fun i=>h (i + 1))
noncomputable def tAddPts (k : Int) (ps : List Pt) : T Unit:=if ps.isEmpty then T.pure () else tAddNote k ps
noncomputable def specAddPts : Spec:=fun args mem Q X=>∃ b k l ps,args = [.ref b,.int k,.ref l] /\ PtrsAt mem l ps /\ ps.length <= 1000 /\ Tw b (tAddPts k ps) (fun _ a _=>a = .none) mem Q X
theorem fnAddPts : FnC 6 167 specAddPts:=by
 refine FnC.go (d:=st 25) (qual:=S "add_points") ["base","object_now","pointers"] (fun P=>rfl) (fun P=>by rfl) (by rfl) ?_ ?_
 ·exact fun _ _ _ _=>BindsTo.of_eq (by rfl)
 ·intro args mem Q X zz345;obtain ⟨b,k,l,ps,ee346,hps,hlen,S,B0,h⟩:=zz345;subst ee346
  refine ⟨rfl,fun cx hs hw rm=>?_⟩
  refine eX1b (id hps) fun rs el hall=>?_
  refine SV.cons ?_
  refine S1.ite ?_
  refine BV.cmp ?_
  refine EV.name rfl ?_
  refine EV.list ?_
  refine EVs.nil (iX0b (nle rfl) (fun l2 hl2=>?_))
  have nll : l ≠ l2:=fun q=>by rw [<- q,el] at hl2;cases hl2
  refine Op2.neNil ((mset_ne nll).trans el) (mset_same ..) (Tr.bool ?_)
  have hee : (rs.map AV.ref).isEmpty = ps.isEmpty:=by have:=hall.len;cases rs <;> cases ps <;> simp_all
  rw [hee]
  unfold tAddPts at h
  by_cases hemp : ps.isEmpty = true
  ·rw [if_pos hemp] at h
   rw [hemp];refine ifF (by decide) ?_
   exact SV.nil (SV.nil (h _ _ (B0.le (MLe.new hl2)) (Kp.new hl2) rfl))
  rw [if_neg hemp] at h
  refine ifT (by simpa using hemp) ?_
  have B1:=B0.le (MLe.new (o:=.list []) hl2)
  have hps1 : All2 (fun r p=>Ptr (mset mem l2 (.list [])) r p) rs ps:=hall.imp fun _ _ x=>x.le (MLe.new hl2)
  refine SV.cons ?_
  refine S1.expr ?_ _ hs
  refine EV.methS rfl ?_
  refine B1.meth mokAddNote ?_
  refine EVs.consS rfl ?_
  refine EVs.cons ?_
  refine EV.meth ?_
  refine EV.cBytes ?_
  refine MethV.join ?_
  refine EVs.cons ?_
  refine EV.comp [] hs ?_ (Loc.le_nil _)
  refine EV.name rfl ?_
  refine (iX1b (rs.map .ref) (by rw [List.length_map,hall.len];lia) (ItV.list ((mset_ne nll).trans el) (CompP.rel [] (All2.map (g:=fun p=>AV.bytes (enc p)) (fun r p hr=>?_) hps1) fun D hD=>?_)))
  ·refine fun cx' hs' hA=>AsgV.name hs' (iX0c (Loc.le_nil _) rfl ?_)
   have rm' : Rm 4 cx'.A:=hA ▸ rm.le (by decide)
   refine EV.callF hs' nF143 ?_
   refine EVs.s rfl ?_
   refine fnPOct _ _ _ _ _ rm' (iX2d r p rfl hr rfl rfl)
  refine EVs.nil (CallV.join (bss:=ps.map enc) ((mset_same ..).trans (by rw [List.nil_append,List.map_map];rfl)) (by have:=encAll_len ps;unfold encAll at this;lia) ?_)
  refine EVs.nil (fnAddNote _ _ _ _ _ (rm.le (by decide)) (iX3b b k ps rfl (Tw.go (B1.le (MLe.new hD)) h (fun r S1' a m q B2 K2 e=>?_) fun C S1' m q B2 K2=>q m B2 ((Kp.new hl2).trans ((Kp.new hD).trans K2)))))
  exact SV.nil (SV.nil (q _ _ B2 ((Kp.new hl2).trans ((Kp.new hD).trans K2)) rfl))
theorem rngVals_eq (c : Int) : ∀ (n : Nat) (x : Int),rngVals x n c = (List.range n).map fun (i : Nat)=>AV.int (x + (i : Int) * c)
 | 0,x=>rfl
 | n + 1,x=>by
  rw [List.range_succ_eq_map,List.map_cons,List.map_map]
  show AV.int x :: rngVals (x + c) n c = _
  rw [rngVals_eq c n (x + c)]
  congr 1
  ·congr 1;simp
  ·apply List.map_congr_left
   intro i _
   show AV.int _ = AV.int _
   congr 1
   push_cast
   rw [Int.add_mul];lia
theorem rng53 : ∀ n : Fin 1001,Builtin.Range.small 0 (53 * (n.val : Int)) 53 = true /\ (Builtin.Range.rangeSize 0 (53 * (n.val : Int)) 53).toNat = n.val /\ Builtin.divisionGoesByPylong (53 * (n.val : Int) - 0) 53 = false /\ (53 * (n.val : Int)).fmod 53 = 0:=by decide +kernel
theorem encAll_slice {ps : List Pt} {i : Nat} {p : Pt} (h : ps[i]? = some p) : ((encAll ps).drop (53 * i)).take (53 * i + 53 - 53 * i) = enc p:=by
 have e : 53 * i + 53 - 53 * i = 53:=by lia
 rw [e]
 induction ps generalizing i with
 | nil=>simp at h
 | cons q ps ih =>
  have e2 : encAll (q :: ps) = enc q ++ encAll ps:=rfl
  rw [e2]
  cases i with
  | zero =>
   simp at h;subst h
   rw [Nat.mul_zero,List.drop_zero,List.take_append_of_le_length (by rw [enc_len];exact Nat.le_refl _)]
   rw [List.take_of_length_le (by rw [enc_len];exact Nat.le_refl _)]
  | succ i =>
   have : 53 * (i + 1) = (enc q).length + 53 * i:=by rw [enc_len];lia
   rw [this,List.drop_length_add_append]
   exact ih (by simpa using h) (by lia)
noncomputable def tPoints (k : Int) : T (List Pt):=(tNote k).bind fun ps=>.need (ps.length <= 1000) (T.pure ps)
noncomputable def specPoints : Spec:=fun args mem Q X=>∃ b k,args = [.ref b,.int k] /\ Tw b (tPoints k) (fun ps a m=>PL m a ps) mem Q X
theorem fnPoints : FnC 6 172 specPoints:=by
 refine FnC.go (d:=st 26) (qual:=S "points") ["base","object_now"] (fun P=>rfl) (fun P=>by rfl) (by rfl) ?_ ?_
 ·exact fun _ _ _ _=>BindsTo.of_eq (by rfl)
 ·intro args mem Q X zz347;obtain ⟨b,k,ee348,S,B0,h⟩:=zz347;subst ee348
  refine ⟨rfl,fun cx hs hw rm=>?_⟩
  replace h:=T.wp_bind.mp h
  refine SV.cons ?_
  refine S1.assign (hwr:=hw) hs ?_
  refine EV.methS rfl ?_
  refine B0.meth mokNote ?_
  refine EVs.s rfl ?_
  refine fnNote _ _ _ _ _ (rm.le (by decide)) (iX2b b k rfl (Tw.go B0 h (fun ps S1' a m q B1 K1 e=>?_) fun C S1' m q B1 K1=>q m B1 K1))
  subst e
  refine eX0b (T.wp_need.mp q) fun hlen q=>?_
  replace q:=T.wp_pure.mp q
  have hbl:=encAll_len ps
  refine eX0d (rng53 ⟨ps.length,by lia⟩) fun r1 r2 r3 r4=>?_
  dsimp only at r1 r2 r3 r4
  have hbi : ((encAll ps).length : Int) = 53 * (ps.length : Int):=by rw [hbl];push_cast;rfl
  refine SV.cons ?_
  refine S1.ite ?_
  refine BV.cmp ?_
  refine EV.bin ?_
  refine EV.callB hs nB_len ?_
  refine EVs.s rfl ?_
  refine CallV.bytesLen (by lia) ?_
  refine EV.glob hs rfl ?_
  refine Op2.mod (j:=53) (by decide) ?_
  refine EV.cInt ?_
  refine Op2.ne ?_
  refine Tr.bool ?_
  rw [hbi,r4];refine ifF (by decide) ?_
  refine SV.nil ?_
  refine SV.cons ?_
  refine S1.ret ?_
  refine EV.comp [("octets",.bytes (encAll ps))] hs ?_ (Loc.le_cons rfl (Loc.le_nil _))
  refine EV.callB hs nB_range ?_
  refine EVs.consS rfl ?_
  refine EVs.cons ?_
  refine EV.callB hs nB_len ?_
  refine EVs.s rfl ?_
  refine CallV.bytesLen (by lia) ?_
  refine EVs.cons ?_
  refine EV.glob hs rfl ?_
  refine EVs.nil ?_
  rw [hbi]
  refine CallV.range3 (c:=53) (by decide) r3 fun rg hrg=>?_
  have hrv : rngVals 0 (Builtin.Range.rangeSize 0 (53 * (ps.length : Int)) 53).toNat 53 = (List.range ps.length).map fun (i : Nat)=>AV.int (0 + (i : Int) * 53):=by rw [r2,rngVals_eq]
  refine (iX1b ((List.range ps.length).map fun (i : Nat)=>AV.int (0 + (i : Int) * 53)) (by rw [List.length_map,List.length_range];lia) (ItV.range (mset_same ..) r1 hrv (CompP.grow (Z:=fun v y m=>∃ r,y = .ref r /\ ∀ (i : Nat) p,v = .int (0 + (i : Int) * 53) -> ps[i]? = some p -> Ptr m r p) (fun v y m m' hm hz=>let ⟨a,e1,e2⟩:=hz;(iX1b a e1 (fun i p h1 h2=>(e2 i p h1 h2).le hm))) [] (by nofun) (fun v hv m2 hm2 cx' hs' hA=>?_) fun zs m2 hm2 hall=>?_)))
  ·refine eX1b (List.mem_map.mp hv) fun i hi ee349=>?_;subst ee349
   have hi:=List.mem_range.mp hi
   have rm' : Rm 5 cx'.A:=hA ▸ rm.le (by decide)
   refine AsgV.name hs' (iX0c (Loc.le_skip rfl) rfl ?_)
   refine EV.callF hs' nF148 ?_
   refine EVs.cons ?_
   refine EV.sliceB ?_
   refine EV.name rfl ?_
   refine EV.name rfl ?_
   refine EV.bin ?_
   refine EV.name rfl ?_
   refine EV.glob hs' rfl ?_
   refine Op2.add (j:=53) ?_
   refine (iX3e _ (53 * i) (53 * i + 53) rfl (congrArg AV.int (by push_cast;lia)) (congrArg AV.int (by push_cast;lia)) (by lia) ?_)
   rw [encAll_slice (List.getElem?_eq_getElem hi)]
   refine EVs.nil (fnPtrOf _ _ _ _ _ rm' (iX1b (ps[i]) rfl (fun r m' hm hr=>⟨hm,r,rfl,fun i2 p h1 h2=>?_⟩)))
   have h1:=AV.int.inj h1
   have : i = i2:=by lia
   subst this
   rw [List.getElem?_eq_getElem hi] at h2
   exact Option.some.inj h2 ▸ hr
  intro D hD
  refine eX1b (hall.choose (g:=AV.ref) (P:=fun (r : Addr) (i : Nat)=>∀ p,ps[i]? = some p -> Ptr m2 r p) fun i hi y zq113=>eX1b zq113 fun r e1 e2=>(iX1b r e1 (fun p hp=>e2 i p rfl hp))) fun rs ee350 hrs=>?_;subst ee350
  have hl2 : rs.length = ps.length:=by rw [hrs.len,List.length_range]
  have hK : MLe m (mset m2 D (.list ([] ++ rs.map AV.ref))):=((MLe.new hrg).trans hm2).trans (MLe.new hD)
  refine q _ _ (B1.le hK) (K1.trans (Kp.of_le hK)) ⟨D,rfl,rs,mset_same ..,?_⟩
  refine All2.of_get hl2 fun i r p h1 h2=>?_
  have hi : i < ps.length:=(List.getElem?_eq_some_iff.mp h2).1
  refine eX1b (hrs.get i i (by rw [List.getElem?_range hi])) fun r' h3 h4=>?_
  rw [h1] at h3;cases h3
  exact (h4 p h2).le (MLe.new hD)
noncomputable def specEmpty : Spec:=fun args mem Q X=>∃ b k,args = [.ref b,.int k] /\ Tw b (tSetNote k []) (fun _ a _=>a = .none) mem Q X
theorem fnEmpty : FnC 6 179 specEmpty:=by
 refine FnC.go (d:=st 27) (qual:=S "empty_points") ["base","object_now"] (fun P=>rfl) (fun P=>by rfl) (by rfl) ?_ ?_
 ·exact fun _ _ _ _=>BindsTo.of_eq (by rfl)
 ·intro args mem Q X zz351;obtain ⟨b,k,ee352,S,B0,h⟩:=zz351;subst ee352
  refine ⟨rfl,fun cx hs hw rm=>?_⟩
  refine SV.cons ?_
  refine S1.expr ?_ _ hs
  refine EV.methS rfl ?_
  refine B0.meth mokSetNote ?_
  refine EVs.consS rfl ?_
  refine EVs.cons ?_
  refine EV.cBytes ?_
  refine EVs.nil ?_
  refine fnSetNote _ _ _ _ _ (rm.le (by decide)) (iX3b b k ([]) rfl (Tw.go B0 h (fun r S1' a m q B1 K1 e=>?_) fun C S1' m q B1 K1=>q m B1 K1))
  refine SV.nil (q _ _ B1 K1 rfl)
noncomputable def specSpace : Spec:=fun args mem Q X=>∃ l ps,args = [.ref l] /\ PtrsAt mem l ps /\ ps.length <= 1000 /\ Q (.int (ps.map Pt.sz).sum) mem
theorem fnSpace : FnC 6 184 specSpace:=by
 refine FnC.go (d:=st 28) (qual:=S "space_of") ["pointers"] (fun P=>rfl) (fun P=>by rfl) (by rfl) ?_ ?_
 ·exact fun _ _ _ _=>BindsTo.of_eq (by rfl)
 ·intro args mem Q X zz353;refine eX2d zz353 ?_;clear zz353;intro l ps ee354 zz355 hlen hQ;subst ee354;refine eX1b zz355 fun rs el hall=>?_
  refine ⟨rfl,fun cx hs hw rm=>?_⟩
  refine SV.drop ?_
  refine SV.cons ?_
  refine S1.ret ?_
  refine EV.callB hs nB_sum ?_
  refine EVs.cons ?_
  refine EV.comp [] hs ?_ (Loc.le_nil _)
  refine EV.name rfl ?_
  refine (iX1b (rs.map .ref) (by rw [List.length_map,hall.len];lia) (ItV.list el (CompP.rel [] (All2.map (g:=fun p=>AV.int p.sz) (fun r p hr=>?_) hall) fun D hD=>?_)))
  ·refine fun cx' hs' hA=>AsgV.name hs' (iX0c (Loc.le_nil _) rfl ?_)
   have rm' : Rm 3 cx'.A:=hA ▸ rm.le (by decide)
   refine EV.callF hs' nF138 ?_
   refine EVs.s rfl ?_
   refine fnDsize _ _ _ _ _ rm' (iX2d r p rfl hr rfl rfl)
  refine EVs.nil (CallV.sum (ns:=ps.map Pt.sz) ((mset_same ..).trans (by rw [List.nil_append,List.map_map];rfl)) (iX1b mem (MLe.new hD) hQ))
noncomputable def keyS (k : Nat) : Str:=numStr (k : Int)
noncomputable def isKey (s : Str) : Bool:=(List.range 10).any fun k=>decide (keyS k = s)
noncomputable def kNat (s : Str) : Nat:=((List.range 10).find? fun k=>decide (keyS k = s)).getD 0
noncomputable def kOf (s : Str) : Int:=(kNat s : Int)
noncomputable def deadKs (ss : List Str) : List Int:=((List.range 10).filter fun k=>decide (keyS k ∈ ss)).map fun (k : Nat)=>(k : Int)
theorem keyS_inj {i j : Nat} (hi : i < 10) (hj : j < 10) (h : keyS i = keyS j) : i = j:=by
 have:=numStr_inj (i:=(i : Int)) (j:=(j : Int)) (by lia) (by lia) (by lia) (by lia) h
 lia
theorem kNat_keyS {k : Nat} (hk : k < 10) : kNat (keyS k) = k:=by
 unfold kNat
 cases h : (List.range 10).find? fun j=>decide (keyS j = keyS k) with
 | none =>
  have:=List.find?_eq_none.mp h k (List.mem_range.mpr hk)
  simp at this
 | some j =>
  have h1:=List.find?_some h
  have h2:=List.mem_range.mp (List.mem_of_find?_eq_some h)
  exact keyS_inj h2 hk (by simpa using h1)
theorem isKey_of {s : Str} (h : isKey s = true) : ∃ k,k < 10 /\ s = keyS k /\ kOf s = (k : Int):=by
 unfold isKey at h
 refine eX1b (List.any_eq_true.mp h) fun k h1 h2=>?_
 have h1:=List.mem_range.mp h1
 have h2 : keyS k = s:=by simpa using h2
 subst h2
 exact (iX1c k h1 rfl (by unfold kOf;rw [kNat_keyS h1]))
theorem isKey_keyS {k : Nat} (hk : k < 10) : isKey (keyS k) = true:=List.any_eq_true.mpr (iX1b k (List.mem_range.mpr hk) (by simp))
theorem deadKs_sorted (ss : List Str) : (deadKs ss).Pairwise (· <= ·):=by
 unfold deadKs
 rw [List.pairwise_map]
 refine List.Pairwise.imp (fun {a b} h=>?_) ((List.pairwise_lt_range (n:=10)).filter _)
 lia
theorem deadKs_nodup (ss : List Str) : (deadKs ss).Nodup:=by
 unfold deadKs
 exact List.Pairwise.map _ (fun a b h q=>h (by lia)) ((List.nodup_range (n:=10)).filter _)
theorem deadKs_mem {ss : List Str} {a : Int} : a ∈ deadKs ss ↔ ∃ k,k < 10 /\ keyS k ∈ ss /\ a = (k : Int):=by
 unfold deadKs
 rw [List.mem_map]
 constructor
 ·intro zz356;refine eX1b zz356 ?_;clear zz356;intro k h ee357;subst ee357
  refine eX0b (List.mem_filter.mp h) fun h1 h2=>?_
  exact (iX1c k (List.mem_range.mp h1) (by simpa using h2) rfl)
 ·intro zz358;refine eX1c zz358 ?_;clear zz358;intro k h1 h2 ee359;subst ee359
  exact (iX1b k (List.mem_filter.mpr (iX0b (List.mem_range.mpr h1) (by simpa using h2))) rfl)
theorem deadKs_eq {ss : List Str} {ns : List Int} (hn : ss.Nodup) (hk : ∀ s ∈ ss,isKey s = true) (hp : ns.Perm (ss.map kOf)) (hs : ns.Pairwise (· <= ·)) : ns = deadKs ss:=by
 have hnd : (ss.map kOf).Nodup:=by
  have : ∀ ss : List Str,ss.Nodup -> (∀ s ∈ ss,isKey s = true) -> (ss.map kOf).Nodup:=by
   intro ss
   induction ss with
   | nil=>intro _ _;exact .nil
   | cons s ss ih =>
    intro hn hk
    rw [List.nodup_cons] at hn
    rw [List.map_cons,List.nodup_cons]
    refine (iX0b (fun hm=>?_) (ih hn.2 fun x hx=>hk x (.tail _ hx)))
    refine eX1b (List.mem_map.mp hm) fun y hy e=>?_
    refine eX1c (isKey_of (hk y (.tail _ hy))) fun j h1 ee360 h2=>?_;subst ee360
    refine eX1c (isKey_of (hk s (.head _))) fun i h3 ee361 h4=>?_;subst ee361
    have : i = j:=by rw [h2,h4] at e;lia
    subst this
    exact hn.1 hy
  exact this ss hn hk
 have hperm : ns.Perm (deadKs ss):=hp.trans ((List.perm_ext_iff_of_nodup hnd (deadKs_nodup ss)).mpr fun a=>by
  rw [deadKs_mem,List.mem_map]
  constructor
  ·intro zz362;refine eX1b zz362 ?_;clear zz362;intro s h1 ee363;subst ee363
   refine eX1c (isKey_of (hk s h1)) fun k h2 ee364 h3=>?_;subst ee364
   exact (iX1c k h2 h1 h3)
  ·intro zz365;refine eX1c zz365 ?_;clear zz365;intro k h1 h2 ee366;subst ee366
   exact (iX1b (keyS k) h2 (by unfold kOf;rw [kNat_keyS h1])))
 exact List.Perm.eq_of_pairwise (fun a b _ _ h1 h2=>Int.le_antisymm h1 h2) hs (deadKs_sorted ss) hperm
noncomputable def tDeadKeys (d : Int) : T (List Int):=(tNames d).bind fun ss=>.need (ss.Nodup /\ (∀ s ∈ ss,isKey s = true) /\ ss.length < 64) (T.pure (deadKs ss))
noncomputable def IntsAt (m : Mem) (a : AV) (ks : List Int) : Prop:=∃ l,a = .ref l /\ m l = some (.list (ks.map .int))
noncomputable def KeysAt (m : Mem) (a : AV) (ks : List Int) : Prop:=IntsAt m a ks /\ ks.length <= 10 /\ ∀ k ∈ ks,0 <= k /\ k < 10
theorem deadKs_bounds (ss : List Str) : (deadKs ss).length <= 10 /\ ∀ k ∈ deadKs ss,0 <= k /\ k < 10:=by
 refine (iX0b ?_ (fun k hk=>?_))
 ·unfold deadKs;rw [List.length_map];exact Nat.le_trans (List.length_filter_le _ _) (by simp)
 ·refine eX1c (deadKs_mem.mp hk) fun j h1 _ ee367=>?_;subst ee367;lia
noncomputable def specDeadKeys : Spec:=fun args mem Q X=>∃ b d,args = [.ref b,.int d] /\ Tw b (tDeadKeys d) (fun ks a m=>KeysAt m a ks) mem Q X
theorem fnDeadKeys : FnC 6 196 specDeadKeys:=by
 refine FnC.go (d:=st 31) (qual:=S "dead_keys") ["base","dead"] (fun P=>rfl) (fun P=>by rfl) (by rfl) ?_ ?_
 ·exact fun _ _ _ _=>BindsTo.of_eq (by rfl)
 ·intro args mem Q X zz368;obtain ⟨b,d,ee369,S,B0,h⟩:=zz368;subst ee369
  refine ⟨rfl,fun cx hs hw rm=>?_⟩
  replace h:=T.wp_bind.mp h
  refine SV.cons ?_
  refine S1.ret ?_
  refine EV.callB hs nB_sorted ?_
  refine EVs.cons ?_
  refine EV.comp [] hs ?_ (Loc.le_nil _)
  refine EV.methS rfl ?_
  refine B0.meth mokNames ?_
  refine EVs.s rfl ?_
  refine fnNames _ _ _ _ _ (rm.le (by decide)) (iX2b b d rfl (Tw.go B0 h (fun ss S1' a m q B1 K1 e=>?_) fun C S1' m q B1 K1=>q m B1 K1))
  refine eX2c e ?_;clear e;intro l ss' ee370 el hp;subst ee370
  refine eX0b (T.wp_need.mp q) fun zz371 q=>?_;refine eX0c zz371 fun hnd hk hlt=>?_
  replace q:=T.wp_pure.mp q
  refine (iX1b (ss'.map .str) (by rw [List.length_map,hp.length_eq];lia) (ItV.list el (CompP.rel (zs:=ss'.map fun s=>.int (kOf s)) [] ?_ fun D hD=>?_)))
  ·refine All2.of_get (by simp) fun i v z h1 h2=>?_
   rw [List.getElem?_map] at h1 h2
   refine eX1b (Option.map_eq_some_iff.mp h1) fun s hs1 ee372=>?_;subst ee372
   rw [hs1] at h2;cases h2
   refine eX1c (isKey_of (hk s (hp.mem_iff.mp (List.mem_of_getElem? hs1)))) fun k hk1 ee373 hk3=>?_;subst ee373
   refine fun cx' hs' hA=>AsgV.name hs' (iX0c (Loc.le_nil _) rfl ?_)
   refine EV.callB hs' nB_int (EVs.s rfl ?_)
   exact CallV.intOf (i:=(k : Int)) (by lia) (by lia) (iX0b (congrArg AV.int hk3.symm) rfl)
  refine EVs.nil (CallV.sorted (ns:=ss'.map kOf) ((mset_same ..).trans (by rw [List.nil_append,List.map_map];rfl)) (by rw [List.length_map,hp.length_eq];lia) fun ns q2 h1 h2 h3=>?_)
  have hns:=deadKs_eq hnd hk (h1.trans (hp.map kOf)) h2
  subst hns
  have hK:=(Kp.new (o:=.list ([] ++ ss'.map fun s=>AV.int (kOf s))) hD).trans (Kp.new (o:=.list ((deadKs ss).map .int)) h3)
  exact q _ _ ((B1.le (MLe.new hD)).le (MLe.new h3)) (K1.trans hK) (iX0b (iX1b q2 rfl (mset_same ..)) (deadKs_bounds ss))
noncomputable def tListOf (d key : Int) : T Int:=.need (0 <= key /\ key < 100) ((tGet d (numStr key)).bind fun o=>match o with
 | none=>.fail 56
 | some n=>T.pure n)
noncomputable def specListOf : Spec:=fun args mem Q X=>∃ b d key,args = [.ref b,.int d,.int key] /\ Tw b (tListOf d key) (fun n a _=>a = .int n) mem Q X
theorem log2_small {k : Int} (h0 : 0 <= k) (h1 : k < 1000) : k.natAbs.log2 < 1920:=by
 have h2 : k.natAbs < 2 ^ 10:=by lia
 by_cases q : k.natAbs = 0
 ·rw [q];decide
 ·have:=(Nat.log2_lt q).mpr h2;lia
theorem fnListOf : FnC 6 203 specListOf:=by
 refine FnC.go (d:=st 32) (qual:=S "list_of") ["base","dead","key"] (fun P=>rfl) (fun P=>by rfl) (by rfl) ?_ ?_
 ·exact fun _ _ _ _=>BindsTo.of_eq (by rfl)
 ·intro args mem Q X zz374;obtain ⟨b,d,key,ee375,S,B0,h⟩:=zz374;subst ee375
  refine ⟨rfl,fun cx hs hw rm=>?_⟩
  refine eX0b (T.wp_need.mp h) fun hk h=>?_
  replace h:=T.wp_bind.mp h
  refine SV.cons ?_
  refine S1.assign (hwr:=hw) hs ?_
  refine EV.methS rfl ?_
  refine B0.meth mokGet ?_
  refine EVs.consS rfl ?_
  refine EVs.cons ?_
  refine EV.callB hs nB_str ?_
  refine EVs.s rfl ?_
  refine CallV.strOf (log2_small hk.1 (by lia)) ?_
  refine EVs.nil ?_
  refine fnGet _ _ _ _ _ (rm.le (by decide)) (iX3b b d (numStr key) rfl (Tw.go B0 h (fun o S1' a m q B1 K1 e=>?_) fun C S1' m q B1 K1=>q m B1 K1))
  subst e
  refine SV.cons (S1.ite (BV.cmpS rfl rfl (Op2.isNone ?_ (Tr.bool ?_))))
  ·cases o <;> nofun
  cases o with
  | none =>
   refine ifT (show isNoneB (oi none) = true from rfl) ?_
   exact SV.cons (S1.raiseC rfl hs (rm.le (by decide)) nF56 (T.wp_fail.mp q m B1 K1))
  | some n =>
   refine ifF (show ¬ (isNoneB (oi (some n)) = true) from Bool.false_ne_true) ?_
   exact SV.nil (SV.cons (S1.ret (EV.name rfl (T.wp_pure.mp q _ _ B1 K1 rfl))))
noncomputable def below (ks : List Int) (n : Int) : Option Int:=(ks.filter fun k=>decide (k < n)).getLast?
noncomputable def specKeyFor : Spec:=fun args mem Q X=>∃ l ks n,args = [.ref l,.int n] /\ mem l = some (.list (ks.map .int)) /\ ks.length <= 1000 /\ Q (oi (below ks n)) mem
noncomputable def ltB (n : Int) : AV -> Bool
 | .int k=>decide (k < n)
 | _=>false
theorem filter_lt (n : Int) (ks : List Int) : [] ++ ((ks.map AV.int).filter (ltB n)).map id = (ks.filter fun k=>decide (k < n)).map AV.int:=by
 rw [List.nil_append,List.map_id,List.filter_map];rfl
theorem fnKeyFor : FnC 6 208 specKeyFor:=by
 refine FnC.go (d:=st 33) (qual:=S "key_for") ["keys","birth"] (fun P=>rfl) (fun P=>by rfl) (by rfl) ?_ ?_
 ·exact fun _ _ _ _=>BindsTo.of_eq (by rfl)
 ·intro args mem Q X zz376;refine eX3d zz376 ?_;clear zz376;intro l ks n ee377 el hlen hQ;subst ee377
  refine ⟨rfl,fun cx hs hw rm=>?_⟩
  refine SV.drop ?_
  refine SV.cons (S1.assignComp [("birth",.int n)] hs ?_ (Loc.le_cons rfl (Loc.le_nil _)))
  refine EV.name rfl (iX1b (ks.map .int) (by rw [List.length_map];lia) (ItV.list el (CompP.same (ltB n) id rfl rfl _ _ (fun v hv cx' hs' hA=>?_) (fun v hv ht cx' hs' hA=>EV.name rfl (iX0b rfl rfl)) fun D hD=>?_)))
  ·refine eX1b (List.mem_map.mp hv) fun k hk ee378=>?_;subst ee378
   exact TestsV.one (BV.cmpS rfl rfl (Op2.lt (Tr.bool (iX0b rfl rfl))))
  rw [filter_lt]
  unfold below at hQ
  generalize hf : (ks.filter fun k=>decide (k < n)) = fs at hQ
  as_aux_lemma =>
  have hfl : fs.length <= 1000:=by rw [<- hf];exact Nat.le_trans (List.length_filter_le _ _) hlen
  refine SV.cons (S1.ret (EV.ite (BV.cmp (EV.name rfl (EV.list (EVs.nil (iX0b (nle rfl) (fun l2 hl2=>?_))))))))
  have nll : D ≠ l2:=fun q=>by rw [<- q,mset_same] at hl2;cases hl2
  have eD : mset (mset mem D (.list (fs.map .int))) l2 (.list []) D = some (.list (fs.map .int)):=(mset_ne nll).trans (mset_same ..)
  have hM:=(MLe.new (o:=.list (fs.map .int)) hD).trans (MLe.new (o:=.list []) hl2)
  refine Op2.neNil eD (mset_same ..) (Tr.bool ?_)
  rcases List.eq_nil_or_concat fs with rfl | ⟨gs,g,rfl⟩
  ·refine ifF (by decide) ?_
   exact EV.cNone (iX1b mem hM hQ)
  ·refine ifT (by simp) ?_
   rw [List.concat_eq_append,List.map_append] at eD hM hl2 ⊢
   refine EV.sub (EV.name rfl (EV.neg1 (SubV.last eD (by rw [List.length_map];rw [List.concat_eq_append,List.length_append] at hfl;lia) (iX1b mem hM ?_))))
   rw [List.concat_eq_append,List.getLast?_concat] at hQ
   exact hQ
noncomputable def tPutDead (z : Int) (p : Pt) : T Unit:=(tDeadKeys z).bind fun ks=>match below ks p.birth with
 | none=>.fail 92
 | some key=>(tListOf z key).bind fun n=>tAddNote n [p]
noncomputable def specPutDead : Spec:=fun args mem Q X=>∃ b z r p,args = [.ref b,.int z,.ref r] /\ Ptr mem r p /\ Tw b (tPutDead z p) (fun _ a _=>a = .none) mem Q X
theorem fnPutDead : FnC 7 215 specPutDead:=by
 refine FnC.go (d:=st 34) (qual:=S "put_dead") ["base","dead","pointer"] (fun P=>rfl) (fun P=>by rfl) (by rfl) ?_ ?_
 ·exact fun _ _ _ _=>BindsTo.of_eq (by rfl)
 ·intro args mem Q X zz379;obtain ⟨b,z,r,p,ee380,zz381,S,B0,h⟩:=zz379;subst ee380;refine eX4a zz381 fun d t1 t2 pls H=>?_
  refine ⟨rfl,fun cx hs hw rm=>?_⟩
  replace h:=T.wp_bind.mp h
  refine SV.cons ?_
  refine S1.assign (hwr:=hw) hs ?_
  refine EV.callF hs nF208 ?_
  refine EVs.cons ?_
  refine EV.callF hs nF196 ?_
  refine EVs.s rfl ?_
  refine fnDeadKeys _ _ _ _ _ (rm.le (by decide)) (iX2b b z rfl (Tw.go B0 h (fun r1 S1' a1 m1 q1 B1 K1 e1=>?_) fun C S9 m9 q9 B9 K9=>q9 m9 B9 (K9)))
  refine eX0c e1 fun zz382 hlen1 hk1=>?_;refine eX1b zz382 ?_;clear zz382;intro l1 ee383 el1;subst ee383
  have H1:=H.keep K1
  refine EVs.cons ?_
  refine EV.attrS rfl ?_
  refine AttrV.inst H1.i H1.d rfl aokPbirth (by nofun) ?_
  refine EVs.nil ?_
  refine fnKeyFor _ _ _ _ _ (rm.le (by decide)) (iX3d l1 r1 p.birth rfl el1 (by lia) ?_)
  refine SV.cons (S1.ite (BV.cmpS rfl rfl (Op2.isNone ?_ (Tr.bool ?_))))
  ·cases below r1 p.birth <;> nofun
  cases hb : below r1 p.birth with
  | none =>
   rw [hb] at q1
   refine ifT (show isNoneB (oi none) = true from rfl) ?_
   exact SV.cons (S1.raiseC rfl hs (rm.le (by decide)) nF92 (T.wp_fail.mp q1 _ B1 K1))
  | some key =>
   rw [hb] at q1
   replace q1:=T.wp_bind.mp q1
   refine ifF (show ¬ (isNoneB (oi (some key)) = true) from Bool.false_ne_true) ?_
   refine SV.nil ?_
   refine SV.cons ?_
   refine S1.expr ?_ _ hs
   refine EV.callF hs nF162 ?_
   refine EVs.consS rfl ?_
   refine EVs.cons ?_
   refine EV.callF hs nF203 ?_
   refine EVs.s rfl ?_
   refine fnListOf _ _ _ _ _ (rm.le (by decide)) (iX3b b z key rfl (Tw.go B1 q1 (fun r2 S2' a2 m2 q2 B2 K2 e2=>?_) fun C S9 m9 q9 B9 K9=>q9 m9 B9 (K1.trans K9)))
   subst e2
   refine EVs.s rfl ?_
   refine fnAddPt _ _ _ _ _ (rm.le (by decide)) (iX4c b r2 r p rfl (iX4a d t1 t2 pls (H.keep (K1.trans K2))) (Tw.go B2 q2 (fun r3 S3' a3 m3 q3 B3 K3 e3=>?_) fun C S9 m9 q9 B9 K9=>q9 m9 B9 ((K1.trans K2).trans K9)))
   refine SV.nil (q3 _ _ B3 (K1.trans (K2.trans K3)) rfl)
noncomputable def younger (key : Int) (ps : List Pt) : List Pt:=ps.filter fun p=>decide (key < p.birth)
noncomputable def elder (key : Int) (ps : List Pt) : List Pt:=ps.filter fun p=>decide (p.birth <= key)
noncomputable def tAddKey (z key : Int) : T Unit:=(tDeadKeys z).bind fun ks=>if ks.any (· == key) = true then .fail 68 else (tNewNote []).bind fun n=>.need (0 <= key /\ key < 100) ((tPut z (numStr key) n).bind fun _=>match below ks key with
 | none=>T.pure ()
 | some bl=>(tListOf z bl).bind fun e=>(tPoints e).bind fun all=>.need (all.length <= 1000) (if (younger key all).isEmpty then T.pure () else (tSetNote e []).bind fun _=>(tAddPts e (elder key all)).bind fun _=>tAddPts n (younger key all)))
noncomputable def specAddKey : Spec:=fun args mem Q X=>∃ b z key,args = [.ref b,.int z,.int key] /\ Tw b (tAddKey z key) (fun _ a _=>a = .none) mem Q X
theorem CompP.sift {A : Around} {sc' : Scope} {x : Str} {pos : Pos} {t : Expr} {loc : Loc} {src : Option Addr} {Fin : List AV -> Mem -> Prop} {mem : Mem} (f : Pt -> Bool) (hk : sc'.names.lookup x = some .local) (hx : loc.lookup x = none) (rs : List Addr) (ps : List Pt) (ys : List AV) (hall : All2 (fun r p=>Ptr mem r p) rs ps)
  (h1 : ∀ r p,Ptr mem r p -> ∀ cx',cx'.env.scope = sc' -> cx'.A = A -> BV cx' t ((x,.ref r) :: loc) mem (fun b m=>b = f p /\ m = mem) NoX) (h2 : ∀ r cx',cx'.env.scope = sc' -> EV cx' (.Name x pos) ((x,.ref r) :: loc) mem (fun y m=>y = .ref r /\ m = mem) NoX)
  (hF : ∀ rs',All2 (fun r p=>Ptr mem r p) rs' (ps.filter f) -> Fin (ys ++ rs'.map .ref) mem) {tp : Pos} : CompP A sc' (.Name x tp) [t] (.Name x pos) loc src Fin (rs.map .ref) ys mem:=by
 induction hall generalizing ys with
 | nil=>exact (List.append_nil ys ▸ hF [] .nil : Fin ys mem)
 | @cons r p rs ps hr hall ih =>
  intro cx' hs hA
  refine AsgV.name hs (iX0b (Loc.le_skip hx) (fun s E I=>wpAny_mono (TestsV.one (h1 r p hr cx' hs hA) s E I) (fun ok s' zq114=>eX1c zq114 fun m I' e1 e2=>(iX1b m I' ?_)) fun _ _ x=>x)) hk
  subst e1 e2
  unfold KTest;split
  ·rename_i q
   refine (h2 r cx' hs).mono (fun y m e=>?_) fun _ _ x=>x
   refine eX0b e ?_;clear e;intro ee384 ee385;subst ee384;subst ee385
   refine (iX0b (fun _ _=>rfl) (ih _ fun rs' ha=>?_))
   exact (List.append_assoc ys [.ref r] (rs'.map .ref)).symm ▸ hF (r :: rs') (by rw [List.filter_cons,if_pos q];exact .cons hr ha)
  ·rename_i q
   refine (iX0b (fun _ _=>rfl) (ih _ fun rs' ha=>hF rs' (by rw [List.filter_cons,if_neg q];exact ha)))
theorem fnAddKey : FnC 7 220 specAddKey:=by
 refine FnC.go (d:=st 35) (qual:=S "add_key") ["base","dead","key"] (fun P=>rfl) (fun P=>by rfl) (by rfl) ?_ ?_
 ·exact fun _ _ _ _=>BindsTo.of_eq (by rfl)
 ·intro args mem Q X zz386;obtain ⟨b,z,key,ee387,S,B0,h⟩:=zz386;subst ee387
  refine ⟨rfl,fun cx hs hw rm=>?_⟩
  replace h:=T.wp_bind.mp h
  refine SV.cons ?_
  refine S1.assign (hwr:=hw) hs ?_
  refine EV.callF hs nF196 ?_
  refine EVs.s rfl ?_
  refine fnDeadKeys _ _ _ _ _ (rm.le (by decide)) (iX2b b z rfl (Tw.go B0 h (fun r1 S1' a1 m1 q1 B1 K1 e1=>?_) fun C S9 m9 q9 B9 K9=>q9 m9 B9 (K9)))
  refine eX0c e1 fun zz388 hlen1 hk1=>?_;refine eX1b zz388 ?_;clear zz388;intro l1 ee389 el1;subst ee389
  refine SV.cons ?_
  refine S1.ite ?_
  refine BV.cmpS rfl rfl ?_
  refine Op2.inInts el1 ?_
  refine Tr.bool ?_
  by_cases hin : r1.any (· == key) = true
  ·rw [if_pos hin] at q1
   refine ifT hin ?_
   exact SV.cons (S1.raiseC rfl hs (rm.le (by decide)) nF68 (T.wp_fail.mp q1 _ B1 K1))
  rw [if_neg hin] at q1
  refine ifF hin ?_
  replace q1:=T.wp_bind.mp q1
  refine SV.nil ?_
  refine SV.cons ?_
  refine S1.swap ["fresh","below"] hs ?_
  refine EV.tuple ?_
  refine EVs.cons ?_
  refine EV.callF hs nF155 ?_
  refine EVs.s rfl ?_
  refine fnNewPts _ _ _ _ _ (rm.le (by decide)) (iX1b b rfl (Tw.go B1 q1 (fun r2 S2' a2 m2 q2 B2 K2 e2=>?_) fun C S9 m9 q9 B9 K9=>q9 m9 B9 (K1.trans K9)))
  subst e2
  refine eX0b (T.wp_need.mp q2) fun hkey q2=>?_
  replace q2:=T.wp_bind.mp q2
  refine EVs.cons ?_
  refine EV.callF hs nF208 ?_
  refine EVs.s rfl ?_
  refine fnKeyFor _ _ _ _ _ (rm.le (by decide)) (iX3d l1 r1 key rfl (K2 _ _ el1 rfl) (by lia) ?_)
  refine EVs.nil (iX0b (nle rfl) (fun t1 ht1=>(iX2d t1 _ rfl (mset_same ..) rfl ?_)))
  have M1:=MLe.new (o:=.tuple [.int r2,oi (below r1 key)]) ht1
  have K2':=(K1.trans K2).trans (Kp.of_le M1)
  refine SV.cons ?_
  refine S1.expr ?_ _ hs
  refine EV.methS rfl ?_
  refine (B2.le M1).meth mokPut ?_
  refine EVs.consS rfl ?_
  refine EVs.cons ?_
  refine EV.callB hs nB_str ?_
  refine EVs.s rfl ?_
  refine CallV.strOf (log2_small hkey.1 (by lia)) ?_
  refine EVs.s rfl ?_
  refine fnPut _ _ _ _ _ (rm.le (by decide)) (iX4b b z (numStr key) r2 rfl (Tw.go (B2.le M1) q2 (fun r3 S3' a3 m3 q3 B3 K3 e3=>?_) fun C S9 m9 q9 B9 K9=>q9 m9 B9 (K2'.trans K9)))
  have K3':=K2'.trans K3
  refine SV.cons (S1.ite (BV.cmpS rfl rfl (Op2.isNotNone ?_ (Tr.bool ?_))))
  ·cases below r1 key <;> nofun
  cases hb : below r1 key with
  | none =>
   rw [hb] at q3
   refine ifF (show ¬ ((!isNoneB (oi none)) = true) from Bool.false_ne_true) ?_
   exact SV.nil (SV.nil (T.wp_pure.mp q3 _ _ B3 K3' rfl))
  | some bl =>
   rw [hb] at q3
   replace q3:=T.wp_bind.mp q3
   refine ifT (show (!isNoneB (oi (some bl))) = true from rfl) ?_
   refine SV.cons ?_
   refine S1.assign (hwr:=hw) hs ?_
   refine EV.callF hs nF203 ?_
   refine EVs.s rfl ?_
   refine fnListOf _ _ _ _ _ (rm.le (by decide)) (iX3b b z bl rfl (Tw.go B3 q3 (fun r4 S4' a4 m4 q4 B4 K4 e4=>?_) fun C S9 m9 q9 B9 K9=>q9 m9 B9 (K3'.trans K9)))
   subst e4
   have K4':=K3'.trans K4
   replace q4:=T.wp_bind.mp q4
   refine SV.cons ?_
   refine S1.assign (hwr:=hw) hs ?_
   refine EV.callF hs nF172 ?_
   refine EVs.s rfl ?_
   refine fnPoints _ _ _ _ _ (rm.le (by decide)) (iX2b b r4 rfl (Tw.go B4 q4 (fun r5 S5' a5 m5 q5 B5 K5 e5=>?_) fun C S9 m9 q9 B9 K9=>q9 m9 B9 (K4'.trans K9)))
   have K5':=K4'.trans K5
   obtain ⟨l5,ee390,rs5,el5,hall5⟩:=e5;subst ee390
   refine eX0b (T.wp_need.mp q5) fun hlen5 q5=>?_
   refine SV.cons ?_
   refine S1.assignComp [("key",.int key)] hs ?_ (Loc.le_cons rfl (Loc.le_nil _))
   refine EV.name rfl (iX1b (rs5.map .ref) (by rw [List.length_map,hall5.len];lia) (ItV.list el5 (CompP.sift (fun p=>decide (key < p.birth)) rfl rfl rs5 r5 [] hall5 (fun r p zq115 cx' hs' hA=>eX4a zq115 fun d t1 t2 pls Hp=>BV.cmp (EV.attrS rfl (AttrV.inst Hp.i Hp.d rfl aokPbirth (by nofun) (EV.name rfl (Op2.gt (Tr.bool (iX0b rfl rfl))))))) (fun r cx' hs'=>EV.name rfl (iX0b rfl rfl)) fun rsD haD D hD=>?_)))
   rw [List.nil_append] at *
   have M6:=MLe.new (o:=.list (rsD.map .ref)) hD
   have B6:=B5.le M6
   have K6':=K5'.trans (Kp.of_le M6)
   have hally : PtrsAt (mset m5 D (.list (rsD.map .ref))) D (younger key r5):=(iX1b rsD (mset_same ..) (haD.imp fun _ _ x=>x.le M6))
   have hallo : PtrsAt (mset m5 D (.list (rsD.map .ref))) l5 r5:=(iX1b rs5 (M6 _ _ el5) (hall5.imp fun _ _ x=>x.le M6))
   have hee : (rsD.map AV.ref).isEmpty = (younger key r5).isEmpty:=by have:=haD.len;unfold younger;cases rsD <;> cases hq : (r5.filter fun p=>decide (key < p.birth)) <;> simp_all
   have hyl : (younger key r5).length <= 1000:=Nat.le_trans (List.length_filter_le _ _) hlen5
   have hel : (elder key r5).length <= 1000:=Nat.le_trans (List.length_filter_le _ _) hlen5
   refine SV.cons ?_
   refine S1.ite ?_
   refine BV.cmp ?_
   refine EV.name rfl ?_
   refine EV.list ?_
   refine EVs.nil (iX0b (nle rfl) (fun l2 hl2=>?_))
   have nll : D ≠ l2:=fun q=>by rw [<- q,mset_same] at hl2;cases hl2
   refine Op2.neNil ((mset_ne nll).trans (mset_same ..)) (mset_same ..) (Tr.bool ?_)
   rw [hee]
   have M7:=MLe.new (o:=.list []) hl2
   have K7':=K6'.trans (Kp.of_le M7)
   have B7:=B6.le M7
   by_cases hemp : (younger key r5).isEmpty = true
   ·rw [if_pos hemp] at q5
    rw [hemp];refine ifF (by decide) ?_
    exact SV.nil (SV.nil (SV.nil (T.wp_pure.mp q5 _ _ B7 K7' rfl)))
   rw [if_neg hemp] at q5
   refine ifT (by simpa using hemp) ?_
   replace q5:=T.wp_bind.mp q5
   replace hally:=hally.keep (Kp.of_le M7)
   replace hallo:=hallo.keep (Kp.of_le M7)
   refine SV.cons ?_
   refine S1.expr ?_ _ hs
   refine EV.callF hs nF179 ?_
   refine EVs.s rfl ?_
   refine fnEmpty _ _ _ _ _ (rm.le (by decide)) (iX2b b r4 rfl (Tw.go B7 q5 (fun r8 S8' a8 m8 q8 B8 K8 e8=>?_) fun C S9 m9 q9 B9 K9=>q9 m9 B9 (K7'.trans K9)))
   have K8':=K7'.trans K8
   replace q8:=T.wp_bind.mp q8
   replace hally:=hally.keep K8
   refine eX1b (hallo.keep K8) fun rs8 el8 hall8=>?_
   refine SV.cons ?_
   refine S1.expr ?_ _ hs
   refine EV.callF hs nF167 ?_
   refine EVs.consS rfl ?_
   refine EVs.consS rfl ?_
   refine EVs.cons ?_
   refine EV.comp [("key",.int key)] hs ?_ (Loc.le_cons rfl (Loc.le_nil _))
   refine EV.name rfl (iX1b (rs8.map .ref) (by rw [List.length_map,hall8.len];lia) (ItV.list el8 (CompP.sift (fun p=>decide (p.birth <= key)) rfl rfl rs8 r5 [] hall8 (fun r p zq116 cx' hs' hA=>eX4a zq116 fun d t1 t2 pls Hp=>BV.cmp (EV.attrS rfl (AttrV.inst Hp.i Hp.d rfl aokPbirth (by nofun) (EV.name rfl (Op2.le (Tr.bool (iX0b rfl rfl))))))) (fun r cx' hs'=>EV.name rfl (iX0b rfl rfl)) fun rsD2 haD2 D2 hD2=>?_)))
   rw [List.nil_append] at *
   have M9:=MLe.new (o:=.list (rsD2.map .ref)) hD2
   refine EVs.nil ?_
   refine fnAddPts _ _ _ _ _ (rm.le (by decide)) (iX4d b r4 D2 (elder key r5) rfl (iX1b rsD2 (mset_same ..) (haD2.imp fun _ _ x=>x.le M9)) hel (Tw.go (B8.le M9) q8 (fun r10 S10' a10 m10 q10 B10 K10 e10=>?_) fun C S9 m9 q9 B9 K9=>q9 m9 B9 ((K8'.trans (Kp.of_le M9)).trans K9)))
   have K10':=(K8'.trans (Kp.of_le M9)).trans K10
   replace hally:=hally.keep ((Kp.of_le M9).trans K10)
   refine SV.cons ?_
   refine S1.expr ?_ _ hs
   refine EV.callF hs nF167 ?_
   refine EVs.s rfl ?_
   refine fnAddPts _ _ _ _ _ (rm.le (by decide)) (iX4d b r2 D (younger key r5) rfl hally hyl (Tw.go B10 q10 (fun r11 S11' a11 m11 q11 B11 K11 e11=>?_) fun C S9 m9 q9 B9 K9=>q9 m9 B9 (K10'.trans K9)))
   exact SV.nil (SV.nil (SV.nil (q11 _ _ B11 (K10'.trans K11) rfl)))
noncomputable def tTakeKey (z key : Int) : T Unit:=(tListOf z key).bind fun n=>(tDeadKeys z).bind fun ks=>(tPoints n).bind fun ps=>.need (ps.length <= 1000 /\ 0 <= key /\ key < 100) (if ((below ks key).isNone && !ps.isEmpty) = true then .fail 80 else
 (tTake z (numStr key)).bind fun _=>(tDrop n).bind fun _=>match below ks key with
  | none=>T.pure ()
  | some bl=>(tListOf z bl).bind fun e=>tAddPts e ps)
noncomputable def specTakeKey : Spec:=fun args mem Q X=>∃ b z key,args = [.ref b,.int z,.int key] /\ Tw b (tTakeKey z key) (fun _ a _=>a = .none) mem Q X
theorem fnTakeKey : FnC 7 227 specTakeKey:=by
 refine FnC.go (d:=st 36) (qual:=S "take_key") ["base","dead","key"] (fun P=>rfl) (fun P=>by rfl) (by rfl) ?_ ?_
 ·exact fun _ _ _ _=>BindsTo.of_eq (by rfl)
 ·intro args mem Q X zz391;obtain ⟨b,z,key,ee392,S,B0,h⟩:=zz391;subst ee392
  refine ⟨rfl,fun cx hs hw rm=>?_⟩
  replace h:=T.wp_bind.mp h
  refine SV.cons ?_
  refine S1.swap ["gone","below"] hs ?_
  refine EV.tuple ?_
  refine EVs.cons ?_
  refine EV.callF hs nF203 ?_
  refine EVs.s rfl ?_
  refine fnListOf _ _ _ _ _ (rm.le (by decide)) (iX3b b z key rfl (Tw.go B0 h (fun r1 S1' a1 m1 q1 B1 K1 e1=>?_) fun C S9 m9 q9 B9 K9=>q9 m9 B9 (K9)))
  subst e1
  replace q1:=T.wp_bind.mp q1
  refine EVs.cons ?_
  refine EV.callF hs nF208 ?_
  refine EVs.cons ?_
  refine EV.callF hs nF196 ?_
  refine EVs.s rfl ?_
  refine fnDeadKeys _ _ _ _ _ (rm.le (by decide)) (iX2b b z rfl (Tw.go B1 q1 (fun r2 S2' a2 m2 q2 B2 K2 e2=>?_) fun C S9 m9 q9 B9 K9=>q9 m9 B9 (K1.trans K9)))
  refine eX0c e2 fun zz393 hlen2 hk2=>?_;refine eX1b zz393 ?_;clear zz393;intro l2 ee394 el2;subst ee394
  have K2':=K1.trans K2
  replace q2:=T.wp_bind.mp q2
  refine EVs.s rfl ?_
  refine fnKeyFor _ _ _ _ _ (rm.le (by decide)) (iX3d l2 r2 key rfl el2 (by lia) ?_)
  refine EVs.nil (iX0b (nle rfl) (fun t1 ht1=>(iX2d t1 _ rfl (mset_same ..) rfl ?_)))
  have M1:=MLe.new (o:=.tuple [.int r1,oi (below r2 key)]) ht1
  have K3':=K2'.trans (Kp.of_le M1)
  refine SV.cons ?_
  refine S1.assign (hwr:=hw) hs ?_
  refine EV.callF hs nF172 ?_
  refine EVs.s rfl ?_
  refine fnPoints _ _ _ _ _ (rm.le (by decide)) (iX2b b r1 rfl (Tw.go (B2.le M1) q2 (fun r3 S3' a3 m3 q3 B3 K3 e3=>?_) fun C S9 m9 q9 B9 K9=>q9 m9 B9 (K3'.trans K9)))
  have K4':=K3'.trans K3
  obtain ⟨l3,ee395,rs3,el3,hall3⟩:=e3;subst ee395
  refine eX0b (T.wp_need.mp q3) fun zz396 q3=>?_;refine eX0b zz396 fun hlen3 hkey=>?_
  have hee : (rs3.map AV.ref).isEmpty = r3.isEmpty:=by have:=hall3.len;cases rs3 <;> cases r3 <;> simp_all
  refine SV.cons ?_
  refine S1.ite ?_
  refine BV.and ?_
  refine BVand.cons ?_
  refine BV.cmpS rfl rfl ?_
  refine Op2.isNone ?_ (Tr.bool ?_)
  ·cases below r2 key <;> nofun
  cases hb : below r2 key with
  | none =>
   rw [hb] at q3
   refine ifT (show isNoneB (oi none) = true from rfl) ?_
   refine BVand.cons ?_
   refine BV.cmp ?_
   refine EV.name rfl ?_
   refine EV.list ?_
   refine EVs.nil (iX0b (nle rfl) (fun l4 hl4=>?_))
   have nll : l3 ≠ l4:=fun q=>by rw [<- q,el3] at hl4;cases hl4
   have M4:=MLe.new (o:=.list []) hl4
   have B4:=B3.le M4
   have K7':=K4'.trans (Kp.of_le M4)
   refine Op2.neNil ((mset_ne nll).trans el3) (mset_same ..) (Tr.bool ?_)
   rw [hee]
   by_cases hemp : r3.isEmpty = true
   ·rw [hemp] at q3 ⊢
    rw [if_neg (by decide)] at q3
    refine ifF Bool.false_ne_true ?_
    refine ifF Bool.false_ne_true ?_
    refine SV.nil ?_
    replace q3:=T.wp_bind.mp q3
    refine SV.cons ?_
    refine S1.expr ?_ _ hs
    refine EV.methS rfl ?_
    refine B4.meth mokTake ?_
    refine EVs.consS rfl ?_
    refine EVs.cons ?_
    refine EV.callB hs nB_str ?_
    refine EVs.s rfl ?_
    refine CallV.strOf (log2_small hkey.1 (by lia)) ?_
    refine EVs.nil ?_
    refine fnTake _ _ _ _ _ (rm.le (by decide)) (iX3b b z (numStr key) rfl (Tw.go B4 q3 (fun r5 S5' a5 m5 q5 B5 K5 e5=>?_) fun C S9 m9 q9 B9 K9=>q9 m9 B9 (K7'.trans K9)))
    have K5':=K7'.trans K5
    replace q5:=T.wp_bind.mp q5
    refine SV.cons ?_
    refine S1.expr ?_ _ hs
    refine EV.methS rfl ?_
    refine B5.meth mokDrop ?_
    refine EVs.s rfl ?_
    refine fnDrop _ _ _ _ _ (rm.le (by decide)) (iX2b b r1 rfl (Tw.go B5 q5 (fun r6 S6' a6 m6 q6 B6 K6 e6=>?_) fun C S9 m9 q9 B9 K9=>q9 m9 B9 (K5'.trans K9)))
    have K6':=K5'.trans K6
    refine SV.cons ?_
    refine S1.ite ?_
    refine BV.cmpS rfl rfl ?_
    refine Op2.isNotNone (by nofun) (Tr.bool ?_)
    refine ifF (show ¬ ((!isNoneB (oi none)) = true) from Bool.false_ne_true) ?_
    exact SV.nil (SV.nil (T.wp_pure.mp q6 _ _ B6 K6' rfl))
   ·rw [if_pos (by simpa using hemp)] at q3
    refine ifT (by simpa using hemp) ?_
    refine BVand.nil ?_
    refine ifT rfl ?_
    exact SV.cons (S1.raiseC rfl hs (rm.le (by decide)) nF80 (T.wp_fail.mp q3 _ B4 K7'))
  | some bl =>
   rw [hb] at q3
   refine ifF (show ¬ (isNoneB (oi (some bl)) = true) from Bool.false_ne_true) ?_
   rw [if_neg (by simp)] at q3
   refine ifF Bool.false_ne_true ?_
   refine SV.nil ?_
   replace q3:=T.wp_bind.mp q3
   refine SV.cons ?_
   refine S1.expr ?_ _ hs
   refine EV.methS rfl ?_
   refine B3.meth mokTake ?_
   refine EVs.consS rfl ?_
   refine EVs.cons ?_
   refine EV.callB hs nB_str ?_
   refine EVs.s rfl ?_
   refine CallV.strOf (log2_small hkey.1 (by lia)) ?_
   refine EVs.nil ?_
   refine fnTake _ _ _ _ _ (rm.le (by decide)) (iX3b b z (numStr key) rfl (Tw.go B3 q3 (fun r5 S5' a5 m5 q5 B5 K5 e5=>?_) fun C S9 m9 q9 B9 K9=>q9 m9 B9 (K4'.trans K9)))
   have K5':=K4'.trans K5
   replace q5:=T.wp_bind.mp q5
   refine SV.cons ?_
   refine S1.expr ?_ _ hs
   refine EV.methS rfl ?_
   refine B5.meth mokDrop ?_
   refine EVs.s rfl ?_
   refine fnDrop _ _ _ _ _ (rm.le (by decide)) (iX2b b r1 rfl (Tw.go B5 q5 (fun r6 S6' a6 m6 q6 B6 K6 e6=>?_) fun C S9 m9 q9 B9 K9=>q9 m9 B9 (K5'.trans K9)))
   have K6':=K5'.trans K6
   refine SV.cons ?_
   refine S1.ite ?_
   refine BV.cmpS rfl rfl ?_
   refine Op2.isNotNone (by nofun) (Tr.bool ?_)
   refine ifT (show (!isNoneB (oi (some bl))) = true from rfl) ?_
   replace q6:=T.wp_bind.mp q6
   have hps : PtrsAt m6 l3 r3:=PtrsAt.keep (iX1b rs3 el3 hall3) (K5.trans K6)
   refine SV.cons ?_
   refine S1.expr ?_ _ hs
   refine EV.callF hs nF167 ?_
   refine EVs.consS rfl ?_
   refine EVs.cons ?_
   refine EV.callF hs nF203 ?_
   refine EVs.s rfl ?_
   refine fnListOf _ _ _ _ _ (rm.le (by decide)) (iX3b b z bl rfl (Tw.go B6 q6 (fun r7 S7' a7 m7 q7 B7 K7 e7=>?_) fun C S9 m9 q9 B9 K9=>q9 m9 B9 (K6'.trans K9)))
   subst e7
   refine EVs.s rfl ?_
   refine fnAddPts _ _ _ _ _ (rm.le (by decide)) (iX4d b r7 l3 r3 rfl (hps.keep K7) hlen3 (Tw.go B7 q7 (fun r8 S8' a8 m8 q8 B8 K8 e8=>?_) fun C S9 m9 q9 B9 K9=>q9 m9 B9 ((K6'.trans K7).trans K9)))
   exact SV.nil (SV.nil (q8 _ _ B8 ((K6'.trans K7).trans K8) rfl))
noncomputable def T.safe {α : Type} (t : T α) : T α:=fun S=>match t S with
 | some (.ok a,S')=>some (.ok a,S')
 | _=>none
theorem T.wp_safe {α : Type} {t : T α} {S : BSt} {Q : α -> BSt -> Prop} {X : Addr -> BSt -> Prop} : t.safe.wp S Q X ↔ t.wp S Q fun _ _=>False:=by
 unfold T.wp T.safe
 cases t S with
 | none=>exact Iff.rfl
 | some r =>
  obtain ⟨r,S'⟩:=r
  cases r <;> exact Iff.rfl
theorem Loc.le_both {a b : Loc} {x : Str} {v : AV} (h : Loc.le a b) : Loc.le ((x,v) :: a) ((x,v) :: b):=fun y u e=>by
 rw [List.lookup_cons] at e ⊢
 cases q : y == x with
 | true=>rw [q] at e;exact e
 | false=>rw [q] at e;exact h y u e
theorem BaseAt.updList {m : Mem} {b D : Addr} {S : BSt} {xs : List AV} {o : AO} (B : BaseAt m b S) (e : m D = some (.list xs)) : BaseAt (mset m D o) b S:=by
 refine eX1b B ?_;clear B;intro S0 B ee397;subst ee397
 have n : ∀ {a p},m a = some p -> p ≠ .list xs -> a ≠ D:=fun h1 h2 q=>h2 (by rw [q,e] at h1;exact (Option.some.inj h1).symm)
 exact (iX1b S0 (⟨(mset_ne (n B.i (by nofun))).trans B.i,(mset_ne (n B.d (by nofun))).trans B.d,(mset_ne (n B.n (by nofun))).trans B.n,(mset_ne (n B.z (by nofun))).trans B.z,B.nz,fun p hp=>(iX0b ((mset_ne (n (B.zs p hp).1 (by nofun))).trans (B.zs p hp).1) ((B.zs p hp).2)),B.ap,B.ln,B.lz,B.ll⟩) rfl)
theorem Ptr.updList {m : Mem} {r D : Addr} {p : Pt} {xs : List AV} {o : AO} (h : Ptr m r p) (e : m D = some (.list xs)) : Ptr (mset m D o) r p:=by
 refine eX4a h fun d t1 t2 pls H=>?_
 have n : ∀ {a p},m a = some p -> p ≠ .list xs -> a ≠ D:=fun h1 h2 q=>h2 (by rw [q,e] at h1;exact (Option.some.inj h1).symm)
 exact (iX4a d t1 t2 pls (⟨(mset_ne (n H.i (by nofun))).trans H.i,(mset_ne (n H.d (by nofun))).trans H.d,(mset_ne (n H.t1 (by nofun))).trans H.t1,H.pl.imp fun a c e=>(mset_ne (n e (by nofun))).trans e,(mset_ne (n H.t2 (by nofun))).trans H.t2⟩))
theorem Kp.updOut {mem m : Mem} {D : Addr} {o : AO} (K : Kp mem m) (h : mem D = none) : Kp mem (mset m D o):=fun a p e n=>(mset_ne fun q=>by rw [q,h] at e;cases e).trans (K a p e n)
theorem All2.app {α β : Type} {R : α -> β -> Prop} {l l' : List α} {m m' : List β} (x : All2 R l m) (h : All2 R l' m') : All2 R (l ++ l') (m ++ m'):=by
 induction x with
 | nil=>exact h
 | cons x _ ih=>exact .cons x ih
theorem PtrsAt.ext {m : Mem} {D l : Addr} {ps qs : List Pt} (h : PtrsAt m D ps) (k : PtrsAt m l qs) : ∃ xs ys,m D = some (.list xs) /\ m l = some (.list ys) /\ xs.length = ps.length /\ ys.length = qs.length /\ PtrsAt (mset m D (.list (xs ++ ys))) D (ps ++ qs):=by
 refine eX1b h fun rs e1 a1=>?_
 refine eX1b k fun ss e2 a2=>?_
 exact ⟨_,_,e1,e2,by rw [List.length_map,a1.len],by rw [List.length_map,a2.len],rs ++ ss,by rw [mset_same,List.map_append],(a1.imp fun _ _ x=>x.updList e1).app (a2.imp fun _ _ x=>x.updList e1)⟩
noncomputable def tCollect (z : Int) : List Int -> List Pt -> T (List Pt)
 | [],acc=>T.pure acc
 | k :: ks,acc=>((tListOf z k).bind tPoints).safe.bind fun ps=>.need (acc.length + ps.length <= 1000) (tCollect z ks (acc ++ ps))
noncomputable def tDeadPts (z : Int) : T (List Pt):=(tDeadKeys z).bind fun ks=>tCollect z ks []
noncomputable def specDeadPts : Spec:=fun args mem Q X=>∃ b z,args = [.ref b,.int z] /\ Tw b (tDeadPts z) (fun ps a m=>PL m a ps) mem Q X
theorem fnDeadPts : FnC 7 234 specDeadPts:=by
 refine FnC.go (d:=st 37) (qual:=S "dead_points") ["base","dead"] (fun P=>rfl) (fun P=>by rfl) (by rfl) ?_ ?_
 ·exact fun _ _ _ _=>BindsTo.of_eq (by rfl)
 ·intro args mem Q X zz398;obtain ⟨b,z,ee399,S,B0,h⟩:=zz398;subst ee399
  refine ⟨rfl,fun cx hs hw rm=>?_⟩
  replace h:=T.wp_bind.mp h
  refine SV.cons ?_
  refine S1.assign (hwr:=hw) hs ?_
  refine EV.list ?_
  refine EVs.nil (iX0b (nle rfl) (fun D hD=>?_))
  have M0:=MLe.new (o:=.list []) hD
  refine SV.cons ?_
  refine S1.for ?_
  refine EV.callF hs nF196 ?_
  refine EVs.s rfl ?_
  refine fnDeadKeys _ _ _ _ _ (rm.le (by decide)) (iX2b b z rfl (Tw.go (B0.le M0) h (fun r1 S1' a1 m1 q1 B1 K1 e1=>?_) fun C S9 m9 q9 B9 K9=>q9 m9 B9 ((Kp.of_le M0).trans K9)))
  refine eX0c e1 ?_;clear e1;intro zz400 hlen1 hk1;refine eX1b zz400 ?_;clear zz400;intro l1 ee401 el1;subst ee401
  have K1':=(Kp.of_le M0).trans K1
  have hPD : PtrsAt m1 D []:=PtrsAt.keep (iX1b ([]) (mset_same ..) .nil) K1
  have hne : r1 ≠ [] -> l1 ≠ D:=fun hn q=>by
   have h1 : m1 D = some (.list []):=K1 _ _ (mset_same ..) rfl
   rw [<- q,el1] at h1
   cases r1 with
   | nil=>exact hn rfl
   | cons=>cases h1
  refine (iX1a (r1.map .int) (ItV.list el1 ?_))
  refine eX1a ((show ∃ xs,m1 l1 = some (.list xs) from (iX1a _ el1))) fun xs0 hx0=>?_
  replace q1 : (tCollect z r1 []).wp S1' _ _:=q1
  refine eX1a ((show ∃ loc : Loc,loc = ([("found",.ref D),("base",.ref b),("dead",.int z)] : Loc) from (iX1a _ rfl))) fun loc hloc0=>?_
  have hloc : Loc.le ([("found",.ref D),("base",.ref b),("dead",.int z)] : Loc) loc:=hloc0 ▸ Loc.le_refl _
  show ForP cx _ _ _ _ _ _ ([("found",.ref D),("base",.ref b),("dead",.int z)] : Loc) _
  rw [<- hloc0]
  clear hloc0
  generalize hacc : ([] : List Pt) = acc at q1 hPD
  as_aux_lemma =>
  clear hacc hlen1 hk1 K1 el1 h
  induction r1 generalizing acc m1 S1' loc with
  | nil =>
   refine SV.wloc hloc (SV.cons (S1.ret (EV.name rfl ?_)))
   exact T.wp_pure.mp q1 _ _ B1 K1' (iX1b D rfl hPD)
  | cons k ks ih =>
   refine fun G'=>AsgV.name (sc:=dScope (st 37)) hs ?_
   refine SV.wloc (Loc.le_both hloc) ?_
   replace q1:=T.wp_safe.mp (T.wp_bind.mp q1)
   replace q1:=T.wp_bind.mp q1
   refine eX1b (id hPD) fun rsD eD aD=>?_
   refine SV.cons ?_
   refine S1.expr ?_ _ hs
   refine EV.methS rfl ?_
   refine MethV.extend eD ?_
   refine EVs.cons ?_
   refine EV.callF hs nF172 ?_
   refine EVs.consS rfl ?_
   refine EVs.cons ?_
   refine EV.callF hs nF203 ?_
   refine EVs.s rfl ?_
   refine fnListOf _ _ _ _ _ (rm.le (by decide)) (iX3b b z k rfl (Tw.go B1 q1 (fun r2 S2' a2 m2 q2 B2 K2 e2=>?_) fun C S9 m9 q9 B9 K9=>q9.elim))
   subst e2
   refine EVs.nil ?_
   refine fnPoints _ _ _ _ _ (rm.le (by decide)) (iX2b b r2 rfl (Tw.go B2 q2 (fun r3 S3' a3 m3 q3 B3 K3 e3=>?_) fun C S9 m9 q9 B9 K9=>q9.elim))
   refine eX1b e3 ?_;clear e3;intro l3 ee402 h3;subst ee402
   refine eX0b (T.wp_need.mp q3) fun hlen q3=>?_
   have K23:=K2.trans K3
   refine eX2e ((hPD.keep K23).ext h3) fun xs ys x1 x2 x3 x4 x5=>?_
   refine EVs.nil (CallV.extend x1 x2 (by lia) ?_)
   have hkeep : mset m3 D (.list (xs ++ ys)) l1 = some (.list xs0):=(mset_ne (hne (by nofun))).trans (K23 _ _ hx0 rfl)
   refine SV.nil (iX0b (fun d hd=>?_) ?_)
   ·cases hd;exact hkeep.trans hx0.symm
   ·exact ih _ _ (B3.updList x1) ((K1'.trans K23).updOut hD) (fun _=>hne (by nofun)) hkeep _ (Loc.le_skip rfl) _ q3 x5
noncomputable def between (lo hi : Int) (ps : List Pt) : List Pt:=ps.filter fun p=>decide (lo < p.birth) && decide (p.birth <= hi)
noncomputable def tBetween (z lo hi : Int) : T (List Pt):=(tDeadPts z).bind fun ps=>.need (ps.length <= 1000) (T.pure (between lo hi ps))
noncomputable def specBetween : Spec:=fun args mem Q X=>∃ b z lo hi,args = [.ref b,.int z,.int lo,.int hi] /\ Tw b (tBetween z lo hi) (fun ps a m=>PL m a ps) mem Q X
theorem fnBetween : FnC 8 239 specBetween:=by
 refine FnC.go (d:=st 38) (qual:=S "dead_between") ["base","dead","low","high"] (fun P=>rfl) (fun P=>by rfl) (by rfl) ?_ ?_
 ·exact fun _ _ _ _=>BindsTo.of_eq (by rfl)
 ·intro args mem Q X zz403;obtain ⟨b,z,lo,hi,ee404,S,B0,h⟩:=zz403;subst ee404
  refine ⟨rfl,fun cx hs hw rm=>?_⟩
  replace h:=T.wp_bind.mp h
  refine SV.cons ?_
  refine S1.ret ?_
  refine EV.comp [("low",.int lo),("high",.int hi)] hs ?_ (Loc.le_cons rfl (Loc.le_cons rfl (Loc.le_nil _)))
  refine EV.callF hs nF234 ?_
  refine EVs.s rfl ?_
  refine fnDeadPts _ _ _ _ _ (rm.le (by decide)) (iX2b b z rfl (Tw.go B0 h (fun r1 S1' a1 m1 q1 B1 K1 e1=>?_) fun C S9 m9 q9 B9 K9=>q9 m9 B9 (K9)))
  obtain ⟨l1,ee405,rs1,el1,hall1⟩:=e1;subst ee405
  refine eX0b (T.wp_need.mp q1) fun hlen q1=>?_
  refine (iX1b (rs1.map .ref) (by rw [List.length_map,hall1.len];lia) (ItV.list el1 (CompP.sift (fun p=>decide (lo < p.birth) && decide (p.birth <= hi)) rfl rfl rs1 r1 [] hall1 (fun r p hr cx' hs' hA=>?_) (fun r cx' hs'=>EV.name rfl (iX0b rfl rfl)) fun rs2 ha2 D hD=>?_)))
  ·refine eX4a hr fun d t1 t2 pls Hp=>?_
   refine BV.cmp2 (EV.name rfl (EV.attrS rfl (AttrV.inst Hp.i Hp.d rfl aokPbirth (by nofun) (Op2.lt (Tr.bool ?_)))))
   by_cases hc : lo < p.birth
   ·refine ifT (decide_eq_true hc) ?_;rw [decide_eq_true hc]
    exact EV.name rfl (Op2.le (Tr.bool (iX0b (by simp) rfl)))
   ·refine ifF (by simpa using hc) ?_;rw [decide_eq_false hc]
    exact (iX0b (by simp) rfl)
  have M1:=MLe.new (o:=.list ([] ++ rs2.map .ref)) hD
  exact (T.wp_pure.mp q1 _ _ (B1.le M1) (K1.trans (Kp.of_le M1)) ⟨D,rfl,rs2,mset_same ..,ha2.imp fun _ _ x=>x.le M1⟩)
noncomputable def tMoveOne (z k : Int) : T (List Pt):=(tListOf z k).bind fun n=>(tPoints n).bind fun ps=>.need (ps.length <= 1000 /\ 0 <= k /\ k < 100) ((tTake z (numStr k)).bind fun _=>(tDrop n).bind fun _=>T.pure ps)
noncomputable def tMove (z key : Int) : List Int -> List Pt -> T (List Pt)
 | [],acc=>T.pure acc
 | k :: ks,acc=>if key <= k then .need (acc.length <= 1000) ((tMoveOne z k).safe.bind fun ps=>tMove z key ks (acc ++ ps)) else tMove z key ks acc
noncomputable def tMoveAbove (z key : Int) : T (List Pt):=(tDeadKeys z).bind fun ks=>tMove z key ks []
noncomputable def specMoveAbove : Spec:=fun args mem Q X=>∃ b z key,args = [.ref b,.int z,.int key] /\ Tw b (tMoveAbove z key) (fun ps a m=>PL m a ps) mem Q X
theorem fnMoveAbove : FnC 7 246 specMoveAbove:=by
 refine FnC.go (d:=st 39) (qual:=S "move_above") ["base","dead","key"] (fun P=>rfl) (fun P=>by rfl) (by rfl) ?_ ?_
 ·exact fun _ _ _ _=>BindsTo.of_eq (by rfl)
 ·intro args mem Q X zz406;obtain ⟨b,z,key,ee407,S,B0,h⟩:=zz406;subst ee407
  refine ⟨rfl,fun cx hs hw rm=>?_⟩
  replace h:=T.wp_bind.mp h
  refine SV.cons ?_
  refine S1.assign (hwr:=hw) hs ?_
  refine EV.list ?_
  refine EVs.nil (iX0b (nle rfl) (fun D hD=>?_))
  have M0:=MLe.new (o:=.list []) hD
  refine SV.cons ?_
  refine S1.for ?_
  refine EV.callF hs nF196 ?_
  refine EVs.s rfl ?_
  refine fnDeadKeys _ _ _ _ _ (rm.le (by decide)) (iX2b b z rfl (Tw.go (B0.le M0) h (fun r1 S1' a1 m1 q1 B1 K1 e1=>?_) fun C S9 m9 q9 B9 K9=>q9 m9 B9 ((Kp.of_le M0).trans K9)))
  refine eX0c e1 ?_;clear e1;intro zz408 hlen1 hk1;refine eX1b zz408 ?_;clear zz408;intro l1 ee409 el1;subst ee409
  have K1':=(Kp.of_le M0).trans K1
  have hPD : PtrsAt m1 D []:=PtrsAt.keep (iX1b ([]) (mset_same ..) .nil) K1
  have hne : r1 ≠ [] -> l1 ≠ D:=fun hn q=>by
   have h1 : m1 D = some (.list []):=K1 _ _ (mset_same ..) rfl
   rw [<- q,el1] at h1
   cases r1 with
   | nil=>exact hn rfl
   | cons=>cases h1
  refine (iX1a (r1.map .int) (ItV.list el1 ?_))
  refine eX1a ((show ∃ xs,m1 l1 = some (.list xs) from (iX1a _ el1))) fun xs0 hx0=>?_
  replace q1 : (tMove z key r1 []).wp S1' _ _:=q1
  refine eX1a ((show ∃ loc : Loc,loc = ([("found",.ref D),("base",.ref b),("dead",.int z),("key",.int key)] : Loc) from (iX1a _ rfl))) fun loc hloc0=>?_
  have hloc : Loc.le ([("found",.ref D),("base",.ref b),("dead",.int z),("key",.int key)] : Loc) loc:=hloc0 ▸ Loc.le_refl _
  show ForP cx _ _ _ _ _ _ ([("found",.ref D),("base",.ref b),("dead",.int z),("key",.int key)] : Loc) _
  rw [<- hloc0]
  clear hloc0
  generalize hacc : ([] : List Pt) = acc at q1 hPD
  as_aux_lemma =>
  clear hacc hlen1 hk1 K1 el1 h
  induction r1 generalizing acc m1 S1' loc with
  | nil =>
   refine SV.wloc hloc (SV.cons (S1.ret (EV.name rfl ?_)))
   exact T.wp_pure.mp q1 _ _ B1 K1' (iX1b D rfl hPD)
  | cons k ks ih =>
   refine fun G'=>AsgV.name (sc:=dScope (st 39)) hs ?_
   refine SV.wloc (Loc.le_both hloc) ?_
   refine SV.cons (S1.ite (BV.cmpS rfl rfl (Op2.ge (Tr.bool ?_))))
   unfold tMove at q1
   by_cases hc : key <= k
   ·rw [if_pos hc] at q1
    refine ifT (decide_eq_true hc) ?_
    refine eX0b (T.wp_need.mp q1) fun hacc q1=>?_
    replace q1:=T.wp_safe.mp (T.wp_bind.mp q1)
    replace q1:=T.wp_bind.mp q1
    refine SV.cons ?_
    refine S1.assign (hwr:=hw) hs ?_
    refine EV.callF hs nF203 ?_
    refine EVs.s rfl ?_
    refine fnListOf _ _ _ _ _ (rm.le (by decide)) (iX3b b z k rfl (Tw.go B1 q1 (fun r2 S2' a2 m2 q2 B2 K2 e2=>?_) fun C S9 m9 q9 B9 K9=>q9.elim))
    subst e2
    replace q2:=T.wp_bind.mp q2
    refine eX1b (id (hPD.keep K2)) fun rsD eD aD=>?_
    refine SV.cons ?_
    refine S1.expr ?_ _ hs
    refine EV.methS rfl ?_
    refine MethV.extend eD ?_
    refine EVs.cons ?_
    refine EV.callF hs nF172 ?_
    refine EVs.s rfl ?_
    refine fnPoints _ _ _ _ _ (rm.le (by decide)) (iX2b b r2 rfl (Tw.go B2 q2 (fun r3 S3' a3 m3 q3 B3 K3 e3=>?_) fun C S9 m9 q9 B9 K9=>q9.elim))
    refine eX1b e3 ?_;clear e3;intro l3 ee410 h3;subst ee410
    refine eX0b (T.wp_need.mp q3) fun zz411 q3=>?_;refine eX0b zz411 ?_;clear zz411;intro hlen hk0
    replace q3:=T.wp_bind.mp q3
    have K23:=K2.trans K3
    refine eX2e ((hPD.keep K23).ext h3) fun xs ys x1 x2 x3 x4 x5=>?_
    refine EVs.nil (CallV.extend x1 x2 (by lia) ?_)
    have hkeep : mset m3 D (.list (xs ++ ys)) l1 = some (.list xs0):=(mset_ne (hne (by nofun))).trans (K23 _ _ hx0 rfl)
    have B4 : BaseAt (mset m3 D (.list (xs ++ ys))) b S3':=B3.updList x1
    have K4' : Kp mem (mset m3 D (.list (xs ++ ys))):=(K1'.trans K23).updOut hD
    refine SV.cons ?_
    refine S1.expr ?_ _ hs
    refine EV.methS rfl ?_
    refine B4.meth mokTake ?_
    refine EVs.consS rfl ?_
    refine EVs.cons ?_
    refine EV.callB hs nB_str ?_
    refine EVs.s rfl ?_
    refine CallV.strOf (log2_small hk0.1 (by lia)) ?_
    refine EVs.nil ?_
    refine fnTake _ _ _ _ _ (rm.le (by decide)) (iX3b b z (numStr k) rfl (Tw.go B4 q3 (fun r5 S5' a5 m5 q5 B5 K5 e5=>?_) fun C S9 m9 q9 B9 K9=>q9.elim))
    replace q5:=T.wp_bind.mp q5
    refine SV.cons ?_
    refine S1.expr ?_ _ hs
    refine EV.methS rfl ?_
    refine B5.meth mokDrop ?_
    refine EVs.s rfl ?_
    refine fnDrop _ _ _ _ _ (rm.le (by decide)) (iX2b b r2 rfl (Tw.go B5 q5 (fun r6 S6' a6 m6 q6 B6 K6 e6=>?_) fun C S9 m9 q9 B9 K9=>q9.elim))
    replace q6:=T.wp_pure.mp q6
    have K56:=K5.trans K6
    refine SV.nil (SV.nil (iX0b (fun d hd=>?_) ?_))
    ·cases hd;exact (K56 _ _ hkeep rfl).trans hx0.symm
    ·exact ih _ _ B6 (K4'.trans K56) (fun _=>hne (by nofun)) (K56 _ _ hkeep rfl) _ (Loc.le_trans (Loc.le_skip rfl) (Loc.le_skip rfl)) _ q6 (x5.keep K56)
   ·rw [if_neg hc] at q1
    refine ifF (by simpa using hc) ?_
    exact SV.nil (SV.nil (iX0b (fun d hd=>rfl) (ih _ _ B1 K1' (fun _=>hne (by nofun)) hx0 _ (Loc.le_skip rfl) _ q1 hPD)))
noncomputable def tDropAll (z : Int) : List Int -> T Unit
 | []=>T.pure ()
 | k :: ks=>((tListOf z k).bind fun n=>tDrop n).safe.bind fun _=>tDropAll z ks
noncomputable def tDropDead (z : Int) : T Unit:=(tDeadKeys z).bind fun ks=>(tDropAll z ks).bind fun _=>tDrop z
noncomputable def specDropDead : Spec:=fun args mem Q X=>∃ b z,args = [.ref b,.int z] /\ Tw b (tDropDead z) (fun _ a _=>a = .none) mem Q X
theorem fnDropDead : FnC 7 253 specDropDead:=by
 refine FnC.go (d:=st 40) (qual:=S "drop_dead") ["base","dead"] (fun P=>rfl) (fun P=>by rfl) (by rfl) ?_ ?_
 ·exact fun _ _ _ _=>BindsTo.of_eq (by rfl)
 ·intro args mem Q X zz412;obtain ⟨b,z,ee413,S,B0,h⟩:=zz412;subst ee413
  refine ⟨rfl,fun cx hs hw rm=>?_⟩
  replace h:=T.wp_bind.mp h
  refine SV.cons ?_
  refine S1.for ?_
  refine EV.callF hs nF196 ?_
  refine EVs.s rfl ?_
  refine fnDeadKeys _ _ _ _ _ (rm.le (by decide)) (iX2b b z rfl (Tw.go B0 h (fun r1 S1' a1 m1 q1 B1 K1 e1=>?_) fun C S9 m9 q9 B9 K9=>q9 m9 B9 (K9)))
  refine eX0c e1 ?_;clear e1;intro zz414 hlen1 hk1;refine eX1b zz414 ?_;clear zz414;intro l1 ee415 el1;subst ee415
  refine (iX1a (r1.map .int) (ItV.list el1 ?_))
  refine eX1a ((show ∃ xs,m1 l1 = some (.list xs) from (iX1a _ el1))) fun xs0 hx0=>?_
  replace q1:=T.wp_bind.mp q1
  refine eX1a ((show ∃ loc : Loc,loc = ([("base",.ref b),("dead",.int z)] : Loc) from (iX1a _ rfl))) fun loc hloc0=>?_
  have hloc : Loc.le ([("base",.ref b),("dead",.int z)] : Loc) loc:=hloc0 ▸ Loc.le_refl _
  show ForP cx _ _ _ _ _ _ ([("base",.ref b),("dead",.int z)] : Loc) _
  rw [<- hloc0]
  clear hloc0
  clear hlen1 hk1 el1 h
  have Kc : Kp mem m1:=K1
  clear K1
  induction r1 generalizing m1 S1' loc with
  | nil =>
   refine SV.wloc hloc ?_
   replace q1:=T.wp_pure.mp q1
   refine SV.cons ?_
   refine S1.expr ?_ _ hs
   refine EV.methS rfl ?_
   refine B1.meth mokDrop ?_
   refine EVs.s rfl ?_
   refine fnDrop _ _ _ _ _ (rm.le (by decide)) (iX2b b z rfl (Tw.go B1 q1 (fun r6 S6' a6 m6 q6 B6 K6 e6=>?_) fun C S9 m9 q9 B9 K9=>q9 m9 B9 (Kc.trans K9)))
   exact SV.nil (q6 _ _ B6 (Kc.trans K6) rfl)
  | cons k ks ih =>
   refine fun G'=>AsgV.name (sc:=dScope (st 40)) hs ?_
   refine SV.wloc (Loc.le_both hloc) ?_
   replace q1:=T.wp_safe.mp (T.wp_bind.mp q1)
   replace q1:=T.wp_bind.mp q1
   refine SV.cons ?_
   refine S1.expr ?_ _ hs
   refine EV.methS rfl ?_
   refine B1.meth mokDrop ?_
   refine EVs.cons ?_
   refine EV.callF hs nF203 ?_
   refine EVs.s rfl ?_
   refine fnListOf _ _ _ _ _ (rm.le (by decide)) (iX3b b z k rfl (Tw.go B1 q1 (fun r2 S2' a2 m2 q2 B2 K2 e2=>?_) fun C S9 m9 q9 B9 K9=>q9.elim))
   subst e2
   refine EVs.nil ?_
   refine fnDrop _ _ _ _ _ (rm.le (by decide)) (iX2b b r2 rfl (Tw.go B2 q2 (fun r3 S3' a3 m3 q3 B3 K3 e3=>?_) fun C S9 m9 q9 B9 K9=>q9.elim))
   have K23:=K2.trans K3
   refine SV.nil (iX0b (fun d hd=>?_) ?_)
   ·cases hd;exact (K23 _ _ hx0 rfl).trans hx0.symm
   ·exact ih _ _ B3 (K23 _ _ hx0 rfl) q3 _ (Loc.le_skip rfl) (Kc.trans K23)
noncomputable def tPutAll (z : Int) : List Pt -> T Unit
 | []=>T.pure ()
 | p :: ps=>(tPutDead z p).safe.bind fun _=>tPutAll z ps
noncomputable def tMerge (z o : Int) : T Unit:=(tDeadPts o).bind fun ps=>(tPutAll z ps).bind fun _=>tDropDead o
noncomputable def specMerge : Spec:=fun args mem Q X=>∃ b z o,args = [.ref b,.int z,.int o] /\ Tw b (tMerge z o) (fun _ a _=>a = .none) mem Q X
theorem fnMerge : FnC 8 260 specMerge:=by
 refine FnC.go (d:=st 41) (qual:=S "merge_dead") ["base","dead","other"] (fun P=>rfl) (fun P=>by rfl) (by rfl) ?_ ?_
 ·exact fun _ _ _ _=>BindsTo.of_eq (by rfl)
 ·intro args mem Q X zz416;obtain ⟨b,z,o,ee417,S,B0,h⟩:=zz416;subst ee417
  refine ⟨rfl,fun cx hs hw rm=>?_⟩
  replace h:=T.wp_bind.mp h
  refine SV.cons ?_
  refine S1.for ?_
  refine EV.callF hs nF234 ?_
  refine EVs.s rfl ?_
  refine fnDeadPts _ _ _ _ _ (rm.le (by decide)) (iX2b b o rfl (Tw.go B0 h (fun r1 S1' a1 m1 q1 B1 K1 e1=>?_) fun C S9 m9 q9 B9 K9=>q9 m9 B9 (K9)))
  obtain ⟨l1,ee418,rs1,el1,hall1⟩:=e1;subst ee418
  refine (iX1a (rs1.map .ref) (ItV.list el1 ?_))
  refine eX1a ((show ∃ xs,m1 l1 = some (.list xs) from (iX1a _ el1))) fun xs0 hx0=>?_
  replace q1:=T.wp_bind.mp q1
  refine eX1a ((show ∃ loc : Loc,loc = ([("base",.ref b),("dead",.int z),("other",.int o)] : Loc) from (iX1a _ rfl))) fun loc hloc0=>?_
  have hloc : Loc.le ([("base",.ref b),("dead",.int z),("other",.int o)] : Loc) loc:=hloc0 ▸ Loc.le_refl _
  show ForP cx _ _ _ _ _ _ ([("base",.ref b),("dead",.int z),("other",.int o)] : Loc) _
  rw [<- hloc0]
  clear hloc0
  clear el1 h
  have Kc : Kp mem m1:=K1
  clear K1
  induction rs1 generalizing m1 S1' loc r1 with
  | nil =>
   cases hall1
   refine SV.wloc hloc ?_
   replace q1:=T.wp_pure.mp q1
   refine SV.cons ?_
   refine S1.expr ?_ _ hs
   refine EV.callF hs nF253 ?_
   refine EVs.s rfl ?_
   refine fnDropDead _ _ _ _ _ (rm.le (by decide)) (iX2b b o rfl (Tw.go B1 q1 (fun r6 S6' a6 m6 q6 B6 K6 e6=>?_) fun C S9 m9 q9 B9 K9=>q9 m9 B9 (Kc.trans K9)))
   exact SV.nil (q6 _ _ B6 (Kc.trans K6) rfl)
  | cons r rs ih =>
   cases hall1 with
   | cons hr hall =>
   refine fun G'=>AsgV.name (sc:=dScope (st 41)) hs ?_
   refine SV.wloc (Loc.le_both hloc) ?_
   replace q1:=T.wp_safe.mp (T.wp_bind.mp q1)
   refine SV.cons ?_
   refine S1.expr ?_ _ hs
   refine EV.callF hs nF215 ?_
   refine EVs.s rfl ?_
   refine fnPutDead _ _ _ _ _ (rm.le (by decide)) (iX4c b z r _ rfl hr (Tw.go B1 q1 (fun r2 S2' a2 m2 q2 B2 K2 e2=>?_) fun C S9 m9 q9 B9 K9=>q9.elim))
   refine SV.nil (iX0b (fun d hd=>?_) ?_)
   ·cases hd;exact (K2 _ _ hx0 rfl).trans hx0.symm
   ·exact ih _ _ _ B2 (hall.imp fun _ _ x=>x.keep K2) (K2 _ _ hx0 rfl) q2 _ (Loc.le_skip rfl) (Kc.trans K2)
noncomputable def WkO (o o' : AO) : Prop:=o' = o \/ ∃ b n es,o = .dictI b none es /\ o' = .dictI b (some n) es
noncomputable def Wk (m0 m : Mem) : Prop:=∀ a o,m0 a = some o -> ∃ o',m a = some o' /\ WkO o o'
theorem WkO.rep {w : World} {x : Obj} {o o' : AO} (h : WkO o o') (r : Rep w x o') : Rep w x o:=by
 rcases h with rfl | ⟨b,n,es,rfl,rfl⟩
 ·exact r
 ·refine eX2d r fun ents k h1 h2 h3 h4=>?_
  exact (iX2d ents k h1 h2 h3 (fun _ q=>by cases q))
theorem InSt.weak {cx : Cx} {loc : Loc} {mem mem' : Mem} {s : Shared} (I : InSt cx loc mem s) (l : Wk mem' mem) : InSt cx loc mem' s:=by
 have nn : ∀ a,mem a = none -> mem' a = none:=fun a e=>by
  cases q : mem' a with
  | none=>rfl
  | some o=>refine eX1b (l a o q) fun o' h1 _=>?_;rw [e] at h1;cases h1
 refine ⟨I.ok,⟨I.st.kept,fun a ao e=>?_,I.st.tab⟩,I.fr,⟨I.fm.ns,I.fm.own,nn _ I.fm.ownM,fun y c e=>let ⟨c1,r⟩:=I.fm.cells y c e;(iX0b (nn _ c1) r),I.fm.apart,I.fm.bound⟩,I.gens,I.drawn,I.os⟩
 refine eX1b (l a ao e) fun o' h1 h2=>?_
 obtain ⟨h3,x,h4,h5⟩:=I.st.tr a o' h1
 exact ⟨h3,x,h4,h2.rep h5⟩
noncomputable abbrev KWkL (Q : LQ) : LQ:=fun l m=>∃ m0,Wk m0 m /\ Q l m0
noncomputable abbrev KWk (Q : MQ AV) : MQ AV:=fun a m=>∃ m0,Wk m0 m /\ Q a m0
theorem EV.weak {cx : Cx} {e : Expr} {loc : Loc} {mem : Mem} {Q : MQ AV} {X : MQ Addr} (h : EV cx e loc mem (KWk Q) X) : EV cx e loc mem Q X:=fun s I =>
 wpAny_mono (h s I) (fun v s' z=>eX1b z fun m I1 z=>eX1b z fun m0 hm q=>(iX1b m0 (I1.weak hm) q)) fun _ _ x=>x
theorem SV.weak1 {cx : Cx} {ss : List Stmt} {loc : Loc} {mem mem' : Mem} {Qn : LQ} {Qr : MQ AV} {X : MQ Addr} (l : Wk mem' mem) (h : SV cx ss loc mem' Qn Qr X) : SV cx ss loc mem Qn Qr X:=fun s I=>h s (I.weak l)
theorem SV.weak {cx : Cx} {ss : List Stmt} {loc : Loc} {mem : Mem} {Qn : LQ} {Qr : MQ AV} {X : MQ Addr} (h : SV cx ss loc mem (KWkL Qn) (KWk Qr) X) : SV cx ss loc mem Qn Qr X:=fun s I =>
 wpAny_mono (h s I) (fun f s' p=>by
  cases f with
  | next=>obtain ⟨l,m,I1,m0,hm,q⟩:=p;exact (iX2b l m0 (I1.weak hm) q)
  | ret v=>obtain ⟨l,m,I1,m0,hm,q⟩:=p;exact (iX2b l m0 (I1.weak hm) q)
  | _=>exact p.elim) fun _ _ x=>x
theorem Wk.trans {a b c : Mem} (h : Wk a b) (k : MLe b c) : Wk a c:=fun x o e=>let ⟨o',h1,h2⟩:=h x o e;(iX1b o' (k _ _ h1) h2)
theorem Wk.ep {m : Mem} {d : Addr} {b : Bool} {es : List (Int × AV)} {n : Nat} (e : m d = some (.dictI b none es)) : Wk m (mset m d (.dictI b (some n) es)):=fun a o h=>by
 by_cases q : a = d
 ·subst q;rw [e] at h;cases h;exact (iX1b _ (mset_same ..) (.inr (iX3b b n es rfl rfl)))
 ·exact (iX1b o ((mset_ne q).trans h) (.inl rfl))
noncomputable def PenAt (m : Mem) (p s : Addr) (xs : List Int) (at_ : Nat) : Prop:=m p = some (.list [.ref s,.int at_]) /\ m s = some (.list (xs.map .int)) /\ p ≠ s
noncomputable def drawn (xs : List Int) (i : Nat) : Int:=let v:=xs.getD i 0 + 19 * (i : Int);if v < 0 then -v else v
noncomputable def specNext : Spec:=fun args mem Q X=>∃ p s xs i,args = [.ref p] /\ PenAt mem p s xs i /\ i < 1000 /\ xs.length <= 1000 /\ Q (.int (drawn xs i)) (mset mem p (.list [.ref s,.int ((i : Int) + 1)]))
theorem fnNext : FnC 3 377 specNext:=by
 refine FnC.go (d:=st 46) (qual:=S "_law_next") ["pen"] (fun P=>rfl) (fun P=>by rfl) (by rfl) ?_ ?_
 ·exact fun _ _ _ _=>BindsTo.of_eq (by rfl)
 ·intro args mem Q X zz419;refine eX4e zz419 ?_;clear zz419;intro p s xs i ee420 hp hi hxl hQ;subst ee420
  refine ⟨rfl,fun cx hs hw rm=>?_⟩
  refine SV.cons ?_
  refine S1.assign (hwr:=hw) hs ?_
  refine EV.subS rfl rfl ?_
  refine SubV.list (v:=.int (i : Int)) hp.1 (by decide) (by decide) rfl ?_
  refine SV.cons ?_
  refine S1.setSub hs ?_
  refine EV.binS rfl rfl ?_
  refine Op2.add ?_
  refine EV.name rfl ?_
  refine EV.cInt ?_
  refine SetV.list (j:=1) hp.1 (nle rfl) (nle rfl) ?_
  have e1 : mset mem p (.list (([.ref s,.int (i : Int)] : List AV).set 1 (.int ((i : Int) + 1)))) p = some (.list [.ref s,.int ((i : Int) + 1)]):=mset_same ..
  have e2 : mset mem p (.list (([.ref s,.int (i : Int)] : List AV).set 1 (.int ((i : Int) + 1)))) s = some (.list (xs.map .int)):=(mset_ne (Ne.symm hp.2.2)).trans hp.2.1
  refine SV.cons ?_
  refine S1.ret ?_
  refine EV.callB hs nB_abs ?_
  refine EVs.cons ?_
  refine EV.bin ?_
  refine EV.ite ?_
  refine BV.cmp ?_
  refine EV.name rfl ?_
  refine EV.callB hs nB_len ?_
  refine EVs.cons ?_
  refine EV.subS rfl rfl ?_
  refine SubV.list (v:=.ref s) e1 (by decide) (by decide) rfl ?_
  refine EVs.nil ?_
  refine CallV.listLen e2 (by rw [List.length_map];lia) ?_
  refine Op2.lt ?_
  refine Tr.bool ?_
  rw [List.length_map]
  by_cases hi2 : (i : Int) < (xs.length : Int)
  ·refine ifT (decide_eq_true hi2) ?_
   have hx : (xs.map AV.int)[(i : Int).toNat]? = some (.int (xs.getD i 0)):=by
    have h3 : i < xs.length:=by lia
    have h4 : (i : Int).toNat = i:=by lia
    rw [h4,List.getElem?_map,List.getElem?_eq_getElem h3,List.getD_eq_getElem?_getD,List.getElem?_eq_getElem h3];rfl
   refine EV.sub ?_
   refine EV.subS rfl rfl ?_
   refine SubV.list (v:=.ref s) e1 (by decide) (by decide) rfl ?_
   refine EV.name rfl ?_
   refine SubV.list e2 (by lia) (by lia) hx ?_
   refine EV.binS rfl rfl ?_
   refine Op2.mul (i:=19) (hm:=IntMulOk.of_left (by decide)) ?_
   refine Op2.add ?_
   refine EVs.nil ?_
   refine CallV.abs ?_
   exact hQ
  ·refine ifF (by simpa using hi2) ?_
   have hx : xs.getD i 0 = 0:=by rw [List.getD_eq_getElem?_getD,List.getElem?_eq_none (by lia)];rfl
   unfold drawn at hQ
   rw [hx] at hQ
   refine EV.cInt ?_
   refine EV.binS rfl rfl ?_
   refine Op2.mul (i:=19) (hm:=IntMulOk.of_left (by decide)) ?_
   refine Op2.add ?_
   refine EVs.nil ?_
   refine CallV.abs ?_
   exact hQ
noncomputable def specPoint : Spec:=fun args mem Q X=>∃ p : Pt,args = [.int p.num,.int p.birth] /\ ∀ r m',MLe mem m' -> Ptr m' r p -> Q (.ref r) m'
theorem Pt.copies_mod (p : Pt) : (p.copies : Int) = 1 + p.num.fmod 2:=by
 have : ∀ N : Fin 18,∀ B : Fin 10,((Pt.mk N B).copies : Int) = 1 + (Pt.mk N B).num.fmod 2:=by decide +kernel
 exact this p.N p.B
theorem fnPoint : FnC 5 382 specPoint:=by
 refine FnC.go (d:=st 47) (qual:=S "_law_point") ["number","birth"] (fun P=>rfl) (fun P=>by rfl) (by rfl) ?_ ?_
 ·exact fun _ _ _ _=>BindsTo.of_eq (by rfl)
 ·intro args mem Q X zz421;refine eX1b zz421 ?_;clear zz421;intro p ee422 hQ;subst ee422
  refine ⟨rfl,fun cx hs hw rm=>?_⟩
  have hp:=p.copies_lt
  have hn:=p.num_lt
  have hcm:=p.copies_mod
  have hrs : Builtin.Range.small 0 (p.copies : Int) 1 = true:=by rcases (by lia : p.copies = 1 \/ p.copies = 2) with q | q <;> rw [q] <;> kernel_rfl
  have hrv : rngVals 0 (Builtin.Range.rangeSize 0 (p.copies : Int) 1).toNat 1 = (List.range p.copies).map fun (c : Nat)=>AV.int (c : Int):=by rcases (by lia : p.copies = 1 \/ p.copies = 2) with q | q <;> rw [q] <;> kernel_rfl
  refine SV.cons ?_
  refine S1.assign (hwr:=hw) hs ?_
  refine EV.callB hs nB_tuple ?_
  refine EVs.cons ?_
  refine EV.comp [("number",.int p.num)] hs ?_ (Loc.le_cons rfl (Loc.le_nil _))
  refine EV.callB hs nB_range ?_
  refine EVs.cons ?_
  refine EV.bin ?_
  refine EV.cInt ?_
  refine EV.binS rfl rfl ?_
  refine Op2.mod (by decide) ?_
  refine Op2.add ?_
  refine EVs.nil ?_
  rw [<- hcm]
  refine CallV.range1 fun rg hrg=>?_
  refine (iX1b ((List.range p.copies).map fun (c : Nat)=>AV.int (c : Int)) (by rw [List.length_map,List.length_range];lia) (ItV.range (mset_same ..) hrs hrv (CompP.grow (Z:=fun v y m=>∃ a,y = .ref a /\ ∀ c : Nat,v = .int (c : Int) -> m a = some (.tuple [.int (c : Int),.int (10 * p.num),.int p.cnt])) (fun v y m m' hm hz=>let ⟨a,e1,e2⟩:=hz;(iX1b a e1 (fun c hc=>hm _ _ (e2 c hc)))) [] (by nofun) (fun v hv m hm cx' hs' hA=>?_) fun zs m1 hm1 hall=>?_)))
  ·refine eX1b (List.mem_map.mp hv) fun c hcr ee423=>?_;subst ee423
   refine AsgV.name hs' (iX0c (Loc.le_skip rfl) rfl ?_)
   refine EV.tuple ?_
   refine EVs.consS rfl ?_
   refine EVs.cons ?_
   refine EV.binS rfl rfl ?_
   refine Op2.mul (i:=10) (hm:=IntMulOk.of_left (by decide)) ?_
   refine EVs.cons ?_
   refine EV.bin ?_
   refine EV.cInt ?_
   refine EV.binS rfl rfl ?_
   refine Op2.mod (by decide) ?_
   refine Op2.add ?_
   refine EVs.nil (iX0b (nle rfl) (fun l hl=>⟨MLe.new hl,l,rfl,fun c2 h2=>?_⟩))
   have h2:=AV.int.inj h2
   have : c = c2:=by lia
   subst this
   exact mset_same ..
  refine eX1b (hall.choose (g:=AV.ref) (P:=fun (a : Addr) (c : Nat)=>m1 a = some (.tuple [.int (c : Int),.int (10 * p.num),.int p.cnt])) fun c hc y zq118=>eX1b zq118 fun a e1 e2=>(iX1b a e1 (e2 c rfl))) fun pls ee424 hpls=>?_;subst ee424
  have hplen : pls.length = p.copies:=by rw [hpls.len,List.length_range]
  intro D hD
  refine EVs.nil (CallV.tupleOf (mset_same ..) (by rw [List.nil_append,List.length_map];lia) fun t1 ht1=>?_)
  rw [List.nil_append] at ht1 ⊢
  have hM : MLe mem (mset (mset m1 D (.list (pls.map .ref))) t1 (.tuple (pls.map .ref))):=(((MLe.new hrg).trans hm1).trans (MLe.new hD)).trans (MLe.new ht1)
  have hT : mset (mset m1 D (.list (pls.map .ref))) t1 (.tuple (pls.map .ref)) t1 = some (.tuple (pls.map .ref)):=mset_same ..
  have hP2:=hpls.imp fun a c e=>((MLe.new (o:=.list (pls.map .ref)) hD).trans (MLe.new (o:=.tuple (pls.map .ref)) ht1)) _ _ e
  generalize mset (mset m1 D (.list (pls.map .ref))) t1 (.tuple (pls.map .ref)) = m2 at hM hT hP2
  as_aux_lemma =>
  clear hall hm1 hpls hD ht1
  refine SV.cons ?_
  refine S1.ret ?_
  refine EV.callF hs nF129 ?_
  refine EVs.consS rfl ?_
  refine EVs.consS rfl ?_
  refine EVs.consS rfl ?_
  refine EVs.consS rfl ?_
  refine EVs.consS rfl ?_
  refine EVs.consS rfl ?_
  refine EVs.consS rfl ?_
  refine EVs.consS rfl ?_
  refine EVs.consS rfl ?_
  refine EVs.cons ?_
  refine EV.tuple ?_
  refine EVs.s rfl (iX0b (nle rfl) (fun t2 ht2=>?_))
  refine EVs.s rfl ?_
  have hM3:=MLe.new (o:=.tuple [.int p.num,.int 0,.int 0,.int 7]) ht2
  exact CallV.ptr (rm.le (by decide)) (hM3 _ _ hT) (hP2.imp fun a c e=>hM3 _ _ e) (mset_same ..) fun r m' hm hr=>hQ r m' ((hM.trans hM3).trans hm) hr
set_option genInjectivity false
set_option genSizeOf false
structure OE where
 k : Int
 l : Addr
 ps : List Pt
noncomputable def ownEs (E : List OE) : List (Int × AV):=E.map fun e=>(e.k,.ref e.l)
structure OwnAt (m : Mem) (o : Addr) (E : List OE) : Prop where
 d : m o = some (.dictI false none (ownEs E))
 ps : ∀ e ∈ E,PtrsAt m e.l e.ps
 nd : (E.map (·.l)).Nodup
 ks : ∀ e ∈ E,0 <= e.k /\ e.k < 10
 nk : (E.map (·.k)).Nodup
 ln : ∀ e ∈ E,e.ps.length <= 1000
theorem nodup_len {α : Type} [DecidableEq α] : ∀ {l m : List α},l.Nodup -> l ⊆ m -> l.length <= m.length
 | [],_,_,_=>Nat.zero_le _
 | a :: l,m,hn,hs=>by
  rw [List.nodup_cons] at hn
  have h1 : a ∈ m:=hs (.head _)
  have h2 : l ⊆ m.erase a:=fun x hx=>(List.mem_erase_of_ne fun (q : x = a)=>hn.1 (q ▸ hx)).mpr (hs (.tail _ hx))
  have h3:=nodup_len hn.2 h2
  have h4:=List.length_erase_of_mem h1
  have h5:=List.length_pos_of_mem h1
  rw [List.length_cons];lia
theorem OwnAt.len {m : Mem} {o : Addr} {E : List OE} (h : OwnAt m o E) : E.length <= 10:=by
 have h1 : (E.map (·.k)) ⊆ (List.range 10).map fun (i : Nat)=>(i : Int):=fun x hx=>by
  refine eX1b (List.mem_map.mp hx) fun e he ee425=>?_;subst ee425
  refine eX0b (h.ks e he) fun h1 h2=>?_
  exact List.mem_map.mpr (iX1b e.k.toNat (List.mem_range.mpr (by lia)) (by lia))
 have:=nodup_len h.nk h1
 simpa using this
theorem OwnAt.keep {m m' : Mem} {o : Addr} {E : List OE} (h : OwnAt m o E) (k : Kp m m') : OwnAt m' o E:=⟨k _ _ h.d rfl,fun e he=>(h.ps e he).keep k,h.nd,h.ks,h.nk,h.ln⟩
noncomputable def mxb (ks : List Int) (n : Int) : Int:=(ks.filter fun k=>decide (k < n)).foldr max (-1)
theorem foldr_max : ∀ (l : List Int),(l.foldr max (-1) ∈ l ++ [-1]) /\ ∀ a ∈ l ++ [-1],a <= l.foldr max (-1)
 | []=>(iX0b (.head _) (fun a ha=>by simp at ha;rw [ha];exact Int.le_refl _))
 | x :: l=>by
  refine eX0b (foldr_max l) fun h1 h2=>?_
  rw [List.foldr_cons,List.cons_append]
  refine (iX0b ?_ (fun a ha=>?_))
  ·rcases Int.le_total x (l.foldr max (-1)) with q | q
   ·rw [Int.max_eq_right q];exact .tail _ h1
   ·rw [Int.max_eq_left q];exact .head _
  ·rcases List.mem_cons.mp ha with rfl | ha
   ·exact Int.le_max_left ..
   ·exact Int.le_trans (h2 a ha) (Int.le_max_right ..)
theorem mxb_of {ks : List Int} {n M : Int} (h1 : M ∈ (ks.filter fun k=>decide (k < n)) ++ [-1]) (h2 : ∀ a ∈ (ks.filter fun k=>decide (k < n)) ++ [-1],a <= M) : M = mxb ks n:=by
 refine eX0b (foldr_max (ks.filter fun k=>decide (k < n))) fun h3 h4=>?_
 exact Int.le_antisymm (h4 M h1) (h2 _ h3)
noncomputable def specBelow : Spec:=fun args mem Q X=>∃ o es n,args = [.ref o,.int n] /\ mem o = some (.dictI false none es) /\ es.length <= 1000 /\ Q (.int (mxb (es.map (·.1)) n)) mem
theorem keys_av (es : List (Int × AV)) : (es.map fun p=>AV.int p.1) = (es.map (·.1)).map AV.int:=by rw [List.map_map];rfl
theorem fnBelow : FnC 3 394 specBelow:=by
 refine FnC.go (d:=st 49) (qual:=S "_law_below") ["own","number"] (fun P=>rfl) (fun P=>by rfl) (by rfl) ?_ ?_
 ·exact fun _ _ _ _=>BindsTo.of_eq (by rfl)
 ·intro args mem Q X zz426;refine eX3d zz426 ?_;clear zz426;intro o es n ee427 ho hlen hQ;subst ee427
  refine ⟨rfl,fun cx hs hw rm=>?_⟩
  refine SV.weak ?_
  refine SV.cons ?_
  refine S1.ret ?_
  refine EV.callB hs nB_max ?_
  refine EVs.cons ?_
  refine EV.bin ?_
  refine EV.comp [("number",.int n)] hs ?_ (Loc.le_cons rfl (Loc.le_nil _))
  refine EV.name rfl ?_
  refine (iX1b (es.map fun p=>.int p.1) (by rw [List.length_map];lia) (ItV.dict ho fun nn=>CompP.same (ltB n) id rfl rfl _ _ (fun v hv cx' hs' hA=>?_) (fun v hv ht cx' hs' hA=>EV.name rfl (iX0b rfl rfl)) fun D hD=>?_))
  ·refine eX1b (List.mem_map.mp hv) fun k hk ee428=>?_;subst ee428
   exact TestsV.one (BV.cmpS rfl rfl (Op2.lt (Tr.bool (iX0b rfl rfl))))
  rw [keys_av,filter_lt]
  generalize hf : ((es.map (·.1)).filter fun k=>decide (k < n)) = fs
  as_aux_lemma =>
  have hfl : fs.length <= 1000:=by rw [<- hf];exact Nat.le_trans (List.length_filter_le _ _) (by rw [List.length_map];lia)
  refine EV.list ?_
  refine EVs.cons ?_
  refine EV.neg1 ?_
  refine EVs.nil (iX0b (nle rfl) (fun l2 hl2=>?_))
  have nll : D ≠ l2:=fun q=>by rw [<- q,mset_same] at hl2;cases hl2
  refine Op2.addList ((mset_ne nll).trans (mset_same ..)) (mset_same ..) (by rw [List.length_map];show _ + 1 <= _;lia) fun l3 hl3=>?_
  refine EVs.nil (CallV.max (ns:=fs ++ [-1]) ((mset_same ..).trans (by rw [List.map_append];rfl)) (by simp) fun M h1 h2=>(iX1b mem ((Wk.ep ho).trans (((MLe.new hD).trans (MLe.new hl2)).trans (MLe.new hl3))) ?_))
  rw [<- hf] at h1 h2
  rw [mxb_of h1 h2]
  exact hQ
noncomputable def oks (E : List OE) : List Int:=E.map (·.k)
noncomputable def sortedK (ks : List Int) : List Int:=((List.range 10).filter fun (i : Nat)=>decide ((i : Int) ∈ ks)).map fun (i : Nat)=>(i : Int)
theorem sortedK_mem {ks : List Int} (hk : ∀ k ∈ ks,0 <= k /\ k < 10) {a : Int} : a ∈ sortedK ks ↔ a ∈ ks:=by
 unfold sortedK
 rw [List.mem_map]
 constructor
 ·intro zz429;refine eX1b zz429 ?_;clear zz429;intro i h ee430;subst ee430
  simpa using (List.mem_filter.mp h).2
 ·intro h
  refine eX0b (hk a h) fun h1 h2=>?_
  refine (iX1b a.toNat (List.mem_filter.mpr (iX0b (List.mem_range.mpr (by lia)) ?_)) (by lia))
  have : ((a.toNat : Nat) : Int) = a:=by lia
  rw [this];simpa using h
theorem sortedK_le (ks : List Int) : (sortedK ks).Pairwise (· <= ·):=by
 unfold sortedK
 rw [List.pairwise_map]
 refine List.Pairwise.imp (fun {a b} h=>?_) ((List.pairwise_lt_range (n:=10)).filter _)
 lia
theorem sortedK_nd (ks : List Int) : (sortedK ks).Nodup:=by
 unfold sortedK
 exact List.Pairwise.map _ (fun a b h q=>h (by lia)) ((List.nodup_range (n:=10)).filter _)
theorem sortedK_eq {ks ns : List Int} (hn : ks.Nodup) (hk : ∀ k ∈ ks,0 <= k /\ k < 10) (hp : ns.Perm ks) (hs : ns.Pairwise (· <= ·)) : ns = sortedK ks :=
 List.Perm.eq_of_pairwise (fun a b _ _ h1 h2=>Int.le_antisymm h1 h2) hs (sortedK_le ks) (hp.trans ((List.perm_ext_iff_of_nodup hn (sortedK_nd ks)).mpr fun a=>(sortedK_mem hk).symm))
theorem sortedK_len (ks : List Int) : (sortedK ks).length <= 10:=by
 unfold sortedK;rw [List.length_map];exact Nat.le_trans (List.length_filter_le _ _) (by simp)
noncomputable def psOf (E : List OE) (k : Int) : List Pt:=((E.map fun e=>(e.k,e.ps)).lookup k).getD []
noncomputable def flat (E : List OE) : List Pt:=(sortedK (oks E)).flatMap (psOf E)
theorem ownEs_keys (E : List OE) : (ownEs E).map (·.1) = oks E:=by unfold ownEs oks;rw [List.map_map];rfl
theorem OwnAt.get {m : Mem} {o : Addr} {E : List OE} (h : OwnAt m o E) {k : Int} (hk : k ∈ oks E) : ∃ e ∈ E,e.k = k /\ (ownEs E).lookup k = some (.ref e.l) /\ psOf E k = e.ps:=by
 refine eX1b (List.mem_map.mp hk) fun e he ee431=>?_;subst ee431
 refine (iX1d e he rfl (lookup_mem1 (by rw [ownEs_keys];exact h.nk) (List.mem_map.mpr (iX1b e he rfl))) ?_)
 unfold psOf
 rw [lookup_mem1 (es:=E.map fun e=>(e.k,e.ps)) (by rw [List.map_map];exact h.nk) (List.mem_map.mpr (iX1b e he rfl))];rfl
theorem OwnAt.none {m : Mem} {o : Addr} {E : List OE} (h : OwnAt m o E) {k : Int} (hk : k ∉ oks E) : (ownEs E).lookup k = none:=by
 cases q : (ownEs E).lookup k with
 | none=>rfl
 | some v =>
  exfalso;apply hk
  have:=List.mem_map_of_mem (f:=(·.1)) (mem_lookup q)
  rwa [ownEs_keys] at this
theorem MLe.updOut {mem m : Mem} {D : Addr} {o : AO} (K : MLe mem m) (h : mem D = none) : MLe mem (mset m D o):=fun a p e=>(mset_ne fun q=>by rw [q,h] at e;cases e).trans (K a p e)
noncomputable def specFlat : Spec:=fun args mem Q X=>∃ o E,args = [.ref o] /\ OwnAt mem o E /\ ∀ r m',MLe mem m' -> PtrsAt m' r (flat E) -> mem r = none -> Q (.ref r) m'
theorem fnFlat : FnC 3 401 specFlat:=by
 refine FnC.go (d:=st 50) (qual:=S "_law_flat") ["own"] (fun P=>rfl) (fun P=>by rfl) (by rfl) ?_ ?_
 ·exact fun _ _ _ _=>BindsTo.of_eq (by rfl)
 ·intro args mem Q X zz432;refine eX2c zz432 ?_;clear zz432;intro o E ee433 ho hQ;subst ee433
  refine ⟨rfl,fun cx hs hw rm=>?_⟩
  refine SV.cons ?_
  refine S1.assign (hwr:=hw) hs ?_
  refine EV.list ?_
  refine EVs.nil (iX0b (nle rfl) (fun D hD=>?_))
  have M0:=MLe.new (o:=.list []) hD
  have hle:=ho.len
  have hks : ∀ k ∈ oks E,0 <= k /\ k < 10:=fun k hk=>by refine eX1b (List.mem_map.mp hk) fun e he ee434=>?_;subst ee434;exact ho.ks e he
  refine SV.cons (S1.for (EV.callB hs nB_sorted (EVs.s rfl (CallV.sortedDI (M0 _ _ ho.d) (by unfold ownEs;rw [List.length_map];lia) fun ns q h1 h2 h3=>?_))))
  rw [ownEs_keys] at h1
  have hns:=sortedK_eq (ks:=oks E) ho.nk hks h1 h2
  subst hns
  have hqD : q ≠ D:=fun z=>by rw [z,mset_same] at h3;cases h3
  have M1 : MLe mem (mset (mset mem D (.list [])) q (.list ((sortedK (oks E)).map .int))):=M0.trans (MLe.new h3)
  have hPD : PtrsAt (mset (mset mem D (.list [])) q (.list ((sortedK (oks E)).map .int))) D []:=(iX1b ([]) ((mset_ne (Ne.symm hqD)).trans (mset_same ..)) .nil)
  refine (iX1a ((sortedK (oks E)).map .int) (ItV.list (mset_same ..) ?_))
  have hx00 : mset (mset mem D (.list [])) q (.list ((sortedK (oks E)).map .int)) q = some (.list ((sortedK (oks E)).map .int)):=mset_same ..
  generalize hm : mset (mset mem D (.list [])) q (.list ((sortedK (oks E)).map .int)) = m1 at M1 hPD hx00
  as_aux_lemma =>
  have hin : ∀ k ∈ sortedK (oks E),k ∈ oks E:=fun k hk=>(sortedK_mem hks).mp hk
  replace hQ : ∀ r m',MLe mem m' -> PtrsAt m' r ([] ++ (sortedK (oks E)).flatMap (psOf E)) -> mem r = none -> Q (.ref r) m':=hQ
  have hbd : ([] : List Pt).length + 1000 * (sortedK (oks E)).length <= 10000:=by have:=sortedK_len (oks E);simp;lia
  clear hm h1 h2 h3
  refine eX1a ((show ∃ xs,m1 q = some (.list xs) from (iX1a _ hx00))) fun xs0 hx0=>?_
  clear hx00
  refine eX1a ((show ∃ loc : Loc,loc = ([("found",.ref D),("own",.ref o)] : Loc) from (iX1a _ rfl))) fun loc hloc0=>?_
  have hloc : Loc.le ([("found",.ref D),("own",.ref o)] : Loc) loc:=hloc0 ▸ Loc.le_refl _
  show ForP cx _ _ _ _ _ _ ([("found",.ref D),("own",.ref o)] : Loc) _
  rw [<- hloc0]
  clear hloc0
  generalize ([] : List Pt) = acc at hQ hPD hbd
  generalize sortedK (oks E) = ks at hQ hbd hin ⊢
  as_aux_lemma =>
  induction ks generalizing acc m1 loc with
  | nil =>
   refine SV.wloc hloc (SV.cons (S1.ret (EV.name rfl ?_)))
   rw [List.flatMap_nil,List.append_nil] at hQ
   exact hQ _ _ M1 hPD hD
  | cons k ks ih =>
   refine fun G'=>AsgV.name (sc:=dScope (st 50)) hs ?_
   refine SV.wloc (Loc.le_both hloc) ?_
   have hom:=ho.keep (Kp.of_le M1)
   refine eX1d (hom.get (hin k (.head _))) fun e he hek hl hps=>?_
   refine eX1b (id hPD) fun rsD eD aD=>?_
   refine eX2e (hPD.ext (hom.ps e he)) fun xs ys x1 x2 x3 x4 x5=>?_
   have hel:=ho.ln e he
   rw [List.length_cons] at hbd
   refine SV.cons ?_
   refine S1.expr ?_ _ hs
   refine EV.methS rfl ?_
   refine MethV.extend eD ?_
   refine EVs.cons ?_
   refine EV.subS rfl rfl ?_
   refine SubV.dict (dkI false) (ep:=none) hom.d hl ?_
   refine EVs.nil ?_
   refine CallV.extend x1 x2 (by lia) ?_
   refine SV.nil (iX0b (fun d hd=>?_) ?_)
   ·cases hd;exact mset_ne hqD
   ·refine ih _ (M1.updOut hD) ((mset_ne hqD).trans hx0) _ (Loc.le_skip rfl) _ x5 (fun r m' h1 h2=>hQ r m' h1 ?_) (by rw [List.length_append];lia) (fun j hj=>hin j (.tail _ hj))
    rw [List.flatMap_cons,hps]
    rwa [List.append_assoc] at h2
structure SetIn (w : World) (o : Obj) (ns : List Int) : Prop where
 ex : ∃ es ep t,o.ExactSet /\ o.data = .set es ep t /\ EI es /\ es.size < 100 /\ t.fits es.size = true /\ t.led = ledOf w /\ (es.map (·.1),t) = ns.foldl insH (startH (ledOf w)) /\ (es.map (·.1)).toList.Nodup /\ ∀ k,k ∈ (es.map (·.1)).toList ↔ k ∈ ns
theorem foldI_all (led : Bool) (ns : List Int) : foldI led (fun i=>ns.getD i 0) ns.length = ns.foldl insH (startH led):=by
 unfold foldI
 congr 1
 refine List.ext_getElem (by simp) fun i h1 h2=>?_
 simp [List.getD_eq_getElem?_getD,List.getElem?_eq_getElem h2]
theorem SInv.setIn {w : World} {h : Heap} {S : Addr} {ns : List Int} (x : SInv (ledOf w) (fun i=>ns.getD i 0) S ns.length h) : ∃ o,h.get? S = some o /\ SetIn w o ns:=by
 obtain ⟨zz435,nd,mm,sz⟩:=x;refine eX3h zz435 fun o es ep ho hex hd hel hb hf hhs hled=>?_
 rw [foldI_all] at hd hf hhs hled nd mm
 refine ⟨o,ho,es,ep,_,hex,hd,hel,hb,hf,hled,by rw [hhs],by rw [hhs];exact nd,fun k=>?_⟩
 rw [hhs,mm]
 constructor
 ·intro zz436;refine eX1b zz436 ?_;clear zz436;intro j hj ee437;subst ee437
  rw [List.getD_eq_getElem?_getD,List.getElem?_eq_getElem hj];exact List.getElem_mem _
 ·intro hk
  obtain ⟨j,hj,e⟩:=List.mem_iff_getElem.mp hk
  exact (iX1b j hj (by rw [List.getD_eq_getElem?_getD,List.getElem?_eq_getElem hj];exact e))
section
variable {cx : Cx} {X : MQ Addr} {mem : Mem} {Q : MQ AV} {l : Addr} {ns : List Int}
theorem CallV.setOf (e : mem l = some (.list (ns.map .int))) (hns : ∀ k ∈ ns,0 <= k /\ k < 10) (hn : ns.length < 80) (h : ∀ q o,mem q = none -> SetIn cx.w o ns -> Q (.ref q) (mset mem q (.raw o))) : CallV cx (.type "set") [.ref l] mem Q X:=fun loc vs hvs s I=>by
 refine eX1b (one_of hvs) fun x ee438 h1=>?_;subst ee438
 cases er_ref h1
 refine eX2c (I.list e) fun its n ho r hs=>?_
 have hi : IntsAre its.toList ns:=ints_of r
 have hsz : its.size = ns.length:=by rw [hs,List.length_map]
 refine setOfList (items:=its) (ns:=ns) I.ok.handled ⟨_,ho,rfl,n,rfl⟩ hi hns (by lia) fun h' tk hI hk=>?_
 rw [hsz] at hI
 refine eX1b (hI.setIn) fun o hoo hin=>?_
 refine eX3c (hin.ex) fun es ep t hex hd _=>?_
 have hfr : o.isFreed = false:=by
  obtain ⟨c,d,dt,sl⟩:=o
  simp only at hd;subst hd;rfl
 refine (iX1b _ (I.made (fun b o e=>hk b o (Heap.lt_size e) e) hoo (ao:=.raw o) (iX0c rfl hfr (fun vs q=>by rw [hd] at q;cases q))) (h _ o I.fresh.1 hin))
theorem CallV.sortedSet {o : Obj} (e : mem l = some (.raw o)) (hin : SetIn cx.w o ns) (hns : ∀ k ∈ ns,0 <= k /\ k < 10) (hok : okH (ns.foldl insH (startH (ledOf cx.w))) = true) (h : ∀ q,mem q = none -> Q (.ref q) (mset mem q (.list ((sortedK ns).map .int)))) :
  CallV cx (.builtin "sorted") [.ref l] mem Q X:=fun loc vs hvs s I=>by
 refine eX1b (one_of hvs) fun x ee439 h1=>?_;subst ee439
 cases er_ref h1
 refine eX3i (hin.ex) fun es ep t hex hd hel hb hf hled hst hnd hmm=>?_
 refine eX1c (I.get e) fun o' ho' r1 _=>?_
 subst r1
 have hat : SetAt s.heap l es ep t:=(iX1d o' ho' hex hd hf)
 rw [<- hst] at hok
 have hlen : es.size <= 10:=by
  have h1 : (es.map (·.1)).toList ⊆ (List.range 10).map fun (i : Nat)=>(i : Int):=fun x hx=>by
   refine eX0b (hns x ((hmm x).mp hx)) fun h1 h2=>?_
   exact List.mem_map.mpr (iX1b x.toNat (List.mem_range.mpr (by lia)) (by lia))
  have:=nodup_len hnd h1
  simpa using this
 refine sortedOf (kdu_collect (A:=cx.A.in1) (srcSet es ep t hok hled) I.ok.handled hat (by rw [sizeLine_eq];lia) fun h' tk acc hk hacc=>?_)
 have hacl : acc.toList.length = es.size:=by rw [Array.length_toList];exact hacc.1
 have hop:=orderOf_perm cx.w l ep es
 have hos : (orderOf cx.w l ep es).size = es.size:=by have:=hop.length_eq;rwa [Array.length_toList,Array.length_toList] at this
 have hi : IntsAre acc.toList ((orderOf cx.w l ep es).toList.map (·.1)):=by
  refine ints_of (List.ext_getElem? fun i=>?_)
  rw [List.getElem?_map,List.getElem?_map,List.getElem?_map]
  cases q : acc.toList[i]? with
  | none =>
   have : es.size <= i:=by rw [<- hacl];exact List.getElem?_eq_none_iff.mp q
   rw [List.getElem?_eq_none (by rw [Array.length_toList];lia)];rfl
  | some v =>
   refine eX1b (hacc.2 i v (by rw [<- Array.getElem?_toList];exact q)) fun x hx ee440=>?_;subst ee440
   rw [Array.getElem?_toList,hx]
   have hxm : x ∈ es.toList:=hop.mem_iff.mp (Array.mem_toList_iff.mpr (Array.mem_of_getElem? hx))
   refine eX2c (hel x hxm) fun k tk' _ _ ee441=>?_;subst ee441
   rfl
 have I1 : InSt cx loc mem { s with heap:=h',toks:=tk }:=I.grow hk
 refine (iX0b (by rw [hacl];lia) (sortList (Heap.get?_push_size _ rfl) hi (by rw [hacl];lia) fun out ns' h2 h3 h4=>(iX1b _ (sortedHeap_made I1) ?_)))
 rw [er_ints h2]
 have hp : ns'.Perm (es.map (·.1)).toList:=h3.trans (by rw [Array.toList_map];exact hop.map _)
 have : ns' = sortedK ns:=List.Perm.eq_of_pairwise (fun a b _ _ h1 h2=>Int.le_antisymm h1 h2) h4 (sortedK_le ns)
  ((List.perm_ext_iff_of_nodup (hp.nodup_iff.mpr hnd) (sortedK_nd ns)).mpr fun a=>by rw [hp.mem_iff,hmm,sortedK_mem hns])
 rw [this]
 exact h _ I1.fresh.1
end
theorem canLayAll_of : ∀ {ds : List PyData},(∀ d ∈ ds,d.canLay0 = true) -> PyData.canLayAll0 ds = true
 | [],_=>rfl
 | d :: ds,h=>by unfold PyData.canLayAll0;rw [h d (.head _),canLayAll_of fun x hx=>h x (.tail _ hx)];rfl
theorem depthAll_of {n : Nat} : ∀ {ds : List PyData},(∀ d ∈ ds,d.depth <= n) -> PyData.depthAll ds <= n
 | [],_=>by unfold PyData.depthAll;exact Nat.zero_le _
 | d :: ds,h=>by
  unfold PyData.depthAll
  have h1:=h d (.head _)
  have h2:=depthAll_of fun x hx=>h x (.tail _ hx)
  exact Nat.max_le.mpr (iX0b h1 h2)
theorem shaped_list {ds : List PyData} (h : ∀ d ∈ ds,d.canLay0 = true /\ d.depth <= 10) : SeqAt.shaped (.list ds) = true:=by
 unfold SeqAt.shaped
 rw [Bool.and_eq_true]
 refine (iX0b (by unfold PyData.canLay0;exact canLayAll_of fun d hd=>(h d hd).1) (decide_eq_true ?_))
 have:=depthAll_of fun d hd=>(h d hd).2
 unfold PyData.depth
 lia
theorem plainD_ok (p : Pt) : (plainD p).canLay0 = true /\ (plainD p).depth <= 10:=by
 have hp:=p.copies_lt
 rcases (by lia : p.copies = 1 \/ p.copies = 2) with q | q
 ·unfold plainD;rw [q];exact (iX0b (by rfl) (Nat.le_of_ble_eq_true (by rfl)))
 ·unfold plainD;rw [q];exact (iX0b (by rfl) (Nat.le_of_ble_eq_true (by rfl)))
theorem shaped_plain (ps : List Pt) : SeqAt.shaped (.list (ps.map plainD)) = true:=shaped_list fun d hd=>by
 refine eX1b (List.mem_map.mp hd) fun p _ ee442=>?_;subst ee442
 exact plainD_ok p
theorem shaped_ints (ks : List Int) : SeqAt.shaped (.list (ks.map .int)) = true:=shaped_list fun d hd=>by
 refine eX1b (List.mem_map.mp hd) fun p _ ee443=>?_;subst ee443
 exact (iX0b rfl (by unfold PyData.depth;lia))
theorem shaped_lay {d : PyData} (h : SeqAt.shaped d = true) : d.canLay0 = true:=SeqAt.canLay_of_shaped h
theorem dat_ints {m : Mem} {l : Addr} {ks : List Int} (e : m l = some (.list (ks.map .int))) : Dat m (.ref l) (.list (ks.map .int)) :=
 .list e (by
  clear e
  induction ks with
  | nil=>exact .nil
  | cons k ks ih=>exact .cons (.int k) ih)
theorem Dat.le {m m' : Mem} {a : AV} {d : PyData} (h : Dat m a d) (k : MLe m m') : Dat m' a d:=h.keep fun x xs=>(iX0b (fun e=>k _ _ e) (fun e=>k _ _ e))
theorem Dat.kp {m m' : Mem} {a : AV} {d : PyData} (h : Dat m a d) (k : Kp m m') : Dat m' a d:=h.keep fun x xs=>(iX0b (fun e=>k _ _ e rfl) (fun e=>k _ _ e rfl))
theorem CompP.grow2 {W : Type} {A : Around} {sc' : Scope} {target elt : Expr} {loc : Loc} {src : Option Addr} {Fin : List AV -> Mem -> Prop} {Z : W -> AV -> Mem -> Prop} (mono : ∀ v y m m',MLe m m' -> Z v y m -> Z v y m') {xs : List AV} {ws : List W} (ys : List AV) {mem : Mem}
  (hs : ∀ d,src = some d -> mem d ≠ none)
  (x : All2 (fun v w=>∀ m,MLe mem m -> ∀ cx',cx'.env.scope = sc' -> cx'.A = A -> AsgV cx' target v loc m fun l m1=>Loc.le loc l /\ m1 = m /\ EV cx' elt l m (fun y m2=>MLe m m2 /\ Z w y m2) NoX) xs ws)
  (hF : ∀ zs m,MLe mem m -> All2 (fun y w=>Z w y m) zs ws -> Fin (ys ++ zs) m) : CompP A sc' target [] elt loc src Fin xs ys mem:=by
 induction xs generalizing ws ys mem with
 | nil=>cases x;exact (List.append_nil ys ▸ hF [] mem (MLe.refl _) .nil : Fin ys mem)
 | cons v xs ih =>
  cases x with | cons h1 hr =>
  intro cx' hs' hA u s E hu I
  refine wpAny_mono (h1 mem (MLe.refl _) cx' hs' hA u s E hu I) (fun _ s' zq119=>eX2d zq119 fun l m I' hle e hE=>(iX2c l m I' hle (TestsV.nil ?_))) fun _ _ x=>x
  subst e
  refine ifT rfl ?_
  refine hE.mono (fun y m2 e=>?_) fun _ _ x=>x
  refine eX0b e fun hm hz=>?_
  refine (iX0b (fun d hd=>?_) (ih (ys ++ [y]) (fun d hd q=>hs d hd ?_) (hr.imp fun a b h m3 h3=>h m3 (hm.trans h3)) fun zs m3 h3 ha=>?_))
  ·cases q : m d with
   | none=>exact absurd q (hs d hd)
   | some o=>exact hm _ _ q
  ·cases q' : m d with
   | none=>rfl
   | some o=>rw [hm _ _ q'] at q;cases q
  ·exact (List.append_assoc ys [y] zs).symm ▸ hF (y :: zs) m3 (hm.trans h3) (.cons (mono _ _ _ _ h3 hz) ha)
structure LawIs (S : BSt) (z : Int) (E : List OE) : Prop where
 k : (tDeadKeys z).wp S (fun ks S'=>ks = sortedK (oks E) /\ S' = S) fun _ _=>False
 p : ∀ e ∈ E,((tListOf z e.k).bind tPoints).wp S (fun ps S'=>ps = e.ps /\ S' = S) fun _ _=>False
 d : (tDeadPts z).wp S (fun ps S'=>ps = flat E /\ S' = S) fun _ _=>False
noncomputable def specIs : Spec:=fun args mem Q X=>∃ b z o E S,args = [.ref b,.int z,.ref o] /\ OwnAt mem o E /\ BaseAt mem b S /\ LawIs S z E /\ ∀ m',BaseAt m' b S -> Kp mem m' -> Q (.bool true) m'
theorem All2.map1 {α β γ : Type} {R : α -> β -> Prop} {S : γ -> β -> Prop} {f : α -> γ} (h : ∀ a b,R a b -> S (f a) b) : ∀ {l : List α} {m : List β},All2 R l m -> All2 S (l.map f) m
 | _,_,.nil=>.nil
 | _,_,.cons x r=>.cons (h _ _ x) (All2.map1 h r)
theorem All2.mapR {α β γ : Type} {R : α -> β -> Prop} {S : α -> γ -> Prop} {f : β -> γ} (h : ∀ a b,R a b -> S a (f b)) : ∀ {l : List α} {m : List β},All2 R l m -> All2 S l (m.map f)
 | _,_,.nil=>.nil
 | _,_,.cons x r=>.cons (h _ _ x) (All2.mapR h r)
theorem plains {cx : Cx} {loc : Loc} {m : Mem} {Q : MQ AV} {X : MQ Addr} {it : Expr} {sc scope : Scope} {x : Str} {tp xp ap cp pos : Pos} (rm : Rm 2 cx.A) (hs : cx.env.scope = sc)
  (h : EV cx it loc m (fun a m1=>∃ l ps,a = .ref l /\ PtrsAt m1 l ps /\ ps.length <= 100000 /\ ∀ D m',MLe m1 m' -> Dat m' (.ref D) (.list (ps.map plainD)) -> Q (.ref D) m') X)
  (hk : (relabel scope (scEnv sc)).names.lookup x = some .local:=by rfl) (hd : (x == ("__debug__" : Str)) = false:=by decide) (hcd : (x == ("__classdict__" : Str)) = false:=by decide)
  (hc : compOk scope sc = true:=by rfl) (hf : ∀ y,foldedSetIterable it cx.env y = pure y:=by intro _;rfl) (hline : (ap.endLine == cp.line) = true:=by rfl)
   :
  EV cx (.ListComp (.Call (.Attribute (.Name x xp) "plain" ap) [] [] cp) [⟨.Name x tp,it,[],0⟩] scope pos) loc m Q X:=by
 refine EV.comp [] hs (h.mono (fun a m1 e=>?_) fun _ _ x=>x) (Loc.le_nil _) (hc:=hc) (ho:=rfl) (hf:=hf)
 refine eX2d e ?_;clear e;intro l ps ee444 zz445 hlen hQ;subst ee444;refine eX1b zz445 fun rs el hall=>?_
 refine (iX1b (rs.map .ref) (by rw [List.length_map,hall.len];lia) (ItV.list el (CompP.grow2 (Z:=fun p y m=>Dat m y (plainD p)) (ws:=ps) (fun v y m m' hm hz=>hz.le hm) [] (fun d hd=>by cases hd;rw [el];nofun) (All2.map1 (fun r p hr m2 hm2 cx' hs' hA=>?_) hall) fun zs m2 hm2 hz D hD=>?_)))
 ·refine AsgV.name hs' (iX0c (Loc.le_nil _) rfl ?_) hk
  refine eX4a hr fun d t1 t2 pls H=>?_
  have H2:=H.keep (Kp.of_le hm2)
  refine EV.meth (EV.name (lookup_cons_eq) (MethV.inst H2.i H2.d rfl mokPlain (EVs.nil (fnPlain _ _ _ _ _ (hA ▸ rm) (iX4a r p d t1 (iX2c t2 pls rfl H2 (fun q hq=>(iX0b (MLe.new hq) ((H2.keep (Kp.new hq)).dat (mset_same ..))))))))) hd hcd) (hline:=hline)
 ·have M:=MLe.new (o:=.list ([] ++ zs)) hD
  refine hQ D _ (hm2.trans M) (.list (mset_same ..) ?_)
  rw [List.nil_append]
  exact hz.mapR fun y p e=>e.le M
theorem BaseAt.updD {m : Mem} {b D : Addr} {S : BSt} {ep : Option Nat} {es : List (Int × AV)} {o : AO} (B : BaseAt m b S) (e : m D = some (.dictI false ep es)) : BaseAt (mset m D o) b S:=by
 refine eX1b B ?_;clear B;intro S0 B ee446;subst ee446
 have n : ∀ {a p},m a = some p -> p ≠ .dictI false ep es -> a ≠ D:=fun h1 h2 q=>h2 (by rw [q,e] at h1;exact (Option.some.inj h1).symm)
 exact (iX1b S0 (⟨(mset_ne (n B.i (by nofun))).trans B.i,(mset_ne (n B.d (by nofun))).trans B.d,(mset_ne (n B.n (by nofun))).trans B.n,(mset_ne (n B.z (by nofun))).trans B.z,B.nz,fun p hp=>(iX0b ((mset_ne (n (B.zs p hp).1 (by nofun))).trans (B.zs p hp).1) ((B.zs p hp).2)),B.ap,B.ln,B.lz,B.ll⟩) rfl)
theorem Ptr.updD {m : Mem} {r D : Addr} {p : Pt} {ep : Option Nat} {es : List (Int × AV)} {o : AO} (h : Ptr m r p) (e : m D = some (.dictI false ep es)) : Ptr (mset m D o) r p:=by
 refine eX4a h fun d t1 t2 pls H=>?_
 have n : ∀ {a p},m a = some p -> p ≠ .dictI false ep es -> a ≠ D:=fun h1 h2 q=>h2 (by rw [q,e] at h1;exact (Option.some.inj h1).symm)
 exact (iX4a d t1 t2 pls (⟨(mset_ne (n H.i (by nofun))).trans H.i,(mset_ne (n H.d (by nofun))).trans H.d,(mset_ne (n H.t1 (by nofun))).trans H.t1,H.pl.imp fun a c e=>(mset_ne (n e (by nofun))).trans e,(mset_ne (n H.t2 (by nofun))).trans H.t2⟩))
theorem PtrsAt.updD {m : Mem} {l D : Addr} {ps : List Pt} {ep : Option Nat} {es : List (Int × AV)} {o : AO} (h : PtrsAt m l ps) (e : m D = some (.dictI false ep es)) : PtrsAt (mset m D o) l ps:=by
 refine eX1b h fun rs el a=>?_
 exact (iX1b rs ((mset_ne fun q=>by rw [q,e] at el;cases el).trans el) (a.imp fun _ _ x=>x.updD e))
theorem flat_len {m : Mem} {o : Addr} {E : List OE} (h : OwnAt m o E) : (flat E).length <= 10000:=by
 have hb : ∀ k,(psOf E k).length <= 1000:=fun k=>by
  unfold psOf
  cases q : (E.map fun e=>(e.k,e.ps)).lookup k with
  | none=>simp
  | some ps =>
   refine eX1b (List.mem_map.mp (mem_lookup q)) fun e he hh=>?_
   cases hh;exact h.ln e he
 have : ∀ ks : List Int,(ks.flatMap (psOf E)).length <= 1000 * ks.length:=by
  intro ks
  induction ks with
  | nil=>simp
  | cons k ks ih=>rw [List.flatMap_cons,List.length_append,List.length_cons];have:=hb k;lia
 have h1:=this (sortedK (oks E))
 have h2:=sortedK_len (oks E)
 unfold flat;lia
theorem fnIs : FnC 9 406 specIs:=by
 refine FnC.go (d:=st 51) (qual:=S "_law_is") ["base","dead","own"] (fun P=>rfl) (fun P=>by rfl) (by rfl) ?_ ?_
 ·exact fun _ _ _ _=>BindsTo.of_eq (by rfl)
 ·intro args mem Q X zz447;refine eX4a zz447 ?_;clear zz447;intro b z o E zy5;refine eX1e zy5 ?_;clear zy5;intro S ee448 ho B0 LI hQ;subst ee448
  refine ⟨rfl,fun cx hs hw rm=>?_⟩
  have hks : ∀ k ∈ oks E,0 <= k /\ k < 10:=fun k hk=>by refine eX1b (List.mem_map.mp hk) fun e he ee449=>?_;subst ee449;exact ho.ks e he
  have hle:=ho.len
  refine SV.cons ?_
  refine S1.ite ?_
  refine BV.cmp ?_
  refine EV.callF hs nF196 ?_
  refine EVs.s rfl ?_
  refine fnDeadKeys _ _ _ _ _ (rm.le (by decide)) (iX2b b z rfl (Tw.go B0 LI.k (fun r1 S1' a1 m1 q1 B1 K1 e1=>?_) fun C S9 m9 q9 B9 K9=>q9.elim))
  refine eX0b q1 ?_;clear q1;intro ee450 ee451;subst ee450;subst ee451
  refine eX0c e1 ?_;clear e1;intro zz452 hlen1 hk1;refine eX1b zz452 ?_;clear zz452;intro l1 ee453 el1;subst ee453
  have ho1:=ho.keep K1
  refine EV.callB hs nB_sorted ?_
  refine EVs.s rfl ?_
  refine CallV.sortedDI ho1.d (by unfold ownEs;rw [List.length_map];lia) fun ns q h1 h2 h3=>?_
  rw [ownEs_keys] at h1
  have hns:=sortedK_eq (ks:=oks E) ho.nk hks h1 h2
  subst hns
  have M1:=MLe.new (o:=.list ((sortedK (oks E)).map .int)) h3
  refine Op2.neD (dat_ints (M1 _ _ el1)) (dat_ints (mset_same ..)) (shaped_ints _) (shaped_ints _) (Tr.bool ?_)
  rw [SeqAt.eqv_refl _ (shaped_lay (shaped_ints _))];refine ifF (by decide) ?_
  refine SV.nil ?_
  have B2:=B1.le M1
  have K2:=K1.trans (Kp.of_le M1)
  have ho2:=ho.keep K2
  generalize mset m1 q (.list ((sortedK (oks E)).map .int)) = m2 at B2 K2 ho2
  as_aux_lemma =>
  clear h1 h2 h3 M1 el1 ho1 B1 K1 hlen1 hk1
  refine SV.cons (S1.for (EV.name rfl (iX1a ((ownEs E).map fun p=>.int p.1) (ItV.dict ho2.d fun nn=>?_))))
  have eo : mset m2 o (.dictI false (some nn) (ownEs E)) o = some (.dictI false (some nn) (ownEs E)):=mset_same ..
  have B3 : BaseAt (mset m2 o (.dictI false (some nn) (ownEs E))) b S1':=B2.updD ho2.d
  have P3 : ∀ e ∈ E,PtrsAt (mset m2 o (.dictI false (some nn) (ownEs E))) e.l e.ps:=fun e he=>(ho2.ps e he).updD ho2.d
  have KB : ∀ a x,a ≠ o -> mem a = some x -> isB x = false -> mset m2 o (.dictI false (some nn) (ownEs E)) a = some x:=fun a x ha hx hb=>(mset_ne ha).trans (K2 a x hx hb)
  generalize mset m2 o (.dictI false (some nn) (ownEs E)) = m3 at eo B3 P3 KB
  as_aux_lemma =>
  clear B2 ho2 K2 B0
  refine eX1a ((show ∃ loc : Loc,loc = ([("base",.ref b),("dead",.int z),("own",.ref o)] : Loc) from (iX1a _ rfl))) fun loc hloc0=>?_
  have hloc : Loc.le ([("base",.ref b),("dead",.int z),("own",.ref o)] : Loc) loc:=hloc0 ▸ Loc.le_refl _
  show ForP cx _ _ _ _ _ _ ([("base",.ref b),("dead",.int z),("own",.ref o)] : Loc) _
  rw [<- hloc0]
  clear hloc0
  have hsub : ∀ e ∈ E,e ∈ E:=fun _ h=>h
  have hlk : ∀ e ∈ E,(ownEs E).lookup e.k = some (.ref e.l):=fun e he=>by
   refine eX1d (ho.get (List.mem_map_of_mem (f:=(·.k)) he)) fun e' h1 h2 h3 _=>?_
   rw [h3,inj_nodup ho.nk e' h1 e he h2]
  show ForP cx _ _ _ _ _ ((ownEs E).map fun p=>AV.int p.1) loc m3
  have hfin : (fun _ : List OE=>True) E:=trivial
  clear hfin
  suffices key : ∀ (Es : List OE),(∀ e ∈ Es,e ∈ E) -> ForP cx _ _ _ _ _ ((ownEs Es).map fun p=>AV.int p.1) loc m3 from key E hsub
  intro Es
  induction Es generalizing m3 loc with
  | nil =>
   intro _
   refine SV.wloc hloc ?_
   have W : Wk (mset m3 o (.dictI false none (ownEs E))) m3:=fun a x hx=>by
    by_cases q : a = o
    ·subst q;rw [mset_same] at hx;cases hx;exact (iX1b _ eo (.inr (iX3b false nn _ rfl rfl)))
    ·rw [mset_ne q] at hx;exact (iX1b x hx (.inl rfl))
   have K4 : Kp mem (mset m3 o (.dictI false none (ownEs E))):=fun a x hx hb=>by
    by_cases q : a = o
    ·subst q;rw [mset_same,<- ho.d];exact hx
    ·rw [mset_ne q];exact KB a x q hx hb
   have B4 : BaseAt (mset m3 o (.dictI false none (ownEs E))) b S1':=B3.updD eo
   refine SV.weak1 W ?_
   generalize mset m3 o (.dictI false none (ownEs E)) = m4 at K4 B4
   as_aux_lemma =>
   have hfl:=flat_len ho
   refine SV.cons (S1.ret (EV.cmp ?_))
   refine plains (rm.le (by decide)) hs ?_
   refine EV.callF hs nF234 ?_
   refine EVs.s rfl ?_
   refine fnDeadPts _ _ _ _ _ (rm.le (by decide)) (iX2b b z rfl (Tw.go B4 LI.d (fun r5 S5' a5 m5 q5 B5 K5 e5=>?_) fun C S9 m9 q9 B9 K9=>q9.elim))
   refine eX0b q5 ?_;clear q5;intro ee454 ee455;subst ee454;subst ee455
   refine eX1b e5 ?_;clear e5;intro l5 ee456 h5;subst ee456
   refine (iX2d l5 (flat E) rfl h5 (by lia) (fun D m6 hm6 hD6=>?_))
   have K6:=(K4.trans K5).trans (Kp.of_le hm6)
   refine plains (rm.le (by decide)) hs ?_
   refine EV.callF hs nF401 ?_
   refine EVs.s rfl ?_
   refine fnFlat _ _ _ _ _ (rm.le (by decide)) (iX2c o E rfl (ho.keep K6) (fun r7 m7 hm7 h7 _=>(iX2d r7 (flat E) rfl h7 (by lia) (fun D8 m8 hm8 hD8=>?_))))
   refine Op2.eqD ((hD6.le hm7).le hm8) hD8 (shaped_plain _) (shaped_plain _) ?_
   rw [SeqAt.eqv_refl _ (shaped_lay (shaped_plain _))]
   exact hQ _ (((B5.le hm6).le hm7).le hm8) ((K6.trans (Kp.of_le hm7)).trans (Kp.of_le hm8))
  | cons e Es ih =>
   intro hin
   refine fun G'=>AsgV.name (sc:=dScope (st 51)) hs ?_
   refine SV.wloc (Loc.le_both hloc) ?_
   have he:=hin e (.head _)
   have hln:=ho.ln e he
   have hp:=T.wp_bind.mp (LI.p e he)
   refine SV.cons ?_
   refine S1.assign (hwr:=hw) hs ?_
   refine EV.callF hs nF172 ?_
   refine EVs.consS rfl ?_
   refine EVs.cons ?_
   refine EV.callF hs nF203 ?_
   refine EVs.s rfl ?_
   refine fnListOf _ _ _ _ _ (rm.le (by decide)) (iX3b b z e.k rfl (Tw.go B3 hp (fun r12 S12' a12 m12 q12 B12 K12 e12=>?_) fun C S9 m9 q9 B9 K9=>q9.elim))
   subst e12
   refine EVs.nil ?_
   refine fnPoints _ _ _ _ _ (rm.le (by decide)) (iX2b b r12 rfl (Tw.go B12 q12 (fun r13 S13' a13 m13 q13 B13 K13 e13=>?_) fun C S9 m9 q9 B9 K9=>q9.elim))
   refine eX0b q13 ?_;clear q13;intro ee457 ee458;subst ee457;subst ee458
   refine eX1b e13 ?_;clear e13;intro l13 ee459 h13;subst ee459
   have K23:=K12.trans K13
   refine SV.cons (S1.ite (BV.cmp ?_))
   refine plains (cx:=cx.withG G') (rm.le (by decide)) hs ?_
   refine EV.name rfl (iX2d l13 e.ps rfl h13 (by lia) (fun D m6 hm6 hD6=>?_))
   have K6:=K23.trans (Kp.of_le hm6)
   refine plains (cx:=cx.withG G') (rm.le (by decide)) hs ?_
   refine EV.subS rfl rfl (SubV.dict (dkI false) (ep:=some nn) (K6 _ _ eo rfl) (hlk e he) (iX2d e.l e.ps rfl ((P3 e he).keep K6) (by lia) (fun D8 m8 hm8 hD8=>?_)))
   refine Op2.neD (hD6.le hm8) hD8 (shaped_plain _) (shaped_plain _) (Tr.bool ?_)
   rw [SeqAt.eqv_refl _ (shaped_lay (shaped_plain _))];refine ifF (by decide) ?_
   have K8:=K6.trans (Kp.of_le hm8)
   refine SV.nil (SV.nil (iX0b (fun d hd=>?_) ?_))
   ·cases hd;exact (K8 _ _ eo rfl).trans eo.symm
   ·exact ih _ (K8 _ _ eo rfl) ((B13.le hm6).le hm8) (fun e he=>(P3 e he).keep K8) (fun a x ha hx hb=>K8 _ _ (KB a x ha hx hb) hb) _ (Loc.le_trans (Loc.le_skip rfl) (Loc.le_skip rfl)) fun x hx=>hin x (.tail _ hx)
noncomputable def base0 : BSt:=⟨1,[],[(1,[])]⟩
noncomputable def specBInit : Spec:=fun args mem Q X=>∃ x d,args = [.ref x] /\ mem x = some (.inst 366 d) /\ mem d = some (.dictS true []) /\ ∀ m',BaseAt m' x base0 -> Kp mem m' -> Q .none m'
theorem fnBInit : FnK 3 279 specBInit:=by
 refine FnK.go (d:=mt 44 0) (qual:=S "MemBase.__init__") ["self"] (fun P=>rfl) (fun P=>by rfl) (by rfl) ?_ ?_
 ·exact fun _ _ _ _=>BindsTo.of_eq (by rfl)
 ·intro args mem Q X zz460;refine eX2d zz460 ?_;clear zz460;intro x d ee461 hx hd hQ;subst ee461
  refine ⟨rfl,fun cx hs hw rm=>?_⟩
  have hxd : x ≠ d:=fun q=>by rw [q,hd] at hx;cases hx
  refine SV.cons (S1.setAttr hs (EV.cInt (EV.name rfl (SetAttrV.inst hx hd sokL (nle rfl) ?_))))
  have K1 : Kp mem (mset mem d (.dictS true (sput [] "last" (.int 0)))):=Kp.set hd rfl
  have hx1 : mset mem d (.dictS true (sput [] "last" (.int 0))) x = some (.inst 366 d):=(mset_ne hxd).trans hx
  have hd1 : mset mem d (.dictS true (sput [] "last" (.int 0))) d = some (.dictS true [("last",.int 0)]):=mset_same ..
  generalize mset mem d (.dictS true (sput [] "last" (.int 0))) = m1 at K1 hx1 hd1
  as_aux_lemma =>
  refine SV.cons (S1.setAttr hs (EV.dict0I true fun nd hnd=>EV.name rfl (SetAttrV.inst (MLe.new hnd _ _ hx1) (MLe.new hnd _ _ hd1) sokN (nle rfl) ?_)))
  have nnd : nd ≠ d:=fun q=>by rw [q,hd1] at hnd;cases hnd
  have K2 : Kp mem (mset (mset m1 nd (.dictI true none [])) d (.dictS true (sput [("last",.int 0)] "notes" (.ref nd)))):=(K1.trans (Kp.new hnd)).trans (Kp.set (MLe.new hnd _ _ hd1) rfl)
  have hx2 : mset (mset m1 nd (.dictI true none [])) d (.dictS true (sput [("last",.int 0)] "notes" (.ref nd))) x = some (.inst 366 d):=(mset_ne hxd).trans (MLe.new hnd _ _ hx1)
  have hd2 : mset (mset m1 nd (.dictI true none [])) d (.dictS true (sput [("last",.int 0)] "notes" (.ref nd))) d = some (.dictS true [("last",.int 0),("notes",.ref nd)]):=mset_same ..
  have hn2 : mset (mset m1 nd (.dictI true none [])) d (.dictS true (sput [("last",.int 0)] "notes" (.ref nd))) nd = some (.dictI true none []):=(mset_ne nnd).trans (mset_same ..)
  generalize mset (mset m1 nd (.dictI true none [])) d (.dictS true (sput [("last",.int 0)] "notes" (.ref nd))) = m2 at K2 hx2 hd2 hn2
  as_aux_lemma =>
  refine SV.cons (S1.setAttr hs (EV.dict0I true fun zd hzd=>EV.name rfl (SetAttrV.inst (MLe.new hzd _ _ hx2) (MLe.new hzd _ _ hd2) sokZ (nle rfl) ?_)))
  have nzd : zd ≠ d:=fun q=>by rw [q,hd2] at hzd;cases hzd
  have nzn : nd ≠ zd:=fun q=>by rw [<- q,hn2] at hzd;cases hzd
  have K3 : Kp mem (mset (mset m2 zd (.dictI true none [])) d (.dictS true (sput [("last",.int 0),("notes",.ref nd)] "zaps" (.ref zd)))):=(K2.trans (Kp.new hzd)).trans (Kp.set (MLe.new hzd _ _ hd2) rfl)
  have B3 : BaseAt (mset (mset m2 zd (.dictI true none [])) d (.dictS true (sput [("last",.int 0),("notes",.ref nd)] "zaps" (.ref zd)))) x ⟨0,[],[]⟩ :=
   (iX1b (⟨d,nd,zd,0,[],[]⟩) (⟨(mset_ne hxd).trans (MLe.new hzd _ _ hx2),mset_same ..,(mset_ne nnd).trans (MLe.new hzd _ _ hn2),(mset_ne nzd).trans (mset_same ..),nzn,(fun p hp=>by cases hp),.nil,Nat.zero_le _,Nat.zero_le _,(by show (0 : Int) <= 0 /\ (0 : Int) <= 1000000;decide)⟩) rfl)
  generalize mset (mset m2 zd (.dictI true none [])) d (.dictS true (sput [("last",.int 0),("notes",.ref nd)] "zaps" (.ref zd))) = m3 at K3 B3
  as_aux_lemma =>
  refine SV.cons ?_
  refine S1.expr ?_ _ hs
  refine EV.methS rfl ?_
  refine B3.meth mokNewZap ?_
  refine EVs.nil ?_
  refine fnNewZap _ _ _ _ _ (rm.le (by decide)) ⟨x,rfl,_,B3,?_⟩
  refine T.wp_ask.mpr (T.wp_need.mpr (iX0b (iX0c (by decide) (by decide) (by decide)) (T.wp_out.mpr fun a m' B' K' _=>?_)))
  exact SV.nil (hQ _ B' (K3.trans K'))
theorem CallV.base {cx : Cx} {X : MQ Addr} {mem : Mem} {Q : MQ AV} (rm : Rm 4 cx.A) (h : ∀ b m',BaseAt m' b base0 -> Kp mem m' -> Q (.ref b) m') : CallV cx (.ref 366) [] mem Q X:=by
 refine CallV.make (fI:=279) true (n:=3) (fun P=>by rfl) (fun P=>by rfl) (fun P=>by rfl) rm fun x d A hx hd hne rmA=>fnBInit _ _ _ _ _ rmA ?_
 refine (iX2d x d rfl (mset_same ..) ((mset_ne (Ne.symm hne)).trans (mset_same ..)) (fun m' B' K'=>(iX0b rfl (h x m' B' (((Kp.new hd).trans (Kp.new ?_)).trans K')))))
 exact (mset_ne hne).trans hx
section
variable {cx : Cx} {loc : Loc} {mem : Mem} {s : Shared}
theorem InSt.tabUp (I : InSt cx loc mem s) {q : Tab} (hq : q ∈ cx.ts) (hd : ∀ r ∈ cx.ts,r.P = q.P -> r = q) {h' : Heap} {t : Nat} {c' : Addr} (x : Heap.ExtBut q.P s.heap h') (hP : h'.get? q.P = some (tabObj #[rawInt q.line,rawInt q.col,.ref c'])) (hc : h'.CodeRec (.ref c') q.qual) :
  InSt cx loc mem { s with heap:=h',toks:=t }:=by
 refine eX1b (I.st.tab q hq) fun ps h1 _=>?_
 have hG:=I.ok.baseT q hq
 have gne : ∀ b o,cx.G b = some o -> b ≠ q.P:=fun b o e z=>by rw [z,hG] at e;cases e
 have mne : ∀ b ao,mem b = some ao -> b ≠ q.P:=fun b ao e z=>by
  obtain ⟨_,o,ho,r⟩:=I.st.tr b ao e
  rw [z,h1] at ho;cases ho
  exact r.notTab _ rfl (.inl rfl)
 refine ⟨I.ok,⟨fun b o e n=>x b o (gne b o e) (I.st.kept b o e n),fun b ao e=>?_,fun r hr=>?_⟩,fun b o e n=>?_,?_,I.gens,I.drawn,I.os⟩
 ·obtain ⟨h2,o,h3,h4⟩:=I.st.tr b ao e
  exact ⟨h2,o,x b o (mne b ao e) h3,h4⟩
 ·by_cases z : r.P = q.P
  ·cases hd r hr z
   exact (iX1b _ hP (.inr (iX1b c' rfl hc)))
  ·refine eX1b (I.st.tab r hr) fun ps' h2 h3=>?_
   refine (iX1b ps' (x _ _ z h2) (h3.imp id fun zq120=>eX1b zq120 fun c2 e hc2=>(iX1b c2 e ?_)))
   refine eX4d hc2 fun c o vs t e1 e2 e3 e4=>?_
   exact (iX4d c o vs t e1 (x c o (fun w=>by rw [w,h1] at e2;cases e2;cases e3;rcases ‹ps = #[] \/ _› with rfl | ⟨c5,rfl,_⟩ <;> cases e4) e2) e3 e4)
 ·refine eX1a (I.fr b o e n) fun sl hs=>?_
  exact (iX1a sl (x b _ (gne b o e) hs))
 ·refine eX1b (I.fm.ns) fun m hn hm=>?_
  have hLP : cx.env.locals ≠ q.P:=fun z=>by
   refine eX3c hn fun o es n e1 e2 _=>?_
   rw [z,h1] at e1;cases e1;cases e2
  refine ⟨(iX1b m (hn.extBut x hLP) hm),I.fm.own,I.fm.ownM,fun y c e=>?_,I.fm.apart,I.fm.bound⟩
  refine eX0e (I.fm.cells y c e) fun c1 c2 zz462 c4 c5=>?_;refine eX2b zz462 fun v o ho hd'=>?_
  have cne : c ≠ q.P:=fun z=>by rw [z,h1] at ho;cases ho;cases hd'
  refine (iX0e c1 c2 (iX2b v o (x c o cne ho) hd') (fun k u hu=>?_) c5)
  refine eX1b (c4 k u hu) fun u' zz463 hu'=>?_;refine eX1b zz463 fun o' ho' hd2=>?_
  exact (iX1b u' (iX1b o' (x c o' cne ho') hd2) hu')
end
theorem InSt.freshFree {cx : Cx} {loc : Loc} {mem : Mem} {s : Shared} (I : InSt cx loc mem s) : Free cx s.heap.objs.size :=
 have f:=I.fresh
 ⟨f.2.1,f.2.2.1,f.2.2.2⟩
theorem lamMade {cx : Cx} {loc : Loc} {mem : Mem} {s : Shared} {sc scope : Scope} {params : Arguments} {body : Expr} {pos : Pos} {q : Tab} {c : Addr} {Q : Value -> Shared -> Prop} {E : Value -> Shared -> Prop}
  (I : InSt cx loc mem s) (hs : cx.env.scope = sc) (hc : compOk scope sc = true) (hq : q ∈ cx.ts) (hd : ∀ r ∈ cx.ts,r.P = q.P -> r = q) (hl : pos.line = q.line /\ pos.col = q.col) (hqual : cx.env.qual ++ "<lambda>" = q.qual) (hcode : cx.env.code = .ref c) (hcd : ∀ P,codeHdIn (KF P) c q.P = true) (hdef : defaultsOf params cx.env = ([],[]))
  (h : ∀ f c' cl pm ctv s',InSt cx loc mem s' -> Free cx f -> mem f = none -> s'.heap.get? f = some (kla_obj "<lambda>" q.qual params body scope cl pm c' ctv) -> s'.heap.CodeRec (.ref c') q.qual ->
   (∀ y c,cl.lookup y = some c -> (y,.free) ∈ scope.names /\ cx.env.cells.lookup y = some c) -> (∀ y,(y,.free) ∈ scope.names -> cl.lookup y = cx.env.cells.lookup y) -> Q (.ref f) s') :
  wpAny (model pw cx.w) cx.A (eval (.Lambda params body scope pos) cx.env) Q E s:=by
 refine eX1c (I.closure hs hc) fun cl c1 c2 c3=>?_
 refine eX1b (I.st.tab q hq) fun ps hP hps=>?_
 have C : CodeHd s.heap c q.P:=codeHd_of_K I.X (hcd _)
 have T:=I.T
 obtain ⟨bm,ob,b1,b2,b3,b4,b5,b6⟩:=T.bmain
 have hgP : mainGlobals ≠ q.P:=fun z=>by
  refine eX3c (T.g) fun o es ep e hd' _=>?_
  rw [z,hP] at e;cases e;cases hd'
 have hbP : bm ≠ q.P:=fun z=>by
  rw [z,hP] at b3;cases b3;cases b4
 have hbG : bm ≠ mainGlobals:=fun z=>by
  refine eX3c (T.g) fun o es ep e hd' _=>?_
  rw [z,e] at b3;cases b3;rw [hd'] at b6;cases b6
 have fin : ∀ (h' : Heap) (tk : Nat) (c' : Addr) (pm ctv : Value),InSt cx loc mem { s with heap:=h',toks:=tk } -> h'.CodeRec (.ref c') q.qual ->
   Q (.ref h'.objs.size) { s with heap:=h'.push (kla_obj "<lambda>" q.qual params body scope cl pm c' ctv),toks:=tk }:=fun h' tk c' pm ctv I1 hrec=>by
  have ff:=I1.freshFree
  have fm:=I1.fresh.1
  have I2 : InSt cx loc mem { s with heap:=h'.push (kla_obj "<lambda>" q.qual params body scope cl pm c' ctv),toks:=tk }:=I1.grow (t:=tk) fun b o e=>Heap.get?_push_of_some _ e
  refine eX4d hrec fun c0 o vs t e1 e2 e3 e4=>?_
  exact h _ c' cl pm ctv _ I2 ff fm (Heap.get?_push_size _ rfl) (iX4d c0 o vs t e1 (Heap.get?_push_of_some _ e2) e3 e4) c2 c3
 refine kla_eval hdef ?_
 rw [hqual]
 rcases hps with rfl | ⟨c',rfl,hrec⟩
 ·refine kla_makeFunction (mg:=cx.mg) c1 I.ok.glob T.g hcode C hP trivial rfl hgP (iX2h bm ob b1 b2 hbG hbP b3 b4 b5 b6) fun c' ctv h' tk hx hge hlt hrec htb=>?_
  refine fin h' tk c' _ ctv (I.tabUp hq hd hx ?_ hrec) hrec
  rw [htb,hl.1,hl.2];rfl
 ·refine kla_makeFunctionHit (mg:=cx.mg) (cv:=.ref c') c1 I.ok.glob T.g hcode C hP ?_ ?_ (iX2h bm ob b1 b2 hbG hbP b3 b4 b5 b6) fun ctv h' tk hk hsz=>?_
  ·exact TriplesOk_snoc _ _ _ [] trivial
  ·show (if ((q.line : Int) == pos.line && (q.col : Int) == pos.col) = true then _ else _) = _
   rw [hl.1,hl.2];simp
  ·have hrec' : h'.CodeRec (.ref c') q.qual:=by
    refine eX4d hrec fun c0 o vs t e1 e2 e3 e4=>?_
    exact (iX4d c0 o vs t e1 (hk _ _ e2) e3 e4)
   exact fin h' tk c' _ ctv (I.grow hk) hrec'
noncomputable def CellG (cx : Cx) (c : Addr) (v : Option Value) : Prop:=c ∉ frs cx.l /\ ∃ o,cx.G c = some o /\ o.data = .cell v
noncomputable def lamCx (cx : Cx) (h : Heap) (env : Env) : Cx:={ cx with A:=cx.A.deeper env,env:=env,l:=env :: cx.l,G:=frz cx h,wr:=false }
theorem lamFroz (cx : Cx) {h : Heap} {env : Env} {L : Addr} (hf : env.frame = some L) (hL : h.get? L = none) : Froz cx (lamCx cx h env) h:=by
 refine ⟨rfl,rfl,rfl,rfl,rfl,rfl,rfl,rfl,rfl,rfl,rfl,fun b hb=>?_,fun b hb=>?_⟩
 ·have : b ∈ frs (env :: cx.l):=hb
  rw [frs,List.filterMap_cons,hf] at this
  rcases List.mem_cons.mp this with rfl | this
  ·exact .inr hL
  ·exact .inl this
 ·show b ∈ frs (env :: cx.l)
  rw [frs,List.filterMap_cons,hf]
  exact List.mem_cons_of_mem _ hb
theorem InSt.enterL {cx : Cx} {loc locC : Loc} {mem : Mem} {s : Shared} (I : InSt cx loc mem s) {scope : Scope} {qual : Str} {a : Addr} {cd : Value} {cl : List (Str × Addr)} {h₁ : Heap} {t : Nat}
  (hns : h₁.Ns s.heap.objs.size fun _=>none) {o0 : Obj} (hsb : Heap.SameBut s.heap.objs.size (s.heap.push o0) h₁)
  (hk : scope.kind = .function) (hd : cx.A.depth + 1 <= 900) (hu : cx.A.units + 3 <= 9000) (hnc : ∀ p ∈ scope.names,p.2 ≠ .cell)
  (hcl : ∀ y c,cl.lookup y = some c -> ∃ v,CellG cx c v) (hap : ∀ x y c,cl.lookup x = some c -> cl.lookup y = some c -> x = y)
  (hlo : ∀ y v,locC.lookup y = some v -> scope.names.lookup y = some .free /\ ∃ c u,cl.lookup y = some c /\ CellG cx c (some u) /\ er u = v) :
  InSt (lamCx cx s.heap (envX qual scope s.heap.objs.size a cd cl)) locC mem { s with heap:=h₁,toks:=t }:=by
 have fr:=I.fresh
 have hLn : s.heap.get? s.heap.objs.size = none:=Heap.get?_none_of_le (Nat.le_refl _)
 have keep : ∀ b o,s.heap.get? b = some o -> h₁.get? b = some o:=fun b o e=>hsb.extBut b o (Nat.ne_of_lt (Heap.lt_size e)) (Heap.get?_push_of_some _ e)
 have cAt : ∀ c v,CellG cx c v -> ∃ o,s.heap.get? c = some o /\ o.data = .cell v:=fun c v ⟨n,o,e,hd⟩=>(iX1b o (I.st.kept c o e n) hd)
 have noCell : ∀ y,scope.names.lookup y ≠ some .cell:=fun y h=>hnc _ (lookup_mem h) rfl
 refine ⟨⟨I.ok.X,I.ok.T,fun b o e=>?_,I.ok.sysm,fun b hb=>?_,fun q hq=>?_,hd,hu,I.ok.handled,?_,hk,?_,fun y hy=>absurd hy (noCell y),rfl,rfl,fun e he=>?_⟩,⟨fun b o e n=>?_,fun a ao e=>?_,?_⟩,fun b o e n=>?_,⟨(iX1b _ hns (fun y v ky hy=>?_)),I.frzSize hLn,fr.1,fun y c e=>?_,fun y z c e1 e2=>hap y z c e1 e2,fun y v e=>?_⟩,I.gens,I.drawn,I.os⟩
 ·show frz cx s.heap b = some o
  by_cases w : Own cx.env b
  ·rw [frz_own w];exact I.keep b o e
  ·rw [frz_not w];exact I.ok.base b o e
 ·have hb : b ∈ frs (envX qual scope s.heap.objs.size a cd cl :: cx.l):=hb
  rw [frs,List.filterMap_cons] at hb
  rcases List.mem_cons.mp hb with rfl | hb
  ·cases q : cx.hb.get? s.heap.objs.size with
   | none=>exact q
   | some o=>exact absurd (I.keep _ _ q) (by rw [hLn];nofun)
  ·exact I.ok.baseF b hb
 ·show frz cx s.heap q.P = none
  refine eX1b (I.st.tab q hq) fun ps hP _=>?_
  have w : ¬ Own cx.env q.P:=fun w=>by
   refine eX1b (I.ownGet w) fun ob hob hd=>?_
   rw [hP] at hob;cases hob
   rcases hd with ⟨_,_,hd⟩ | ⟨_,hd⟩ <;> cases hd
  rw [frz_not w];exact I.ok.baseT q hq
 ·show (cx.A.deeper _).frames = _
  exact Around.frames_deeper I.ok.frames
 ·show cx.hb.objs.size <= s.heap.objs.size
  refine eX1b (I.fm.ns) fun m0 hn0 _=>?_
  exact Nat.le_of_lt (Nat.lt_of_le_of_lt I.ok.above hn0.lt)
 ·rcases List.mem_cons.mp (show e ∈ envX qual scope s.heap.objs.size a cd cl :: cx.l from he) with rfl | he
  ·exact ⟨by rw [show (envX qual scope s.heap.objs.size a cd cl).scope.kind = .function from hk];decide,_,rfl,.inr rfl⟩
  ·obtain ⟨h1,L,h2,h3⟩:=I.ok.outer e he
   refine ⟨h1,L,h2,.inl ?_⟩
   show ∃ o es n,frz cx s.heap L = some o /\ _
   have hLf : L ∈ frs cx.l:=List.mem_filterMap.mpr (iX1b e he h2)
   by_cases w : Own cx.env L
   ·rw [frz_own w]
    rcases h3 with ⟨o,es,n,h4,h5⟩ | h3
    ·refine eX1a (I.fr L o h4 hLf) fun sl h6=>?_
     exact (iX3b _ es n h6 h5)
    ·refine eX1b (I.fm.ns) fun m0 zz464 _=>?_;refine eX3c zz464 fun o es n h6 h7 _=>?_
     exact (iX3b o es n (h3 ▸ h6) h7)
   ·rw [frz_not w]
    rcases h3 with h3 | h3
    ·exact h3
    ·exact absurd (.inl h3) w
 ·have n' : b ∉ frs cx.l:=fun q=>n (by show b ∈ frs (_ :: cx.l);rw [frs,List.filterMap_cons];exact List.mem_cons_of_mem _ q)
  exact keep b o ((I.frzGet e).1 n')
 ·obtain ⟨h1,o,h2,h3⟩:=I.st.tr a ao e
  refine ⟨?_,o,keep _ _ h2,h3⟩
  have w : ¬ Own cx.env a:=fun w=>by rw [I.ownM w] at e;cases e
  show frz cx s.heap a = none
  rw [frz_not w];exact h1
 ·exact I.st.tab.keep fun b o vs e _ _=>keep b o e
 ·have n : b ∈ frs (envX qual scope s.heap.objs.size a cd cl :: cx.l):=n
  rw [frs,List.filterMap_cons] at n
  rcases List.mem_cons.mp n with rfl | n
  ·have : frz cx s.heap s.heap.objs.size = some o:=e
   rw [I.frzSize hLn] at this;cases this
  ·refine eX1a ((I.frzGet e).2 n) fun sl h1=>?_
   exact (iX1a sl (keep _ _ h1))
 ·have ky : scope.names.lookup y = some .local:=ky
  rw [(hlo y v hy).1] at ky;cases ky
 ·refine eX1a (hcl y c e) fun v0 g=>?_
  refine eX1b (cAt c v0 g) fun o ho hod=>?_
  have mc : mem c = none:=by
   cases q : mem c with
   | none=>rfl
   | some ao=>obtain ⟨_,o1,h1,_⟩:=g;rw [(I.st.tr c ao q).1] at h1;cases h1
  refine (iX0e mc (Nat.ne_of_lt (Heap.lt_size ho)) (iX2b v0 o (keep _ _ ho) hod) (fun _ v hv=>?_) (fun w=>by cases w))
  obtain ⟨_,c2,u,e2,g2,hu⟩:=hlo y v hv
  have : c2 = c:=by
   have e' : cl.lookup y = some c:=e
   rw [e2] at e';exact Option.some.inj e'
  subst this
  refine eX1b (cAt c2 _ g2) fun o2 ho2 hod2=>?_
  exact (iX1b u (iX1b o2 (keep _ _ ho2) hod2) hu)
 ·obtain ⟨h1,c,u,e2,_⟩:=hlo y v e
  exact .inr ⟨.inr h1,c,e2⟩
theorem lamCall {cx : Cx} {X : MQ Addr} {mem : Mem} {Q : MQ AV} {f c' : Addr} {qual : Str} {params : Arguments} {body : Expr} {scope : Scope} {cl : List (Str × Addr)} {pm ctv : Value} {oc : Obj} {vs : Array Value} {tq : Tok} {locC : Loc} {n : Nat} (rm : Rm (n + 1) cx.A)
  (hf : cx.G f = some (kla_obj "<lambda>" qual params body scope cl pm c' ctv)) (hfl : f ∉ frs cx.l) (hc : cx.G c' = some oc) (hcl' : c' ∉ frs cx.l) (hoc : oc.data = .fields vs) (hvs : vs[1]? = some (.str qual tq))
  (hk : scope.kind = .function) (hco : scope.isCoroutine = false) (hgen : scope.isGenerator = false) (hnc : ∀ p ∈ scope.names,p.2 ≠ .cell)
  (hbind : ∀ fd : FuncData,fd.params = params -> fd.defaults = .none -> bindArgs fd ⟨[],[]⟩ = pure [])
  (hcl : ∀ y c,cl.lookup y = some c -> ∃ v,CellG cx c v) (hap : ∀ x y c,cl.lookup x = some c -> cl.lookup y = some c -> x = y)
  (hlo : ∀ y v,locC.lookup y = some v -> scope.names.lookup y = some .free /\ ∃ c u,cl.lookup y = some c /\ CellG cx c (some u) /\ er u = v)
  (h : ∀ cx',cx'.env.scope = scope -> Rm n cx'.A -> EV cx' body locC mem Q X) : CallV cx (.ref f) [] mem Q X:=fun loc as has s I=>by
 cases List.map_eq_nil_iff.mp has
 have hfo:=I.st.kept f _ hf hfl
 have hco':=I.st.kept c' _ hc hcl'
 refine wpAny_call (kla_callFunE (by have:=rm.depth;show _ < 1000;lia) hfo rfl hco hgen rfl (iX4d c' oc vs tq rfl hco' hoc hvs) ?_)
 rw [hbind _ rfl rfl]
 refine wpAny_pure ?_
 refine wpAny_newFunctionEnv (fun x hx=>hnc x hx) (by intro y hy;simp at hy) (fun h₁ hns hsb=>?_) hk
 have keep : ∀ b o,s.heap.get? b = some o -> h₁.get? b = some o:=fun b o e=>hsb.extBut b o (Nat.ne_of_lt (Heap.lt_size e)) (Heap.get?_push_of_some _ e)
 refine (iX0b ((I.T.nolimit).keeps keep) (kla_codeExpr ?_))
 have I':=I.enterL (t:=s.toks + ([] : List (Str × Value)).length) (scope:=scope) (qual:=qual) (a:=f) (cd:=.ref c') (cl:=cl) (locC:=locC) hns hsb hk (by have:=rm.depth;lia) (by have:=rm.units;lia) hnc hcl hap hlo
 have Z:=lamFroz cx (h:=s.heap) (env:=envX qual scope s.heap.objs.size f (.ref c') cl) rfl (Heap.get?_none_of_le (Nat.le_refl _))
 have hh:=h (lamCx cx s.heap (envX qual scope s.heap.objs.size f (.ref c') cl)) rfl ⟨by show cx.A.depth + 1 + 20 * n <= 900;have:=rm.depth;lia,by show cx.A.units + 3 + 200 * n <= 9000;have:=rm.units;lia,rm.handled⟩ _ I'
 refine wpAny_mono hh (fun v s₂ zq122=>eX1b zq122 fun m' I2 q=>(iX1b m' (Z.thaw I I2) q)) fun e s₂ zq123=>eX2b zq123 fun C m' xx q=>?_
 exact wpAny_mono (leaveX Z I rfl rfl xx) (fun _ s₃ y=>(iX2b C m' y q)) fun _ _ y=>y
section
variable {M : Model} {A : Around} {E : Value -> Shared -> Prop}
variable {nm q : Str} {C N : Addr} {bs bm : List Value} {hdct : Bool} {sn : List Str} {sub : List Value} {ab : Bool} {col : Option Bool} {dd : Option Addr} {k0 k1 k2 k3 k5 : Option Value} {newId : String}
variable {nm' q' : Str} {C' N' : Addr} {bs' bm' : List Value} {hdct' : Bool} {sn' : List Str} {sub' : List Value} {ab' : Bool} {col' : Option Bool} {dd' : Option Addr} {k0' k1' k2' k3' k5' : Option Value} {newId' : String}
theorem excMatches_two {h : Heap} {g : Array GenState} {d : Drawn} {t : Nat} {os : OsState} {e : Addr} {oe : Obj} {b : Bool} {Q : Bool -> Shared -> Prop}
  (hC : h.get? C = some (excClassObj nm q C N bs bm hdct sn sub ab col dd k0 k1 k2 k3 k5 newId)) (hC' : h.get? C' = some (excClassObj nm' q' C' N' bs' bm' hdct' sn' sub' ab' col' dd' k0' k1' k2' k3' k5' newId')) (he : h.get? e = some oe) (hcls : oe.cls = .ref C)
  (hcB : (Value.ref C' :: bm').contains (.type "BaseException") = true) (hcC : (Value.ref C :: bm).contains (.ref C') = b)
  (hq : Q b ⟨h,g,d,t,os⟩) : wpAny M A (excMatches (.ref e) (.ref C')) Q E ⟨h,g,d,t,os⟩:=by
 have f:=tc_notTuple
 unfold excMatches
 repeat (first | (with_reducible refine wpAny_loadPart_at he ?_;rw [hcls]) | with_reducible refine wpAny_loadPart_at hC' ?_ | (with_reducible refine wpAny_isSubtype_exc hC' ?_;rw [hcB]) | (with_reducible refine wpAny_isSubtype_exc hC ?_;rw [hcC]) | wp_step)
 cases b <;> (try wp_walk) <;> exact hq
end
noncomputable def IsExcCls (C : Addr) (bm : List Value) (o : Obj) : Prop:=∃ nm q N bs,∃ sn sub ab col,∃ dd k0 k1 k2,∃ k3 k5,o = excClassObj nm q C N bs bm true sn sub ab col dd k0 k1 k2 k3 k5 "Exception.__new__"
theorem excMatches2 {M : Model} {A : Around} {E : Value -> Shared -> Prop} {C C' : Addr} {bm bm' : List Value} {o o' : Obj} {h : Heap} {g : Array GenState} {d : Drawn} {t : Nat} {os : OsState} {e : Addr} {oe : Obj} {b : Bool} {Q : Bool -> Shared -> Prop}
  (hC : h.get? C = some o) (x : IsExcCls C bm o) (hC' : h.get? C' = some o') (x' : IsExcCls C' bm' o') (he : h.get? e = some oe) (hcls : oe.cls = .ref C)
  (hcB : (Value.ref C' :: bm').contains (.type "BaseException") = true) (hcC : (Value.ref C :: bm).contains (.ref C') = b)
  (hq : Q b ⟨h,g,d,t,os⟩) : wpAny M A (excMatches (.ref e) (.ref C')) Q E ⟨h,g,d,t,os⟩:=by
 refine eX4a x fun _ _ _ _ x=>?_;refine eX4a x fun _ _ _ _ x=>?_;refine eX4a x fun _ _ _ _ x=>?_;refine eX2a x fun _ _ x=>?_;subst x
 refine eX4a x' fun _ _ _ _ x=>?_;refine eX4a x fun _ _ _ _ x=>?_;refine eX4a x fun _ _ _ _ x=>?_;refine eX2a x fun _ _ x=>?_;subst x
 exact excMatches_two hC hC' he hcls hcB hcC hq
noncomputable def Caught (cx : Cx) (mem : Mem) (C e : Addr) (s : Shared) : Prop:=InSt cx [] mem s /\ ∃ B a0,StB cx mem B /\ Heap.FlyingW B cx.l e (.ref C) a0 s.heap
noncomputable def OnTop (cx : Cx) : Prop:=cx.env.cells = [] /\ cx.env.frame = some cx.env.locals /\ ∃ outer,cx.l = cx.env :: outer
theorem InSt.caught {cx : Cx} {mem' : Mem} {h h' B : Heap} {g : Array GenState} {d : Drawn} {t : Nat} {os : OsState} {e C : Addr} {a0 : Value} (top : OnTop cx) (own : cx.G cx.env.locals = none)
  (ok : CxOk cx) (hg : g = cx.g) (hd : d = cx.d) (ho : os = cx.os) (fr : Fram cx h) (ns : ∃ m,h.Ns cx.env.locals m) (sb : StB cx mem' B) (up : h.UpToSlots h') (fl : Heap.FlyingW B cx.l e (.ref C) a0 h') : Caught cx mem' C e ⟨h',g,d,t,os⟩:=by
 obtain ⟨hcells,hframe,outer,hl⟩:=top
 have fl':=fl
 obtain ⟨f1,f2,f3,oe,vs,T,oT,ts,he,zz465,_⟩:=fl;refine eX0b zz465 fun hc _=>?_
 have hdict : ∀ b o,cx.G b = some o -> b ∈ frs cx.l -> ∀ vs,o.data ≠ .fields vs:=fun b o e m vs q=>by
  rcases ok.frDict e m with ⟨es,n,hd⟩ | hd
  ·rw [hd] at q;cases q
  ·rw [hd,own] at e;cases e
 refine eX1a ns fun m hn=>?_
 refine ⟨⟨ok,⟨fun b o e n=>f1 b o (sb.kept b o e n),fun a ao e=>?_,sb.tab.keep fun b o vs e _ _=>f1 b o e⟩,fr.slots up hdict,⟨(iX1b m (up.ns hn) (fun x v _ hx=>by cases hx)),own,?_,fun x c hx=>?_,fun x y c hx=>?_,fun x v hx=>by cases hx⟩,hg,hd,ho⟩,B,a0,sb,fl'⟩
 ·obtain ⟨h1,o,h2,h3⟩:=sb.tr a ao e
  exact ⟨h1,o,f1 a o h2,h3⟩
 ·rw [hl] at f3
  refine eX0c f3 fun _ zz466 _=>?_;refine eX2c zz466 fun L o hL hB _=>?_
  rw [hframe] at hL;cases hL
  cases q : mem' cx.env.locals with
  | none=>rfl
  | some ao =>
   obtain ⟨_,o,h2,_⟩:=sb.tr _ ao q
   rw [hB] at h2;cases h2
 ·rw [hcells] at hx;cases hx
 ·rw [hcells] at hx;cases hx
noncomputable def clause (x : Str) (p p1 p2 pos : Pos) (ret : Str) (k : Nat) : ExceptHandler:=.ExceptHandler (some (.Name x p)) none [.Return (some (.Constant (.str ret) k p1)) p2] pos
section
variable {cx : Cx} {mem : Mem} {s : Shared} {C C' e : Addr} {x ret : Str} {p p1 p2 pos : Pos} {k : Nat} {sc : Scope} {rest : List ExceptHandler} {Q : Flow -> Shared -> Prop} {E : Value -> Shared -> Prop}
theorem Caught.lands (I : Caught cx mem C e s) (top : OnTop cx) {A : Around} {R : Unit -> Shared -> Prop} (h : ∀ s2,Caught cx mem C e s2 -> R () s2) : wpAny (model pw cx.w) A (setFlight (.ref e) none) R E s:=by
 obtain ⟨I,B,a0,sb,fl⟩:=I
 obtain ⟨hp,g,d,t,os⟩:=s
 refine eX1b (I.fm.ns) fun m hn _=>?_
 refine wpAny_setFlight_noneW fl.1 fl.2.2.1 fl.2.2.2.at fun h' k1 k2 k3 k4=>h _ ?_
 exact InSt.caught top I.fm.own I.ok I.gens I.drawn I.os I.fr (iX1a m hn) sb (fun b o hb hn=>(iX1a o.slots (k4 b o hb hn))) (iX0d k1 fl.2.1 k2 k3)
theorem excBm {C C' : Addr} (h : isExc C = true) (h' : isExc C' = true) (P : Params) : ∃ o bm,(KF P).lookup C = some o /\ IsExcCls C bm o /\ (Value.ref C :: bm).contains (.type "BaseException") = true /\ (Value.ref C :: bm).contains (.ref C') = decide (C = C'):=by
 simp only [isExc,Bool.or_eq_true,decide_eq_true_eq] at h h'
 rcases h with (((rfl | rfl) | rfl) | rfl) | rfl <;> refine iX2d _ _ rfl (iX4a _ _ _ _ (iX4a _ _ _ _ (iX4a _ _ _ _ (iX2a _ _ rfl)))) (by decide +kernel) ?_ <;> rcases h' with (((rfl | rfl) | rfl) | rfl) | rfl <;> decide +kernel
theorem clauseTest (I : Caught cx mem C e s) (top : OnTop cx) (hs : cx.env.scope = sc) (hv : nsIn (KF cx.w.params) mainGlobals x = some (some (.ref C'))) (hC : isExc C = true) (hC' : isExc C' = true)
  (hk : sc.names.lookup x = some .globalImplicit) (hd : (x == ("__debug__" : Str)) = false)
  (h : if C = C' then (∀ tk s2,Caught cx mem C e s2 -> Q (.ret (.str ret tk)) s2) else wpAny (model pw cx.w) cx.A (handleBy (.ref e) cx.env rest) Q E s) :
  wpAny (model pw cx.w) cx.A (handleBy (.ref e) cx.env (clause x p p1 p2 pos ret k :: rest)) Q E s:=by
 subst hs
 have I1:=I.1
 refine eX2b I.2 fun B a0 sb fl=>?_
 refine eX1b fl.there fun oe he hcls=>?_
 refine wpAny_handleBy_cons (codeAny_handlers_test (Name_function_global I1.ok.kind hk (loadGlobal_global (env:=cx.env) (by rw [I1.ok.glob];exact I1.T.g) (mg_of I1.ok.X I1.ok.T.g hv) ?_) hd)) (by intro q;cases q)
 refine eX2d (excBm hC hC' cx.w.params) fun o bm o1 x1 o2 o3=>?_
 refine eX2d (excBm hC' hC cx.w.params) fun o' bm' o1' x1' o2' o3'=>?_
 have g1:=I1.X _ _ o1
 have g2:=I1.X _ _ o1'
 have I':=I
 obtain ⟨hp,g,d,t,os⟩:=s
 refine excMatches2 (b:=decide (C = C')) g1 x1 g2 x1' he hcls o2' o3 ?_
 by_cases hc : C = C'
 ·rw [if_pos hc] at h
  rw [decide_eq_true hc]
  refine codeAny_handlers_suite (I.lands top fun s2 I2=>?_)
  refine wpAny_execs_cons (wpAny_Return_some (Calls.Constant_str ?_))
  exact h _ _ (iX0b I2.1.toks I2.2)
 ·rw [if_neg hc] at h
  rw [decide_eq_false hc]
  exact h
end
section
variable {cx : Cx} {X : MQ Addr} {Qr : MQ AV} {loc : Loc} {mem : Mem} {Qn : LQ}
theorem ExcSt.noted {s : Shared} {C e : Addr} {E : Value -> Shared -> Prop} {R : Unit -> Shared -> Prop} (top : OnTop cx) (own : cx.G cx.env.locals = none) (x : ExcSt cx C mem (.ref e) s)
  (h : ∀ s2,Caught cx mem C e s2 -> R () s2) : wpAny (model pw cx.w) cx.A (noteFrame (.ref e) cx.env) (fun _ s2=>wpAny (model pw cx.w) cx.A (setFlight (.ref e) none) R E s2) E s:=by
 obtain ⟨ok,h1,h2,h3,fram,ns,ea,a0,B,q,sb,stays,hen,ff,k⟩:=x
 cases q
 have top':=top
 obtain ⟨hcells,hframe,outer,hl⟩:=top
 have hfr : cx.A.frames = some (cx.env :: outer):=ok.frames.trans (by rw [hl])
 obtain ⟨hp,g,d,t,os⟩:=s
 have fin : ∀ h',Heap.UpToSlots hp h' -> Heap.HeldW B cx.l e (.ref C) a0 cx.env.locals h' -> wpAny (model pw cx.w) cx.A (setFlight (.ref e) none) R E ⟨h',g,d,t,os⟩:=fun h' up hw=>by
  refine wpAny_landsW hw fun hq fl up2=>h _ ?_
  exact InSt.caught top' own ok h1 h2 h3 fram ns sb (up.trans up2) fl
 rcases k with ⟨oe,vs,g1,g2,g3,g4,g5⟩ | fl
 ·unfold noteFrame
  simp only [hframe]
  refine wpAny_bind (wpAny_field g1 g3 g5 ?_)
  rw [if_neg (by decide)]
  refine wpAny_entryW hfr (hl ▸ ff) hframe g1 stays hen g3 (Array.getElem?_eq_some_iff.mp g5).1 g4 fun h' hN=>?_
  refine eX0d hN fun k1 k2 k3 k4=>?_
  refine fin h' k4 (iX0d k1 hen (hl ▸ k2) (g2 ▸ k3))
 ·refine wpAny_looks_onW hfr hframe (hl ▸ fl) fun h' hw up=>fin h' up (hl ▸ hw)
theorem S1.try4 {body : List Stmt} {x1 x2 x3 x4 r1 r2 r3 r4 : Str} {p1 p2 p3 p4 q1 q2 q3 q4 u1 u2 u3 u4 v1 v2 v3 v4 pos : Pos} {k1 k2 k3 k4 : Nat} {sc : Scope} {C1 C2 C3 C4 : Addr} (top : OnTop cx) (hs : cx.env.scope = sc)
  (hv1 : ∀ P,nsIn (KF P) mainGlobals x1 = some (some (.ref C1))) (hv2 : ∀ P,nsIn (KF P) mainGlobals x2 = some (some (.ref C2))) (hv3 : ∀ P,nsIn (KF P) mainGlobals x3 = some (some (.ref C3))) (hv4 : ∀ P,nsIn (KF P) mainGlobals x4 = some (some (.ref C4)))
  (he : (isExc C1 && isExc C2 && isExc C3 && isExc C4) = true) (hne : (decide (C1 ≠ C2) && decide (C1 ≠ C3) && decide (C1 ≠ C4) && decide (C2 ≠ C3) && decide (C2 ≠ C4) && decide (C3 ≠ C4)) = true)
  (hk1 : sc.names.lookup x1 = some .globalImplicit) (hk2 : sc.names.lookup x2 = some .globalImplicit) (hk3 : sc.names.lookup x3 = some .globalImplicit) (hk4 : sc.names.lookup x4 = some .globalImplicit)
  (hd1 : (x1 == ("__debug__" : Str)) = false) (hd2 : (x2 == ("__debug__" : Str)) = false) (hd3 : (x3 == ("__debug__" : Str)) = false) (hd4 : (x4 == ("__debug__" : Str)) = false)
  (h : SV cx body loc mem (fun _ _=>False) Qr (fun C m=>(C = C1 /\ Qr (.str r1) m) \/ (C = C2 /\ Qr (.str r2) m) \/ (C = C3 /\ Qr (.str r3) m) \/ (C = C4 /\ Qr (.str r4) m))) :
  S1 cx (.Try body [clause x1 p1 q1 u1 v1 r1 k1,clause x2 p2 q2 u2 v2 r2 k2,clause x3 p3 q3 u3 v3 r3 k3,clause x4 p4 q4 u4 v4 r4 k4] [] [] pos) loc mem Qn Qr X:=fun s I=>by
 simp only [Bool.and_eq_true,decide_eq_true_eq] at he hne
 refine eX0b he fun zz467 e4=>?_;refine eX0b zz467 fun zz468 e3=>?_;refine eX0b zz468 fun e1 e2=>?_
 refine eX0b hne fun zz469 n6=>?_;refine eX0b zz469 fun zz470 n5=>?_;refine eX0b zz470 fun zz471 n4=>?_;refine eX0b zz471 fun zz472 n3=>?_;refine eX0b zz472 fun n1 n2=>?_
 refine wpAny_Try_except (wpAny_mono (h s I) (fun f s' p=>?_) fun e s' p=>?_)
 ·cases f with
  | next=>refine eX2b p fun _ _ _ q=>?_;exact q.elim
  | ret v=>exact p
  | _=>exact p.elim
 ·refine eX2b p fun C m x hC=>?_
  have hea : ∃ ea,e = .ref ea:=by obtain ⟨_,_,_,_,_,_,ea,_,_,q,_⟩:=x;exact (iX1a ea q)
  refine eX1a hea ?_;clear hea;intro ea ee473;subst ee473
  refine x.noted top I.fm.own fun s2 I2=>?_
  have done : ∀ (r : Str),Qr (.str r) m -> ∀ tk s3,Caught cx m C ea s3 -> SPost cx Qn Qr (.ret (.str r tk)) s3:=fun r hr tk s3 I3=>(iX2b ([]) m I3.1 hr)
  rcases hC with ⟨rfl,hq⟩ | ⟨rfl,hq⟩ | ⟨rfl,hq⟩ | ⟨rfl,hq⟩
  ·refine clauseTest I2 top hs (hv1 _) e1 e1 hk1 hd1 ?_
   refine ifT rfl ?_;exact done _ hq
  ·refine clauseTest I2 top hs (hv1 _) e2 e1 hk1 hd1 ?_
   refine ifF (Ne.symm n1) ?_
   refine clauseTest I2 top hs (hv2 _) e2 e2 hk2 hd2 ?_
   refine ifT rfl ?_;exact done _ hq
  ·refine clauseTest I2 top hs (hv1 _) e3 e1 hk1 hd1 ?_
   refine ifF (Ne.symm n2) ?_
   refine clauseTest I2 top hs (hv2 _) e3 e2 hk2 hd2 ?_
   refine ifF (Ne.symm n4) ?_
   refine clauseTest I2 top hs (hv3 _) e3 e3 hk3 hd3 ?_
   refine ifT rfl ?_;exact done _ hq
  ·refine clauseTest I2 top hs (hv1 _) e4 e1 hk1 hd1 ?_
   refine ifF (Ne.symm n3) ?_
   refine clauseTest I2 top hs (hv2 _) e4 e2 hk2 hd2 ?_
   refine ifF (Ne.symm n5) ?_
   refine clauseTest I2 top hs (hv3 _) e4 e3 hk3 hd3 ?_
   refine ifF (Ne.symm n6) ?_
   refine clauseTest I2 top hs (hv4 _) e4 e4 hk4 hd4 ?_
   refine ifT rfl ?_;exact done _ hq
end
noncomputable def LamG (cx : Cx) (f : Addr) (qual : Str) (params : Arguments) (body : Expr) (scope : Scope) (locC : Loc) : Prop :=
 ∃ cl pm c' ctv oc vs tq,cx.G f = some (kla_obj "<lambda>" qual params body scope cl pm c' ctv) /\ f ∉ frs cx.l /\ cx.G c' = some oc /\ c' ∉ frs cx.l /\ oc.data = .fields vs /\ vs[1]? = some (.str qual tq) /\
  (∀ y c,cl.lookup y = some c -> ∃ v,CellG cx c v) /\ (∀ x y c,cl.lookup x = some c -> cl.lookup y = some c -> x = y) /\ (∀ y v,locC.lookup y = some v -> scope.names.lookup y = some .free /\ ∃ c u,cl.lookup y = some c /\ CellG cx c (some u) /\ er u = v)
noncomputable def LamH (cx : Cx) (loc : Loc) (f : Addr) (qual : Str) (params : Arguments) (body : Expr) (scope : Scope) (locC : Loc) : Prop :=
 ∃ cl pm c' ctv oc vs tq,cx.G f = some (kla_obj "<lambda>" qual params body scope cl pm c' ctv) /\ f ∉ frs cx.l /\ cx.G c' = some oc /\ c' ∉ frs cx.l /\ oc.data = .fields vs /\ vs[1]? = some (.str qual tq) /\
  (∀ y c,cl.lookup y = some c -> cx.env.cells.lookup y = some c) /\ (∀ y v,locC.lookup y = some v -> scope.names.lookup y = some .free /\ loc.lookup y = some v /\ cx.env.kindOf y = some .cell /\ ∃ c,cl.lookup y = some c)
section
variable {cx : Cx} {loc locC : Loc} {mem : Mem} {s : Shared} {f : Addr} {qual : Str} {params : Arguments} {body : Expr} {scope : Scope}
theorem InSt.cellNotFr (I : InSt cx loc mem s) {y : Str} {c : Addr} (e : cx.env.cells.lookup y = some c) : c ∉ frs cx.l:=fun m=>by
 refine eX0d (I.fm.cells y c e) fun _ c2 zz474 _=>?_;refine eX2b zz474 fun v o ho hd=>?_
 refine eX1b (List.mem_filterMap.mp m) fun env he hf=>?_
 obtain ⟨_,L,h1,h2⟩:=I.ok.outer env he
 rw [hf] at h1;cases h1
 rcases h2 with ⟨o',es,n,h3,h4⟩ | h3
 ·refine eX1a (I.fr c o' h3 m) fun sl h5=>?_
  rw [ho] at h5;cases h5
  rw [show ({ o' with slots:=sl } : Obj).data = o'.data from rfl,h4] at hd;cases hd
 ·exact c2 h3
theorem lamFreeze (I : InSt cx loc mem s) (H : LamH cx loc f qual params body scope locC) {env : Env} (hf : env.frame = some s.heap.objs.size) : LamG (calleeCx cx s.heap env) f qual params body scope locC:=by
 refine eX4a H fun cl pm c' ctv zy6=>?_;refine eX3h zy6 fun oc vs tq h1 h2 h3 h4 h5 h6 h7 h8=>?_
 have kp : ∀ b o,cx.G b = some o -> b ∉ frs cx.l -> ((∃ vs,o.data = .fields vs) \/ ∃ fd,o.data = .func fd) -> frz cx s.heap b = some o /\ b ∉ frs (env :: cx.l):=fun b o e n hd=>by
  have hb:=I.st.kept b o e n
  refine (iX0b ?_ (fun q=>?_))
  ·by_cases w : Own cx.env b
   ·rw [frz_own w,hb]
   ·rw [frz_not w,e]
  ·rw [frs,List.filterMap_cons,hf] at q
   rcases List.mem_cons.mp q with rfl | q
   ·exact absurd (Heap.lt_size hb) (Nat.lt_irrefl _)
   ·exact n q
 have cg : ∀ y c,cl.lookup y = some c -> ∀ v o,s.heap.get? c = some o -> o.data = .cell v -> CellG (calleeCx cx s.heap env) c v:=fun y c e v o ho hd=>by
  have ec:=h7 y c e
  refine ⟨fun q=>?_,o,?_,hd⟩
  ·have q : c ∈ frs (env :: cx.l):=q
   rw [frs,List.filterMap_cons,hf] at q
   rcases List.mem_cons.mp q with rfl | q
   ·exact absurd (Heap.lt_size ho) (Nat.lt_irrefl _)
   ·exact I.cellNotFr ec q
  ·show frz cx s.heap c = some o
   rw [frz_own (.inr (iX1a y ec)),ho]
 refine eX0b (kp _ _ h1 h2 (.inr (iX1a _ rfl))) fun k1 k2=>?_
 refine eX0b (kp _ _ h3 h4 (.inl (iX1a _ h5))) fun k3 k4=>?_
 refine (iX4a cl pm c' ctv (iX3i oc vs tq k1 k2 k3 k4 h5 h6 (fun y c e=>?_) (fun x y c e1 e2=>I.fm.apart x y c (h7 _ _ e1) (h7 _ _ e2)) (fun y v e=>?_)))
 ·refine eX0d (I.fm.cells y c (h7 y c e)) fun _ _ zz475 _=>?_;refine eX2b zz475 fun v o ho hd=>?_
  exact (iX1a v (cg y c e v o ho hd))
 ·obtain ⟨h9,h10,h11,c,h12⟩:=h8 y v e
  refine eX0e (I.fm.cells y c (h7 y c h12)) fun _ _ _ h13 _=>?_
  refine eX1b (h13 (.inl h11) v h10) fun u zz476 hu=>?_;refine eX1b zz476 fun o ho hd=>?_
  exact ⟨h9,c,u,h12,cg y c h12 _ o ho hd,hu⟩
theorem InSt.hideC (I : InSt cx loc mem s) {c' : Addr} {oc : Obj} {vs : Array Value} {tq : Tok} (ho : s.heap.get? c' = some oc) (hd : oc.data = .fields vs) (h1 : vs[1]? = some (.str qual tq)) :
  ∃ cx2,InSt cx2 loc mem s /\ cx2.env = cx.env /\ cx2.A = cx.A /\ cx2.w = cx.w /\ cx2.l = cx.l /\ (∀ b o,cx.G b = some o -> cx2.G b = some o) /\ cx2.G c' = some oc /\ c' ∉ frs cx.l /\ ∀ m s2,InSt cx2 loc m s2 -> InSt cx loc m s2:=by
 have nL : c' ≠ cx.env.locals:=fun q=>by
  refine eX1b (I.fm.ns) fun m zz477 _=>?_;refine eX3c zz477 fun o es n e1 e2 _=>?_
  rw [<- q,ho] at e1;cases e1;rw [hd] at e2;cases e2
 have nC : ∀ y c,cx.env.cells.lookup y = some c -> c ≠ c':=fun y c e q=>by
  refine eX0d (I.fm.cells y c e) fun _ _ zz478 _=>?_;refine eX2b zz478 fun v o e1 e2=>?_
  rw [q,ho] at e1;cases e1;rw [hd] at e2;cases e2
 have nF : c' ∉ frs cx.l:=fun m=>by
  refine eX1b (List.mem_filterMap.mp m) fun env he hf=>?_
  obtain ⟨_,L,g1,g2⟩:=I.ok.outer env he
  rw [hf] at g1;cases g1
  rcases g2 with ⟨o',es,n,h3,h4⟩ | h3
  ·refine eX1a (I.fr c' o' h3 m) fun sl h5=>?_
   rw [ho] at h5;cases h5
   rw [show ({ o' with slots:=sl } : Obj).data = o'.data from rfl,h4] at hd;cases hd
  ·exact nL h3
 cases hG : cx.G c' with
 | some o' =>
  have:=I.st.kept c' o' hG nF
  rw [ho] at this;cases this
  exact (iX1i cx I rfl rfl rfl rfl (fun _ _ e=>e) hG nF (fun _ _ e=>e))
 | none =>
  have fc : Free cx c':=⟨hG,nL,nC⟩
  have gne : ∀ b o',cx.G b = some o' -> b ≠ c':=fun b o' e q=>by rw [q,hG] at e;cases e
  have gN : ∀ b,b ≠ c' -> (hideCx cx c' oc).G b = cx.G b:=fun b h=>if_neg h
  have mne : ∀ b ao,mem b = some ao -> b ≠ c':=fun b ao e q=>by
   obtain ⟨_,o,e1,r⟩:=I.st.tr b ao e
   rw [q,ho] at e1;cases e1
   exact r.notTab vs hd (.inr (iX2a _ _ h1))
  have tne : ∀ q ∈ cx.ts,q.P ≠ c':=fun q hq z=>by
   refine eX1b (I.st.tab q hq) fun ps hP hps=>?_
   rw [z,ho] at hP;cases hP;cases hd
   rcases hps with rfl | ⟨c5,rfl,_⟩ <;> cases h1
  refine ⟨hideCx cx c' oc,⟨⟨I.ok.X,I.ok.T,fun b o' e=>(gN b (gne b _ (I.ok.base b o' e))).trans (I.ok.base b o' e),I.ok.sysm,I.ok.baseF,fun q hq=>(gN _ (tne q hq)).trans (I.ok.baseT q hq),I.ok.depth,I.ok.units,I.ok.handled,I.ok.frames,I.ok.kind,I.ok.above,I.ok.cellsAll,I.ok.glob,I.ok.blt,fun e he=>?_⟩,
   ⟨fun b o' e n=>?_,fun b ao e=>?_,I.st.tab⟩,fun b o' e n=>?_,⟨I.fm.ns,(gN _ (Ne.symm nL)).trans I.fm.own,I.fm.ownM,fun y c e=>?_,I.fm.apart,I.fm.bound⟩,I.gens,I.drawn,I.os⟩,rfl,rfl,rfl,rfl,fun b o e=>(gN b (gne b o e)).trans e,if_pos rfl,nF,fun m s2 I2=>(InSt.unhide I.ok fc I2).1⟩
  ·obtain ⟨h1,L,h2,h3⟩:=I.ok.outer e he
   exact ⟨h1,L,h2,h3.imp (fun zq124=>eX3b zq124 fun o' es n h4 h5=>(iX3b o' es n ((gN _ (gne _ _ h4)).trans h4) h5)) id⟩
  ·by_cases q : b = c'
   ·subst q
    have e2 : (if b = b then some oc else cx.G b) = some o':=e
    rw [if_pos rfl] at e2;cases e2;exact ho
   ·rw [gN b q] at e;exact I.st.kept b o' e n
  ·refine eX0b (I.st.tr b ao e) fun h1 h2=>?_
   exact (iX0b ((gN b (mne b ao e)).trans h1) h2)
  ·have q : b ≠ c':=fun q=>nF (q ▸ n)
   rw [gN b q] at e;exact I.fr b o' e n
  ·refine eX0e (I.fm.cells y c e) fun c1 c2 c3 c4 c5=>?_
   exact (iX0e c1 c2 c3 c4 (fun w k=>(gN c (nC y c e)).trans (c5 w k)))
end
section
variable {cx : Cx} {X : MQ Addr} {loc : Loc} {mem : Mem} {Q : MQ AV} {pos : Pos}
theorem EV.callL {f : Str} {p : Pos} {args : List Expr} {a : Addr} {oc : Value} {od : Option Addr} {fd : FuncData} {sl : Array (Option Value)} (hv : loc.lookup f = some (.ref a)) (hG : cx.G a = some ⟨oc,od,.func fd,sl⟩) (hF : a ∉ frs cx.l)
  (h : EVs cx args pos loc mem (KCall cx X (.ref a) Q) X) (hd : (f == ("__debug__" : Str)) = false:=by decide) (hc : (f == ("__classdict__" : Str)) = false:=by decide)
  (hst : (starEach args cx.env).all (fun x=>!x.1) = true:=by rfl) : EV cx (.Call (.Name f p) args [] pos) loc mem Q X:=fun s I=>by
 have hn : EV cx (.Name f p) loc mem (fun v m=>v = .ref a /\ m = mem) NoX:=EV.name hv (iX0b rfl rfl) hd hc
 refine wpAny_Call_Name_kw (wpAny_mono (hn s I) (fun v s' zq125=>eX1c zq125 fun m I' hv' hm=>?_) fun e s' zq126=>eX2b zq126 fun _ _ _ x=>x.elim)
 subst hm
 cases er_ref hv'
 exact callWith_any (P:=FnAt a) (backTo_plain hst) (fun h X=>keeps_F h X) (wpAny_mono (h s' I') (fun vs s2 zq127=>eX1b zq127 fun m I1 h1=>(iX0b (iX4a _ _ _ _ (I1.st.kept a _ hG hF)) (h1 loc vs rfl s2 I1))) fun _ _ x=>x)
end
noncomputable def ToldX (Q : MQ AV) : MQ Addr:=fun C m=>(C = 92 /\ Q (.str "broken") m) \/ (C = 68 /\ Q (.str "exists") m) \/ (C = 56 /\ Q (.str "missing") m) \/ (C = 80 /\ Q (.str "misused") m)
structure LamS (params : Arguments) (scope : Scope) : Prop where
 kind : scope.kind = .function
 co : scope.isCoroutine = false
 gen : scope.isGenerator = false
 nc : ∀ p ∈ scope.names,p.2 ≠ .cell
 bind : ∀ fd : FuncData,fd.params = params -> fd.defaults = .none -> bindArgs fd ⟨[],[]⟩ = pure []
theorem toldH {n : Nat} {f : Addr} {qual : Str} {params : Arguments} {body : Expr} {scope : Scope} {locC : Loc} (S : LamS params scope) :
  FnH (n + 2) 389 (fun cx loc=>LamH cx loc f qual params body scope locC) (fun args mem Q _=>args = [.ref f] /\ ∀ cx',cx'.env.scope = scope -> Rm n cx'.A -> EV cx' body locC mem Q (ToldX Q)):=by
 refine FnH.mk (n:=n + 1) (params:=dArgs (st 48)) (body:=dBody (st 48)) (scope:=dScope (st 48)) (qual:=Mine.S "_law_told") (H2:=fun cx=>LamG cx f qual params body scope locC /\ OnTop cx) ["call"] (fun P=>rfl) (fun P=>by rfl) (by rfl) (fun args mem Q X zq128=>eX0b zq128 fun h _=>by rw [h];rfl) (fun w s vs X hl=>?_) (fun cx loc mem s I H=>⟨lamFreeze I H rfl,rfl,rfl,_,rfl⟩) ?_
 ·refine eX1a (lnF hl) fun g ee479=>?_;subst ee479
  exact BindsTo.of_eq (by rfl)
 intro cx args mem Q X zz480 hs hcode hqual hw rm zz481;refine eX0b zz480 fun L top=>?_;refine eX0b zz481 ?_;clear zz481;intro ee482 hb;subst ee482
 refine eX4a L fun cl pm c' ctv zy7=>?_;refine eX3i zy7 fun oc vs tq h1 h2 h3 h4 h5 h6 h7 h8 h9=>?_
 refine SV.cons (S1.try4 (sc:=dScope (st 48)) (C1:=92) (C2:=68) (C3:=56) (C4:=80) top hs (fun P=>by rfl) (fun P=>by rfl) (fun P=>by rfl) (fun P=>by rfl) (by decide) (by decide) (by rfl) (by rfl) (by rfl) (by rfl) (by decide) (by decide) (by decide) (by decide) ?_)
 refine SV.cons (S1.ret ?_)
 refine EV.callL rfl h1 h2 ?_
 refine EVs.nil ?_
 exact lamCall rm h1 h2 h3 h4 h5 h6 S.kind S.co S.gen S.nc S.bind h7 h8 h9 hb
section
variable {cx : Cx} {loc locC : Loc} {mem : Mem} {Q : MQ AV} {X : MQ Addr} {pos lpos p : Pos} {n : Nat} {params : Arguments} {body : Expr} {scope sc : Scope} {q : Tab} {c : Addr}
theorem EV.told (S : LamS params scope) (hs : cx.env.scope = sc) (rm : Rm (n + 2) cx.A) (hc : compOk scope sc = true) (hq : q ∈ cx.ts) (hd : ∀ r ∈ cx.ts,r.P = q.P -> r = q) (hl : lpos.line = q.line /\ lpos.col = q.col) (hqual : cx.env.qual ++ "<lambda>" = q.qual) (hcode : cx.env.code = .ref c) (hcd : ∀ P,codeHdIn (KF P) c q.P = true)
  (hdef : defaultsOf params cx.env = ([],[])) (hloc : ∀ y v,locC.lookup y = some v -> scope.names.lookup y = some .free /\ loc.lookup y = some v /\ sc.names.lookup y = some .cell)
  (h : ∀ cx',cx'.env.scope = scope -> Rm n cx'.A -> EV cx' body locC mem Q (ToldX Q)) (hn : sc.names.lookup (Mine.S "_law_told") = some .globalImplicit:=by rfl) : EV cx (.Call (.Name "_law_told" p) [.Lambda params body scope lpos] [] pos) loc mem Q X:=fun s I=>by
 have hs':=hs
 subst hs
 refine wpAny_Call_Name_kw (Name_function_global I.ok.kind hn (loadGlobal_global (env:=cx.env) (by rw [I.ok.glob];exact I.T.g) (mg_of I.ok.X I.ok.T.g (v:=.ref 389) (by rfl)) ?_) (by decide))
 refine callWith_any (P:=(KF cx.w.params).In) (backTo_plain (by rfl)) (keeps_K (by rfl)) ?_
 refine Calls.spliced_cons (lamMade I rfl hc hq hd hl hqual hcode hcd hdef fun f c' cl pm ctv s1 I1 ff fm hf hrec hcl1 hcl2=>?_)
 refine Calls.spliced_nil ?_
 refine (iX0b I1.X ?_)
 refine eX4d hrec fun c0 oc vs tq e1 e2 e3 e4=>?_
 cases e1
 have Ih:=I1.hideObj ff hf (fun vs e=>by cases e)
 rw [show mdel mem f = mem from by funext b;unfold mdel;by_cases z : b = f <;> simp [z,fm]] at Ih
 refine eX1i (Ih.hideC e2 e3 e4) fun cx2 I2 x1 x2 x3 x4 x5 x6 x7 x8=>?_
 have LH : LamH cx2 loc f q.qual params body scope locC:=by
  refine (iX4a cl pm c' ctv (iX3h oc vs tq (x5 _ _ (if_pos rfl)) ?_ x6 ?_ e3 e4 (fun y c e=>?_) (fun y v e=>?_)))
  ·rw [x4];exact I1.ok.notFr ff.G ff.L
  ·rw [x4];exact x7
  ·rw [x1];exact (hcl1 y c e).2
  ·refine eX0c (hloc y v e) fun g1 g2 g3=>?_
   have g3' : cx.env.kindOf y = some .cell:=g3
   refine eX1a (I1.ok.cellsAll y g3') fun cc hcc=>?_
   refine ⟨g1,g2,(by rw [x1];exact g3'),cc,?_⟩
   rw [hcl2 y (mem_of_lookup g1)];exact hcc
 have call:=toldH (n:=n) S cx2 loc [.ref f] mem Q NoX LH (by rw [x2];exact rm) (iX0b rfl h) [.ref f] s1 rfl I2
 rw [x2,x3] at call
 refine wpAny_call (codeAny_mono call fun r s2 hr=>?_)
 cases r with
 | error e=>refine eX2b hr fun _ _ _ z=>?_;exact z.elim
 | ok fl =>
  cases fl with
  | ret v =>
   refine eX1b hr fun m' I3 hq3=>?_
   exact (iX1b m' ((InSt.unhide I1.ok ff (x8 _ _ I3)).1) hq3)
  | _=>exact hr.elim
end
noncomputable abbrev KP:=List (Int × List Pt)
noncomputable def kps (E : List OE) : KP:=E.map fun e=>(e.k,e.ps)
noncomputable def kget (K : KP) (k : Int) : List Pt:=(K.lookup k).getD []
noncomputable def kput : KP -> Int -> List Pt -> KP
 | [],k,ps=>[(k,ps)]
 | (k',ps') :: r,k,ps=>if k' = k then (k,ps) :: r else (k',ps') :: kput r k ps
noncomputable def kdel (K : KP) (k : Int) : KP:=K.filter fun p=>decide (p.1 ≠ k)
noncomputable def eput : List OE -> Int -> Addr -> List Pt -> List OE
 | [],k,l,ps=>[⟨k,l,ps⟩]
 | e :: r,k,l,ps=>if e.k = k then ⟨k,l,ps⟩ :: r else e :: eput r k l ps
theorem kps_eput (k : Int) (l : Addr) (ps : List Pt) : ∀ E : List OE,kps (eput E k l ps) = kput (kps E) k ps
 | []=>rfl
 | e :: r=>by
  have ih:=kps_eput k l ps r
  unfold eput
  by_cases q : e.k = k
  ·rw [if_pos q];show _ = kput ((e.k,e.ps) :: kps r) k ps;unfold kput;rw [if_pos q];rfl
  ·rw [if_neg q];show (e.k,e.ps) :: kps (eput r k l ps) = kput ((e.k,e.ps) :: kps r) k ps;rw [kput,if_neg q,ih]
theorem ownEs_eput (k : Int) (l : Addr) (ps : List Pt) : ∀ E : List OE,ownEs (eput E k l ps) = sput (ownEs E) k (.ref l)
 | []=>rfl
 | e :: r=>by
  have ih:=ownEs_eput k l ps r
  unfold eput
  by_cases q : e.k = k
  ·rw [if_pos q];show _ = sput ((e.k,AV.ref e.l) :: ownEs r) k (.ref l);unfold sput;rw [if_pos q,q];rfl
  ·rw [if_neg q];show (e.k,AV.ref e.l) :: ownEs (eput r k l ps) = sput ((e.k,AV.ref e.l) :: ownEs r) k (.ref l);rw [sput,if_neg q,ih]
theorem mem_eput {k : Int} {l : Addr} {ps : List Pt} {x : OE} : ∀ {E : List OE},(E.map (·.k)).Nodup -> x ∈ eput E k l ps -> x = ⟨k,l,ps⟩ \/ (x ∈ E /\ x.k ≠ k)
 | [],_,h=>by simp [eput] at h;exact .inl h
 | e :: r,hn,h=>by
  rw [List.map_cons,List.nodup_cons] at hn
  unfold eput at h
  by_cases q : e.k = k
  ·rw [if_pos q] at h
   rcases List.mem_cons.mp h with h | h
   ·exact .inl h
   ·exact .inr (iX0b (.tail _ h) (fun z=>hn.1 (List.mem_map.mpr (iX1b x h (z.trans q.symm)))))
  ·rw [if_neg q] at h
   rcases List.mem_cons.mp h with rfl | h
   ·exact .inr (iX0b (.head _) q)
   ·exact (mem_eput hn.2 h).imp id fun zq129=>eX0b zq129 fun h1 h2=>(iX0b (.tail _ h1) h2)
theorem eput_keys {k : Int} {l : Addr} {ps : List Pt} : ∀ {E : List OE} {x : Int},x ∈ (eput E k l ps).map (·.k) -> x = k \/ x ∈ E.map (·.k)
 | [],x,h=>by simp [eput] at h;exact .inl h
 | e :: r,x,h=>by
  unfold eput at h
  by_cases q : e.k = k
  ·rw [if_pos q] at h
   simp only [List.map_cons,List.mem_cons] at h ⊢
   exact h.imp id .inr
  ·rw [if_neg q] at h
   simp only [List.map_cons,List.mem_cons] at h ⊢
   rcases h with h | h
   ·exact .inr (.inl h)
   ·exact (eput_keys h).imp id .inr
theorem eput_nk {k : Int} {l : Addr} {ps : List Pt} : ∀ {E : List OE},(E.map (·.k)).Nodup -> ((eput E k l ps).map (·.k)).Nodup
 | [],_=>by simp [eput]
 | e :: r,h=>by
  rw [List.map_cons,List.nodup_cons] at h
  unfold eput
  by_cases q : e.k = k
  ·rw [if_pos q];exact List.nodup_cons.mpr (q ▸ h)
  ·rw [if_neg q]
   refine List.nodup_cons.mpr (iX0b (fun hm=>?_) (eput_nk h.2))
   rcases eput_keys hm with z | z
   ·exact q z
   ·exact h.1 z
theorem eput_nd {k : Int} {l : Addr} {ps : List Pt} : ∀ {E : List OE},(E.map (·.k)).Nodup -> (E.map (·.l)).Nodup -> (∀ e ∈ E,e.k ≠ k -> e.l ≠ l) -> ((eput E k l ps).map (·.l)).Nodup
 | [],_,_,_=>by simp [eput]
 | e :: r,hk,hn,h=>by
  rw [List.map_cons,List.nodup_cons] at hn hk
  unfold eput
  by_cases q : e.k = k
  ·rw [if_pos q]
   refine List.nodup_cons.mpr (iX0b (fun hm=>?_) hn.2)
   refine eX1b (List.mem_map.mp hm) fun x hx hxl=>?_
   exact h x (.tail _ hx) (fun z=>hk.1 (List.mem_map.mpr (iX1b x hx (z.trans q.symm)))) hxl
  ·rw [if_neg q]
   refine List.nodup_cons.mpr (iX0b (fun hm=>?_) (eput_nd hk.2 hn.2 fun e he=>h e (.tail _ he)))
   refine eX1b (List.mem_map.mp hm) fun x hx hxl=>?_
   rcases mem_eput hk.2 hx with rfl | ⟨h1,_⟩
   ·exact h e (.head _) q hxl.symm
   ·exact hn.1 (List.mem_map.mpr (iX1b x h1 hxl))
noncomputable def KpF (F : List Addr) (m m' : Mem) : Prop:=∀ a o,m a = some o -> isB o = false -> a ∉ F -> m' a = some o
theorem KpF.trans {F : List Addr} {a b c : Mem} (h : KpF F a b) (h' : KpF F b c) : KpF F a c:=fun x o e n f=>h' x o (h x o e n f) n f
theorem Kp.f {F : List Addr} {a b : Mem} (h : Kp a b) : KpF F a b:=fun x o e n _=>h x o e n
theorem KpF.set {F : List Addr} {m : Mem} {a : Addr} {o' : AO} (h : a ∈ F) : KpF F m (mset m a o'):=fun x p ex _ f=>by
 exact (mset_ne fun (q : x = a)=>f (by rw [q];exact h)).trans ex
theorem KpF.sub {F F' : List Addr} {m m' : Mem} (h : KpF F m m') (s : ∀ a ∈ F,a ∈ F') : KpF F' m m':=fun x o e n f=>h x o e n fun z=>f (s x z)
noncomputable abbrev ownF (o : Addr) (E : List OE) : List Addr:=o :: E.map (·.l)
structure OwnTo (mem : Mem) (o : Addr) (E : List OE) (m' : Mem) (K' : KP) : Prop where
 ex : ∃ E',OwnAt m' o E' /\ kps E' = K' /\ ∀ e ∈ E',e.l ∈ E.map (·.l) \/ mem e.l = none
 kp : KpF (ownF o E) mem m'
theorem OwnTo.same {m m' : Mem} {o : Addr} {E : List OE} (h : OwnAt m o E) (k : Kp m m') : OwnTo m o E m' (kps E):=⟨(iX1c E (h.keep k) rfl (fun e he=>.inl (List.mem_map_of_mem he))),k.f⟩
theorem OwnTo.keep {m m' m2 : Mem} {o : Addr} {E : List OE} {K : KP} (h : OwnTo m o E m' K) (k : Kp m' m2) : OwnTo m o E m2 K :=
 let ⟨⟨E',h1,h2,h3⟩,h4⟩:=h;⟨(iX1c E' (h1.keep k) h2 h3),h4.trans k.f⟩
theorem OwnAt.put {m m' : Mem} {o l : Addr} {E : List OE} {k : Int} {ps : List Pt} (h : OwnAt m o E) (hd : m' o = some (.dictI false Option.none (sput (ownEs E) k (.ref l)))) (hkk : 0 <= k /\ k < 10) (hps : PtrsAt m' l ps) (hl : ps.length <= 1000)
  (hk : ∀ e ∈ E,e.k ≠ k -> PtrsAt m' e.l e.ps) (hnew : ∀ e ∈ E,e.k ≠ k -> e.l ≠ l) : OwnAt m' o (eput E k l ps):=by
 refine ⟨hd.trans (by rw [ownEs_eput]),fun e he=>?_,eput_nd h.nk h.nd hnew,fun e he=>?_,eput_nk h.nk,fun e he=>?_⟩
 ·rcases mem_eput h.nk he with rfl | ⟨h1,h2⟩
  ·exact hps
  ·exact hk e h1 h2
 ·rcases mem_eput h.nk he with rfl | ⟨h1,_⟩
  ·exact hkk
  ·exact h.ks e h1
 ·rcases mem_eput h.nk he with rfl | ⟨h1,_⟩
  ·exact hl
  ·exact h.ln e h1
theorem sput_same {k : Int} {v : AV} : ∀ {es : List (Int × AV)},es.lookup k = some v -> sput es k v = es
 | [],h=>by cases h
 | (k',v') :: r,h=>by
  unfold sput
  by_cases q : k' = k
  ·subst q
   rw [List.lookup_cons,beq_self_eq_true] at h
   rw [if_pos rfl,Option.some.inj h]
  ·rw [if_neg q]
   rw [List.lookup_cons,beq_eq_false_iff_ne.mpr (Ne.symm q)] at h
   rw [sput_same h]
theorem lookup_kps {E : List OE} (hn : (E.map (·.k)).Nodup) {e : OE} (he : e ∈ E) : kget (kps E) e.k = e.ps:=by
 unfold kget kps
 rw [lookup_mem1 (es:=E.map fun e=>(e.k,e.ps)) (by rw [List.map_map];exact hn) (List.mem_map.mpr (iX1b e he rfl))];rfl
theorem kps_keys (E : List OE) : (kps E).map (·.1) = oks E:=by unfold kps oks;rw [List.map_map];rfl
theorem PtrsAt.updOther {m : Mem} {D l : Addr} {xs : List AV} {o : AO} {ps : List Pt} (h : PtrsAt m l ps) (e : m D = some (.list xs)) (hne : l ≠ D) : PtrsAt (mset m D o) l ps:=by
 refine eX1b h fun rs el a=>?_
 exact (iX1b rs ((mset_ne hne).trans el) (a.imp fun _ _ x=>x.updList e))
theorem OwnAt.grow {m : Mem} {o : Addr} {E : List OE} (h : OwnAt m o E) {e : OE} (he : e ∈ E) {ys : List AV} {qs : List Pt} (hlen : e.ps.length + qs.length <= 1000) {rs : List Addr} (hy : ys = rs.map .ref) (hq : All2 (fun r p=>Ptr m r p) rs qs) :
  ∃ xs,m e.l = some (.list xs) /\ xs.length <= 1000 /\ OwnTo m o E (mset m e.l (.list (xs ++ ys))) (kput (kps E) e.k (kget (kps E) e.k ++ qs)):=by
 have he':=h.ps e he
 refine eX1b he' ?_;clear he';intro ss el a
 have hlk : (ownEs E).lookup e.k = some (.ref e.l):=lookup_mem1 (by rw [ownEs_keys];exact h.nk) (List.mem_map.mpr (iX1b e he rfl))
 have hne : ∀ x ∈ E,x.k ≠ e.k -> x.l ≠ e.l:=fun x hx hk hl=>by
  have : ∀ {E : List OE},(E.map (·.l)).Nodup -> x ∈ E -> e ∈ E -> x = e:=by
   intro E
   induction E with
   | nil=>intro _ h;cases h
   | cons y r ih =>
    intro hn h1 h2
    rw [List.map_cons,List.nodup_cons] at hn
    rcases List.mem_cons.mp h1 with rfl | h9
    ·rcases List.mem_cons.mp h2 with h2 | h2
     ·exact h2.symm
     ·exact absurd (List.mem_map.mpr (iX1b e h2 hl.symm)) hn.1
    ·rcases List.mem_cons.mp h2 with rfl | h2
     ·exact absurd (List.mem_map.mpr (iX1b x h9 hl) : e.l ∈ r.map (·.l)) hn.1
     ·exact ih hn.2 h9 h2
  exact hk (by rw [this h.nd hx he])
 have ho : o ≠ e.l:=fun q=>by have:=h.d;rw [q,el] at this;cases this
 refine (iX1c _ el ?_ (⟨(iX1c (eput E e.k e.l (e.ps ++ qs)) ?_ ?_ (fun x hx=>?_)),KpF.set (.tail _ (List.mem_map_of_mem he))⟩))
 ·rw [List.length_map,a.len];exact h.ln e he
 ·refine h.put ?_ (h.ks e he) (iX1b (ss ++ rs) ?_ ((a.imp fun _ _ x=>x.updList el).app (hq.imp fun _ _ x=>x.updList el))) (by rw [List.length_append];lia) (fun x hx hk=>(h.ps x hx).updOther el (hne x hx hk)) hne
  ·rw [mset_ne ho,h.d,sput_same hlk]
  ·rw [mset_same,hy,List.map_append]
 ·rw [kps_eput,lookup_kps h.nk he]
 ·rcases mem_eput h.nk hx with rfl | ⟨h1,_⟩
  ·exact .inl (List.mem_map.mpr (iX1b e he rfl))
  ·exact .inl (List.mem_map_of_mem h1)
noncomputable def tabPut : Tab:=⟨408,268,21,"_law_put.<locals>.<lambda>"⟩
noncomputable def tabAdded : Tab:=⟨415,277,21,"_law_added.<locals>.<lambda>"⟩
noncomputable def tabTaken : Tab:=⟨420,288,21,"_law_taken.<locals>.<lambda>"⟩
noncomputable def tabsK : List Tab:=[tabPut,tabAdded,tabTaken]
noncomputable def FnT (n : Nat) (a : Addr) (P : Spec) : Prop:=FnH n a (fun cx _=>cx.ts = tabsK) P
theorem FnT.call {n : Nat} {a : Addr} {P : Spec} (h : FnT n a P) {cx : Cx} {args : List AV} {mem : Mem} {Q : MQ AV} {X : MQ Addr} (ht : cx.ts = tabsK) (rm : Rm n cx.A) (hP : P args mem Q X) : CallV cx (.ref a) args mem Q X :=
 fun loc vs hvs s I=>wpAny_call (h cx loc args mem Q X ht rm hP vs s hvs I)
noncomputable def pos0 : Pos:=⟨0,0,0,0⟩
noncomputable def lastRet (s : Stmt) : Option Expr:=match (dBody s).getLast? with
 | some (.Return e _)=>e
 | _=>none
noncomputable def lamParts (s : Stmt) : Arguments × Expr × Scope × Pos:=match (dBody s).getLast? with
 | some (.Return (some (.Compare (.Call _ [.Lambda a b sc p] _ _) _ _ _)) _)=>(a,b,sc,p)
 | _=>(default,.Constant .none 0 ⟨0,0,0,0⟩,default,⟨0,0,0,0⟩)
theorem lamSPut : LamS (lamParts (st 52)).1 (lamParts (st 52)).2.2.1:=⟨by rfl,by rfl,by rfl,by
 have : (lamParts (st 52)).2.2.1.names.all (fun p=>p.2 != .cell) = true:=by rfl
 intro p hp;simpa using List.all_eq_true.mp this p hp,fun fd h1 h2=>by
 obtain ⟨name,params,dV,a4,a5,a6,a7,a8⟩:=fd
 simp only at h1 h2;subst h1 h2;rfl⟩
theorem lamSAdded : LamS (lamParts (st 53)).1 (lamParts (st 53)).2.2.1:=⟨by rfl,by rfl,by rfl,by
 have : (lamParts (st 53)).2.2.1.names.all (fun p=>p.2 != .cell) = true:=by rfl
 intro p hp;simpa using List.all_eq_true.mp this p hp,fun fd h1 h2=>by
 obtain ⟨name,params,dV,a4,a5,a6,a7,a8⟩:=fd
 simp only at h1 h2;subst h1 h2;rfl⟩
theorem lamSTaken : LamS (lamParts (st 54)).1 (lamParts (st 54)).2.2.1:=⟨by rfl,by rfl,by rfl,by
 have : (lamParts (st 54)).2.2.1.names.all (fun p=>p.2 != .cell) = true:=by rfl
 intro p hp;simpa using List.all_eq_true.mp this p hp,fun fd h1 h2=>by
 obtain ⟨name,params,dV,a4,a5,a6,a7,a8⟩:=fd
 simp only at h1 h2;subst h1 h2;rfl⟩
theorem tabOne {cx : Cx} (h : cx.ts = tabsK) {q : Tab} (hq : q ∈ tabsK) : q ∈ cx.ts /\ ∀ r ∈ cx.ts,r.P = q.P -> r = q:=by
 rw [h]
 refine (iX0b hq (fun r hr e=>?_))
 simp only [tabsK,List.mem_cons,List.not_mem_nil,or_false] at hq hr
 rcases hq with rfl | rfl | rfl <;> rcases hr with rfl | rfl | rfl <;> first | rfl | (exact absurd e (by decide))
theorem loc3 {x1 x2 x3 : Str} {v1 v2 v3 : AV} {loc : Loc} {scope sc : Scope} (h1 : scope.names.lookup x1 = some .free /\ loc.lookup x1 = some v1 /\ sc.names.lookup x1 = some .cell) (h2 : scope.names.lookup x2 = some .free /\ loc.lookup x2 = some v2 /\ sc.names.lookup x2 = some .cell) (h3 : scope.names.lookup x3 = some .free /\ loc.lookup x3 = some v3 /\ sc.names.lookup x3 = some .cell) :
  ∀ y v,([(x1,v1),(x2,v2),(x3,v3)] : Loc).lookup y = some v -> scope.names.lookup y = some .free /\ loc.lookup y = some v /\ sc.names.lookup y = some .cell:=fun y v e=>by
 rw [List.lookup_cons] at e
 cases q : y == x1 with
 | true=>rw [q] at e;rw [eq_of_beq q];cases e;exact h1
 | false =>
  rw [q,List.lookup_cons] at e
  cases q2 : y == x2 with
  | true=>rw [q2] at e;rw [eq_of_beq q2];cases e;exact h2
  | false =>
   rw [q2,List.lookup_cons] at e
   cases q3 : y == x3 with
   | true=>rw [q3] at e;rw [eq_of_beq q3];cases e;exact h3
   | false=>rw [q3] at e;cases e
theorem Op2.eqStr {cx : Cx} {X : MQ Addr} {mem : Mem} {Q : MQ AV} {x : Str} (h : Q (.bool true) mem) (hx : SeqAt.shaped (.str x) = true:=by decide +kernel) : Op2 cx (compareOp .Eq) (.str x) (.str x) mem Q X :=
 Op2.eqD (.str x) (.str x) hx hx (by rw [SeqAt.eqv_refl _ (shaped_lay hx)];exact h)
theorem Op2.eqNone {cx : Cx} {X : MQ Addr} {mem : Mem} {Q : MQ AV} (h : Q (.bool true) mem) : Op2 cx (compareOp .Eq) .none .none mem Q X :=
 Op2.eqD .none .none (by rfl) (by rfl) (by rw [SeqAt.eqv_refl _ (by rfl)];exact h)
noncomputable def ownPut (K : KP) (p : Pt) : KP:=let k:=mxb (K.map (·.1)) p.birth;if 0 <= k then kput K k (kget K k ++ [p]) else K
noncomputable def specLPut : Spec:=fun args mem Q X=>∃ b z o r E p S,∃ R : BSt -> Prop,args = [.ref b,.int z,.ref o,.ref r] /\ OwnAt mem o E /\ Ptr mem r p /\ BaseAt mem b S /\ (∀ e ∈ E,e.ps.length < 1000) /\
 (tPutDead z p).wp S (fun _ S'=>0 <= mxb (oks E) p.birth /\ R S') (fun C S'=>C = 92 /\ mxb (oks E) p.birth < 0 /\ R S') /\ ∀ m' S',R S' -> BaseAt m' b S' -> OwnTo mem o E m' (ownPut (kps E) p) -> Q (.bool true) m'
theorem mxb_mem {ks : List Int} {n : Int} (h : 0 <= mxb ks n) : mxb ks n ∈ ks:=by
 refine eX0b (foldr_max (ks.filter fun k=>decide (k < n))) fun h1 _=>?_
 rcases List.mem_append.mp h1 with h1 | h1
 ·exact (List.mem_filter.mp h1).1
 ·have : mxb ks n = -1:=List.mem_singleton.mp h1
  lia
theorem fnLPut : FnT 12 413 specLPut:=by
 refine FnH.go (n:=11) (H2:=fun cx=>cx.ts = tabsK) (d:=st 52) (qual:=S "_law_put") ["base","dead","own","point"] (fun P=>rfl) (fun P=>by rfl) (by rfl) ?_ (fun cx loc mem s I h=>h) ?_
 ·exact fun _ _ _ _=>BindsTo.of_eq (by rfl)
 ·intro args mem Q X zz483;refine eX4a zz483 ?_;clear zz483;intro b z o r zy8;refine eX4g zy8 ?_;clear zy8;intro E p S R ee484 ho hr B0 hl hput hQ;subst ee484
  refine ⟨rfl,fun cx ht hs hcode hqual hw rm=>?_⟩
  refine eX4a (id hr) fun d t1 t2 pls H=>?_
  refine eX0b (tabOne ht (q:=tabPut) (.head _)) fun hq hq1=>?_
  have hElen:=ho.len
  have okE:=ownEs_keys E
  have told : ∀ (k : Int) m1,BaseAt m1 b S -> Ptr m1 r p -> k = mxb (oks E) p.birth -> (∀ m' S',R S' -> BaseAt m' b S' -> Kp m1 m' -> Q (.bool true) m') ->
    SV cx ((dBody (st 52)).drop 2) (("key",.int k) :: [("base",.ref b),("dead",.int z),("own",.ref o),("point",.ref r)]) m1 (fun _ m=>Q .none m) Q X:=fun k m1 B1 P1 hk hQ1=>by
   refine SV.cons (S1.ret ?_)
   refine EV.cmp ?_
   refine EV.told (q:=tabPut) (c:=412) (n:=9) (locC:=[("base",.ref b),("dead",.int z),("point",.ref r)]) lamSPut hs rm (by rfl) hq hq1 (iX0b (by rfl) (by rfl)) (by rw [hqual];rfl) hcode (fun P=>by rfl) (by rfl) (loc3 (iX0c (by rfl) (by rfl) (by rfl)) (iX0c (by rfl) (by rfl) (by rfl)) (iX0c (by rfl) (by rfl) (by rfl))) (fun cx' hs' rm'=>?_)
   refine EV.callF hs' nF215 ?_
   refine EVs.s rfl ?_
   refine fnPutDead _ _ _ _ _ (rm'.le (by decide)) (iX4c b z r p rfl P1 (Tw.go B1 hput (fun _ S2 a2 m2 q2 B2 K2 e2=>?_) fun C S2 m2 q2 B2 K2=>.inl (iX0b q2.1 ?_)))
   ·subst e2
    refine EV.ite (BV.cmpS rfl rfl (Op2.ge (Tr.bool ?_)))
    refine ifT (decide_eq_true (by lia : (0 : Int) <= k)) ?_
    exact EV.cNone (Op2.eqNone (hQ1 _ _ q2.2 B2 K2))
   ·refine EV.ite (BV.cmpS rfl rfl (Op2.ge (Tr.bool ?_)))
    refine ifF (by simp;lia) ?_
    exact EV.cStr (Op2.eqStr (hQ1 _ _ q2.2.2 B2 K2))
  refine SV.cons ?_
  refine S1.assign (hwr:=hw) hs ?_
  refine EV.callF hs nF394 ?_
  refine EVs.consS rfl ?_
  refine EVs.cons ?_
  refine EV.attrS rfl ?_
  refine AttrV.inst H.i H.d rfl aokPbirth (by nofun) ?_
  refine EVs.nil ?_
  refine fnBelow _ _ _ _ _ (rm.le (by decide)) (iX3d o (ownEs E) p.birth rfl ho.d (by unfold ownEs;rw [List.length_map];lia) ?_)
  rw [okE]
  generalize hk : mxb (oks E) p.birth = k
  as_aux_lemma =>
  refine SV.cons (S1.ite (BV.cmpS rfl rfl (Op2.ge (Tr.bool ?_))))
  by_cases hk0 : 0 <= k
  ·refine ifT (decide_eq_true hk0) ?_
   have hkm : k ∈ oks E:=by rw [<- hk];exact mxb_mem (by lia)
   refine eX1b (List.mem_map.mp hkm) fun e he ee485=>?_;subst ee485
   refine eX1c (ho.grow he (ys:=[.ref r]) (qs:=[p]) (by have:=hl e he;rw [List.length_singleton];lia) (rs:=[r]) rfl (.cons hr .nil)) fun xs x1 x2 x3=>?_
   refine SV.cons ?_
   refine S1.expr ?_ _ hs
   refine EV.meth ?_
   refine EV.subS rfl rfl ?_
   refine SubV.dict (dkI false) (ep:=none) ho.d (lookup_mem1 (by rw [okE];exact ho.nk) (List.mem_map.mpr (iX1b e he rfl))) ?_
   refine MethV.append x1 ?_
   refine EVs.s rfl ?_
   refine CallV.append x1 (by lia) ?_
   refine SV.nil ?_
   refine told _ _ (B0.updList x1) (hr.updList x1) hk.symm fun m' S' hR B' K'=>hQ m' S' hR B' ?_
   have : ownPut (kps E) p = kput (kps E) e.k (kget (kps E) e.k ++ [p]):=by unfold ownPut;rw [kps_keys,hk];simp only;rw [if_pos hk0]
   rw [this]
   exact x3.keep K'
  ·refine ifF (by simpa using hk0) ?_
   refine SV.nil ?_
   refine told _ _ B0 hr hk.symm fun m' S' hR B' K'=>hQ m' S' hR B' ?_
   have : ownPut (kps E) p = kps E:=by unfold ownPut;rw [kps_keys,hk];simp only;rw [if_neg hk0]
   rw [this]
   exact OwnTo.same ho K'
noncomputable def ifBody1 : List Stmt -> List Stmt
 | _ :: .If _ t _ _ :: _=>t
 | _=>[]
theorem OwnAt.setNew {m : Mem} {o D : Addr} {E : List OE} {k : Int} {rs : List Addr} {ps : List Pt} (h : OwnAt m o E) (hD : m D = Option.none) (hkk : 0 <= k /\ k < 10) (ha : All2 (fun r p=>Ptr m r p) rs ps) (hl : ps.length <= 1000) :
  OwnAt (mset (mset m D (.list (rs.map .ref))) o (.dictI false Option.none (sput (ownEs E) k (.ref D)))) o (eput E k D ps) /\ KpF [o] m (mset (mset m D (.list (rs.map .ref))) o (.dictI false Option.none (sput (ownEs E) k (.ref D)))):=by
 have M:=MLe.new (o:=.list (rs.map .ref)) hD
 have ho:=M _ _ h.d
 have hDo : D ≠ o:=fun q=>by have:=h.d;rw [<- q,hD] at this;cases this
 have hne : ∀ e ∈ E,e.l ≠ D:=fun e he q=>by refine eX1b (h.ps e he) fun _ el _=>?_;rw [q,hD] at el;cases el
 refine (iX0b (h.put (mset_same ..) hkk (iX1b rs ((mset_ne hDo).trans (mset_same ..)) (ha.imp fun _ _ x=>(x.le M).updD ho)) hl (fun e he _=>?_) fun e he _=>hne e he) (fun a x e _ f=>?_))
 ·refine eX1b (h.ps e he) fun ss el a=>?_
  have : e.l ≠ o:=fun q=>by have:=h.d;rw [<- q,el] at this;cases this
  exact (iX1b ss ((mset_ne this).trans (M _ _ el)) (a.imp fun _ _ x=>(x.le M).updD ho))
 ·exact (mset_ne fun q=>f (by rw [q];exact .head _)).trans (M _ _ e)
noncomputable def ownAdd (K : KP) (key : Int) : KP:=if key ∈ K.map (·.1) then K else
 let bl:=mxb (K.map (·.1)) key
 let some:=if 0 <= bl then kget K bl else []
 let K1:=kput K key (younger key some)
 if 0 <= bl then kput K1 bl (elder key some) else K1
noncomputable def specLAdd : Spec:=fun args mem Q _=>∃ b z o E key S,∃ R : BSt -> Prop,args = [.ref b,.int z,.ref o,.int key] /\ OwnAt mem o E /\ BaseAt mem b S /\ (0 <= key /\ key < 10) /\
 (tAddKey z key).wp S (fun _ S'=>key ∉ oks E /\ R S') (fun C S'=>C = 68 /\ key ∈ oks E /\ R S') /\ ∀ m' S',R S' -> BaseAt m' b S' -> OwnTo mem o E m' (ownAdd (kps E) key) -> Q (.bool true) m'
theorem own_lookup {m : Mem} {o : Addr} {E : List OE} (h : OwnAt m o E) {e : OE} (he : e ∈ E) : (ownEs E).lookup e.k = some (.ref e.l):=lookup_mem1 (by rw [ownEs_keys];exact h.nk) (List.mem_map.mpr (iX1b e he rfl))
theorem isSome_keys {E : List OE} {m : Mem} {o : Addr} (h : OwnAt m o E) (k : Int) : ((ownEs E).lookup k).isSome = decide (k ∈ oks E):=by
 by_cases q : k ∈ oks E
 ·refine eX1d (h.get q) fun e _ _ h2 _=>?_
  rw [h2,decide_eq_true q];rfl
 ·rw [h.none q,decide_eq_false q];rfl
theorem PtrsAt.list0 {m : Mem} {D : Addr} (h : m D = some (.list [])) : PtrsAt m D []:=(iX1b ([]) h .nil)
theorem fnLAdd : FnT 12 418 specLAdd:=by
 refine FnH.go (n:=11) (H2:=fun cx=>cx.ts = tabsK) (d:=st 53) (qual:=S "_law_added") ["base","dead","own","key"] (fun P=>rfl) (fun P=>by rfl) (by rfl) ?_ (fun cx loc mem s I h=>h) ?_
 ·exact fun _ _ _ _=>BindsTo.of_eq (by rfl)
 ·intro args mem Q X zz486;refine eX4a zz486 ?_;clear zz486;intro b z o E zy9;refine eX3f zy9 ?_;clear zy9;intro key S R ee487 ho B0 hkey hadd hQ;subst ee487
  refine ⟨rfl,fun cx ht hs hcode hqual hw rm=>?_⟩
  refine eX0b (tabOne ht (q:=tabAdded) (.tail _ (.head _))) fun hq hq1=>?_
  have hElen:=ho.len
  have okE:=ownEs_keys E
  have told : ∀ (due : AV) (loc : Loc) m1,loc.lookup (Mine.S "due") = some due -> loc.lookup (Mine.S "base") = some (.ref b) -> loc.lookup (Mine.S "dead") = some (.int z) -> loc.lookup (Mine.S "key") = some (.int key) -> BaseAt m1 b S -> due = (if key ∈ oks E then .str "exists" else .none) -> (∀ m' S',R S' -> BaseAt m' b S' -> Kp m1 m' -> Q (.bool true) m') ->
    SV cx ((dBody (st 53)).drop 2) loc m1 (fun _ m=>Q .none m) Q X:=fun due loc m1 l1 l2 l3 l4 B1 hdue hQ1=>by
   refine SV.cons (S1.ret ?_)
   refine EV.cmp ?_
   refine EV.told (q:=tabAdded) (c:=417) (n:=9) (locC:=[("base",.ref b),("dead",.int z),("key",.int key)]) lamSAdded hs rm (by rfl) hq hq1 (iX0b (by rfl) (by rfl)) (by rw [hqual];rfl) hcode (fun P=>by rfl) (by rfl) (loc3 (iX0c (by rfl) l2 (by rfl)) (iX0c (by rfl) l3 (by rfl)) (iX0c (by rfl) l4 (by rfl))) (fun cx' hs' rm'=>?_)
   refine EV.callF hs' nF220 ?_
   refine EVs.s rfl ?_
   refine fnAddKey _ _ _ _ _ (rm'.le (by decide)) (iX3b b z key rfl (Tw.go B1 hadd (fun _ S2 a2 m2 q2 B2 K2 e2=>?_) fun C S2 m2 q2 B2 K2=>.inr (.inl (iX0b q2.1 ?_))))
   ·subst e2
    refine EV.name l1 ?_
    rw [hdue,if_neg q2.1]
    exact Op2.eqNone (hQ1 _ _ q2.2 B2 K2)
   ·refine EV.name l1 ?_
    rw [hdue,if_pos q2.2.1]
    exact Op2.eqStr (hQ1 _ _ q2.2.2 B2 K2)
  refine SV.cons ?_
  refine S1.assign (hwr:=hw) hs ?_
  refine EV.ite (BV.cmpS rfl rfl ?_)
  refine Op2.inD (dkI false) (ep:=none) ho.d (Tr.bool ?_)
  rw [isSome_keys ho]
  by_cases hin : key ∈ oks E
  ·refine ifT (decide_eq_true hin) ?_
   refine EV.cStr ?_
   refine SV.cons (S1.ite (BV.cmpS rfl rfl (Op2.isNone (by nofun) (Tr.bool ?_))))
   refine ifF (show ¬ (isNoneB (.str _) = true) from Bool.false_ne_true) ?_
   refine SV.nil ?_
   refine told _ _ _ rfl rfl rfl rfl B0 (by rw [if_pos hin]) fun m' S' hR B' K'=>hQ m' S' hR B' ?_
   have : ownAdd (kps E) key = kps E:=by unfold ownAdd;rw [kps_keys,if_pos hin]
   rw [this];exact OwnTo.same ho K'
  ·refine ifF (by simpa using hin) ?_
   refine EV.cNone ?_
   refine SV.cons (S1.ite (BV.cmpS rfl rfl (Op2.isNone (by nofun) (Tr.bool ?_))))
   refine ifT (show isNoneB .none = true from rfl) ?_
   refine SV.cons ?_
   refine S1.assign (hwr:=hw) hs ?_
   refine EV.callF hs nF394 ?_
   refine EVs.s rfl ?_
   refine fnBelow _ _ _ _ _ (rm.le (by decide)) (iX3d o (ownEs E) key rfl ho.d (by unfold ownEs;rw [List.length_map];lia) ?_)
   rw [okE]
   generalize hk : mxb (oks E) key = k
   as_aux_lemma =>
   have rest : ∀ (L : Addr) (ps : List Pt) m1,OwnAt m1 o E -> BaseAt m1 b S -> MLe mem m1 -> PtrsAt m1 L ps -> ps.length <= 1000 -> ps = (if 0 <= k then kget (kps E) k else []) ->
     SV cx ((ifBody1 (dBody (st 53))).drop 2) [("some",.ref L),("below",.int k),("due",.none),("base",.ref b),("dead",.int z),("own",.ref o),("key",.int key)] m1 (fun l m=>SV cx ((dBody (st 53)).drop 2) l m (fun _ m=>Q .none m) Q X) Q X:=fun L ps m1 ho1 B1 M1 hps hpl hpe=>by
    refine eX1b hps fun rs eL hall=>?_
    refine SV.cons ?_
    refine S1.setSub hs ?_
    refine EV.comp [("key",.int key)] hs ?_ (Loc.le_cons rfl (Loc.le_nil _))
    refine EV.name rfl (iX1b (rs.map .ref) (by rw [List.length_map,hall.len];lia) (ItV.list eL (CompP.sift (fun p=>decide (key < p.birth)) rfl rfl rs ps [] hall (fun r p zq130 cx' hs' hA=>eX4a zq130 fun d t1 t2 pls Hp=>BV.cmp (EV.attrS rfl (AttrV.inst Hp.i Hp.d rfl aokPbirth (by nofun) (EV.name rfl (Op2.gt (Tr.bool (iX0b rfl rfl))))))) (fun r cx' hs'=>EV.name rfl (iX0b rfl rfl)) fun rsD haD D hD=>?_)))
    rw [List.nil_append] at *
    have MD:=MLe.new (o:=.list (rsD.map .ref)) hD
    have hyl : (younger key ps).length <= 1000:=Nat.le_trans (List.length_filter_le _ _) hpl
    have hel : (elder key ps).length <= 1000:=Nat.le_trans (List.length_filter_le _ _) hpl
    refine eX0b (ho1.setNew hD hkey haD hyl) fun ho2 kf2=>?_
    refine EV.name rfl (EV.name rfl (SetV.dict (dkI false) (ep:=none) (MD _ _ ho1.d) (by unfold ownEs;rw [List.length_map];lia) ?_))
    have B2:=(B1.le MD).updD (o:=.dictI false none (sput (ownEs E) key (.ref D))) (MD _ _ ho1.d)
    have hLo : L ≠ o:=fun q=>by have:=ho1.d;rw [<- q,eL] at this;cases this
    have hLs : mset (mset m1 D (.list (rsD.map .ref))) o (.dictI false none (sput (ownEs E) key (.ref D))) L = some (.list (rs.map .ref)):=(mset_ne hLo).trans (MD _ _ eL)
    have hall2 : All2 (fun r p=>Ptr (mset (mset m1 D (.list (rsD.map .ref))) o (.dictI false none (sput (ownEs E) key (.ref D)))) r p) rs ps:=hall.imp fun _ _ x=>(x.le MD).updD (MD _ _ ho1.d)
    have memD : mem D = none:=M1.none_of hD
    have kfm : KpF (ownF o E) mem (mset (mset m1 D (.list (rsD.map .ref))) o (.dictI false none (sput (ownEs E) key (.ref D)))):=(Kp.of_le M1).f.trans (kf2.sub fun a ha=>by rw [List.mem_singleton.mp ha];exact .head _)
    have memN : ∀ a,mset (mset m1 D (.list (rsD.map .ref))) o (.dictI false none (sput (ownEs E) key (.ref D))) a = none -> mem a = none:=fun a h=>by
     by_cases q : a = o
     ·rw [q,mset_same] at h;cases h
     ·rw [mset_ne q] at h
      by_cases q2 : a = D
      ·rw [q2,mset_same] at h;cases h
      ·rw [mset_ne q2] at h;exact M1.none_of h
    rw [show ∀ es,(dkI false cx.w).ao none es = .dictI false none es from fun _=>rfl]
    generalize mset (mset m1 D (.list (rsD.map .ref))) o (.dictI false none (sput (ownEs E) key (.ref D))) = m2 at ho2 kf2 B2 hLs hall2 kfm memN ⊢
    as_aux_lemma =>
    refine SV.cons (S1.ite (BV.cmpS rfl rfl (Op2.ge (Tr.bool ?_))))
    by_cases hk0 : 0 <= k
    ·refine ifT (decide_eq_true hk0) ?_
     have hkm : k ∈ oks E:=by rw [<- hk];exact mxb_mem (by lia)
     refine eX1b (List.mem_map.mp hkm) fun e he hek=>?_
     refine SV.cons ?_
     refine S1.setSub hs ?_
     refine EV.comp [("key",.int key)] hs ?_ (Loc.le_cons rfl (Loc.le_nil _))
     refine EV.name rfl (iX1b (rs.map .ref) (by rw [List.length_map,hall.len];lia) (ItV.list hLs (CompP.sift (fun p=>decide (p.birth <= key)) rfl rfl rs ps [] hall2 (fun r p zq131 cx' hs' hA=>eX4a zq131 fun d t1 t2 pls Hp=>BV.cmp (EV.attrS rfl (AttrV.inst Hp.i Hp.d rfl aokPbirth (by nofun) (EV.name rfl (Op2.le (Tr.bool (iX0b rfl rfl))))))) (fun r cx' hs'=>EV.name rfl (iX0b rfl rfl)) fun rsF haF F hF=>?_)))
     rw [List.nil_append] at *
     have MF:=MLe.new (o:=.list (rsF.map .ref)) hF
     refine eX0b (ho2.setNew hF (hek ▸ ho.ks e he) haF hel) fun ho3 kf3=>?_
     refine EV.name rfl (EV.name rfl (SetV.dict (dkI false) (ep:=none) (MF _ _ ho2.d) (by have:=ho2.len;unfold ownEs;rw [List.length_map];lia) ?_))
     have B3:=(B2.le MF).updD (o:=.dictI false none (sput (ownEs (eput E key D (younger key ps))) k (.ref F))) (MF _ _ ho2.d)
     refine SV.nil (SV.nil ?_)
     refine told _ _ _ rfl rfl rfl rfl B3 (by rw [if_neg hin]) fun m' S' hR B' K'=>hQ m' S' hR B' ?_
     have : ownAdd (kps E) key = kps (eput (eput E key D (younger key ps)) k F (elder key ps)):=by
      rw [kps_eput,kps_eput];unfold ownAdd;rw [kps_keys,if_neg hin,hk];simp only;rw [if_pos hk0,if_pos hk0,hpe,if_pos hk0]
     rw [this]
     refine ⟨(iX1c _ (ho3.keep K') rfl (fun x hx=>?_)),(kfm.trans (kf3.sub fun a ha=>by rw [List.mem_singleton.mp ha];exact .head _)).trans K'.f⟩
     rcases mem_eput ho2.nk hx with rfl | ⟨h1,_⟩
     ·exact .inr (memN _ hF)
     ·rcases mem_eput ho.nk h1 with rfl | ⟨h1,_⟩
      ·exact .inr memD
      ·exact .inl (List.mem_map_of_mem h1)
    ·refine ifF (by simpa using hk0) ?_
     refine SV.nil (SV.nil ?_)
     refine told _ _ _ rfl rfl rfl rfl B2 (by rw [if_neg hin]) fun m' S' hR B' K'=>hQ m' S' hR B' ?_
     have : ownAdd (kps E) key = kps (eput E key D (younger key ps)):=by
      rw [kps_eput];unfold ownAdd;rw [kps_keys,if_neg hin,hk];simp only;rw [if_neg hk0,if_neg hk0,hpe,if_neg hk0]
     rw [this]
     refine ⟨(iX1c _ (ho2.keep K') rfl (fun x hx=>?_)),kfm.trans K'.f⟩
     rcases mem_eput ho.nk hx with rfl | ⟨h1,_⟩
     ·exact .inr memD
     ·exact .inl (List.mem_map_of_mem h1)
   refine SV.cons ?_
   refine S1.assign (hwr:=hw) hs ?_
   refine EV.ite (BV.cmpS rfl rfl (Op2.ge (Tr.bool ?_)))
   by_cases hk0 : 0 <= k
   ·refine ifT (decide_eq_true hk0) ?_
    have hkm : k ∈ oks E:=by rw [<- hk];exact mxb_mem (by lia)
    refine eX1b (List.mem_map.mp hkm) fun e he hek=>?_
    refine EV.subS rfl rfl ?_
    refine SubV.dict (dkI false) (ep:=none) ho.d (hek ▸ own_lookup ho he) ?_
    exact rest e.l e.ps mem ho B0 (MLe.refl _) (ho.ps e he) (ho.ln e he) (by rw [if_pos hk0,<- hek,lookup_kps ho.nk he])
   ·refine ifF (by simpa using hk0) ?_
    refine EV.list (EVs.nil (iX0b (nle rfl) (fun D hD=>?_)))
    have M:=MLe.new (o:=.list []) hD
    exact rest D [] _ (ho.keep (Kp.of_le M)) (B0.le M) M (.list0 (mset_same ..)) (Nat.zero_le _) (by rw [if_neg hk0])
noncomputable def elsePop : List Stmt -> List Stmt
 | _ :: .If _ _ [.If _ _ t _] _ :: _=>t
 | _=>[]
noncomputable def edel (E : List OE) (k : Int) : List OE:=E.filter fun e=>decide (e.k ≠ k)
theorem kps_edel (E : List OE) (k : Int) : kps (edel E k) = kdel (kps E) k:=by
 unfold kps edel kdel;rw [List.filter_map];rfl
theorem ownEs_edel (E : List OE) (k : Int) : ownEs (edel E k) = (ownEs E).filter fun p=>decide (p.1 ≠ k):=by
 unfold ownEs edel;rw [List.filter_map];rfl
theorem OwnAt.del {m : Mem} {o : Addr} {E : List OE} (k : Int) (h : OwnAt m o E) : OwnAt (mset m o (.dictI false Option.none ((ownEs E).filter fun p=>decide (p.1 ≠ k)))) o (edel E k):=by
 have sub : (edel E k).Sublist E:=List.filter_sublist
 refine ⟨(mset_same ..).trans (by rw [ownEs_edel]),fun e he=>(h.ps e (sub.subset he)).updD h.d,h.nd.sublist (sub.map _),fun e he=>h.ks e (sub.subset he),h.nk.sublist (sub.map _),fun e he=>h.ln e (sub.subset he)⟩
noncomputable def ownTake (K : KP) (key : Int) : KP:=if key ∈ K.map (·.1) then
  let bl:=mxb (K.map (·.1)) key
  if bl < 0 then (if kget K key ≠ [] then K else kdel K key) else kput (kdel K key) bl (kget (kdel K key) bl ++ kget K key)
 else K
noncomputable def specLTake : Spec:=fun args mem Q _=>∃ b z o E key S,∃ R : BSt -> Prop,args = [.ref b,.int z,.ref o,.int key] /\ OwnAt mem o E /\ BaseAt mem b S /\ (0 <= key /\ key < 10) /\ (∀ e ∈ E,e.ps.length <= 500) /\
 (tTakeKey z key).wp S (fun _ S'=>key ∈ oks E /\ (mxb (oks E) key < 0 -> kget (kps E) key = []) /\ R S') (fun C S'=>(C = 56 /\ key ∉ oks E /\ R S') \/ (C = 80 /\ key ∈ oks E /\ mxb (oks E) key < 0 /\ kget (kps E) key ≠ [] /\ R S')) /\ ∀ m' S',R S' -> BaseAt m' b S' -> OwnTo mem o E m' (ownTake (kps E) key) -> Q (.bool true) m'
noncomputable def dueTake (E : List OE) (key : Int) : AV:=if key ∈ oks E then (if mxb (oks E) key < 0 /\ kget (kps E) key ≠ [] then .str "misused" else .none) else .str "missing"
theorem mxb_lt {ks : List Int} {n : Int} (h : 0 <= mxb ks n) : mxb ks n < n:=by
 refine eX0b (foldr_max (ks.filter fun k=>decide (k < n))) fun h1 _=>?_
 rcases List.mem_append.mp h1 with h1 | h1
 ·exact of_decide_eq_true (p:=mxb ks n < n) (List.mem_filter.mp h1).2
 ·have : mxb ks n = -1:=List.mem_singleton.mp h1
  lia
theorem fnLTake : FnT 12 425 specLTake:=by
 refine FnH.go (n:=11) (H2:=fun cx=>cx.ts = tabsK) (d:=st 54) (qual:=S "_law_taken") ["base","dead","own","key"] (fun P=>rfl) (fun P=>by rfl) (by rfl) ?_ (fun cx loc mem s I h=>h) ?_
 ·exact fun _ _ _ _=>BindsTo.of_eq (by rfl)
 ·intro args mem Q X zz488;refine eX4a zz488 ?_;clear zz488;intro b z o E zy10;refine eX3g zy10 ?_;clear zy10;intro key S R ee489 ho B0 hkey hlen htake hQ;subst ee489
  refine ⟨rfl,fun cx ht hs hcode hqual hw rm=>?_⟩
  refine eX0b (tabOne ht (q:=tabTaken) (.tail _ (.tail _ (.head _)))) fun hq hq1=>?_
  have hElen:=ho.len
  have okE:=ownEs_keys E
  have told : ∀ (due : AV) (loc : Loc) m1,loc.lookup (Mine.S "due") = some due -> loc.lookup (Mine.S "base") = some (.ref b) -> loc.lookup (Mine.S "dead") = some (.int z) -> loc.lookup (Mine.S "key") = some (.int key) -> BaseAt m1 b S -> due = dueTake E key -> (∀ m' S',R S' -> BaseAt m' b S' -> Kp m1 m' -> Q (.bool true) m') ->
    SV cx ((dBody (st 54)).drop 2) loc m1 (fun _ m=>Q .none m) Q X:=fun due loc m1 l1 l2 l3 l4 B1 hdue hQ1=>by
   refine SV.cons (S1.ret ?_)
   refine EV.cmp ?_
   refine EV.told (q:=tabTaken) (c:=424) (n:=9) (locC:=[("base",.ref b),("dead",.int z),("key",.int key)]) lamSTaken hs rm (by rfl) hq hq1 (iX0b (by rfl) (by rfl)) (by rw [hqual];rfl) hcode (fun P=>by rfl) (by rfl) (loc3 (iX0c (by rfl) l2 (by rfl)) (iX0c (by rfl) l3 (by rfl)) (iX0c (by rfl) l4 (by rfl))) (fun cx' hs' rm'=>?_)
   refine EV.callF hs' nF227 ?_
   refine EVs.s rfl ?_
   unfold dueTake at hdue
   refine fnTakeKey _ _ _ _ _ (rm'.le (by decide)) (iX3b b z key rfl (Tw.go B1 htake (fun _ S2 a2 m2 q2 B2 K2 e2=>?_) fun C S2 m2 q2 B2 K2=>?_))
   ·subst e2
    refine EV.name l1 ?_
    rw [hdue,if_pos q2.1,if_neg fun z=>z.2 (q2.2.1 z.1)]
    exact Op2.eqNone (hQ1 _ _ q2.2.2 B2 K2)
   ·rcases q2 with ⟨rfl,h1,h2⟩ | ⟨rfl,h1,h2,h3,h4⟩
    ·refine .inr (.inr (.inl (iX0b rfl ?_)))
     refine EV.name l1 ?_
     rw [hdue,if_neg h1]
     exact Op2.eqStr (hQ1 _ _ h2 B2 K2)
    ·refine .inr (.inr (.inr (iX0b rfl ?_)))
     refine EV.name l1 ?_
     rw [hdue,if_pos h1,if_pos (iX0b h2 h3)]
     exact Op2.eqStr (hQ1 _ _ h4 B2 K2)
  refine SV.cons ?_
  refine S1.swap ["below","due"] hs ?_
  refine EV.tuple ?_
  refine EVs.cons ?_
  refine EV.callF hs nF394 ?_
  refine EVs.s rfl ?_
  refine fnBelow _ _ _ _ _ (rm.le (by decide)) (iX3d o (ownEs E) key rfl ho.d (by unfold ownEs;rw [List.length_map];lia) ?_)
  rw [okE]
  generalize hk : mxb (oks E) key = k
  as_aux_lemma =>
  refine EVs.s rfl (iX0b (nle rfl) (fun t ht=>?_))
  refine (iX2d t _ rfl (mset_same ..) rfl ?_)
  have MT:=MLe.new (o:=.tuple [.int k,.none]) ht
  have ho1:=ho.keep (Kp.of_le MT)
  have B1:=B0.le MT
  generalize mset mem t (.tuple [.int k,.none]) = m1 at MT ho1 B1
  as_aux_lemma =>
  refine SV.cons (S1.ite (BV.cmpS rfl rfl ?_))
  refine Op2.notInD (dkI false) (ep:=none) ho1.d (Tr.bool ?_)
  rw [isSome_keys ho1]
  by_cases hin : key ∈ oks E
  case neg =>
   refine ifT (by simpa using hin) ?_
   refine SV.cons ?_
   refine S1.assign (hwr:=hw) hs (EV.cStr ?_)
   refine SV.nil ?_
   refine told _ _ _ rfl rfl rfl rfl B1 (by unfold dueTake;rw [if_neg hin]) fun m' S' hR B' K'=>hQ m' S' hR B' ?_
   have : ownTake (kps E) key = kps E:=by unfold ownTake;rw [kps_keys,if_neg hin]
   rw [this];exact OwnTo.same ho ((Kp.of_le MT).trans K')
  refine ifF (by simpa using hin) ?_
  refine eX1b (List.mem_map.mp hin) fun e he hek=>?_
  have hkg : kget (kps E) key = e.ps:=by rw [<- hek];exact lookup_kps ho.nk he
  have pop : ∀ m2,MLe mem m2 -> OwnAt m2 o E -> BaseAt m2 b S -> ¬ (k < 0 /\ e.ps ≠ []) ->
    SV cx (elsePop (dBody (st 54))) [("below",.int k),("due",.none),("base",.ref b),("dead",.int z),("own",.ref o),("key",.int key)] m2 (fun l m=>SV cx [] l m (fun l m=>SV cx ((dBody (st 54)).drop 2) l m (fun _ m=>Q .none m) Q X) Q X) Q X:=fun m2 M2 ho2 B2 hno=>by
   have ho3:=ho2.del key
   have B3:=B2.updD (o:=.dictI false none ((ownEs E).filter fun p=>decide (p.1 ≠ key))) ho2.d
   refine SV.cons ?_
   refine S1.assign (hwr:=hw) hs ?_
   refine EV.methS rfl ?_
   refine MethV.dictPop (dkI false) (ep:=none) ho2.d ?_
   refine EVs.s rfl ?_
   refine CallV.dictPop (dkI false) (ep:=none) ho2.d (hek ▸ own_lookup ho he) (by unfold ownEs;rw [List.length_map];lia) ?_
   rw [show ∀ es,(dkI false cx.w).ao none es = .dictI false none es from fun _=>rfl]
   have kf3 : KpF (ownF o E) mem (mset m2 o (.dictI false none ((ownEs E).filter fun p=>decide (p.1 ≠ key)))):=(Kp.of_le M2).f.trans (KpF.set (.head _))
   have hle : PtrsAt (mset m2 o (.dictI false none ((ownEs E).filter fun p=>decide (p.1 ≠ key)))) e.l e.ps:=(ho2.ps e he).updD ho2.d
   have memN : ∀ a,mset m2 o (.dictI false none ((ownEs E).filter fun p=>decide (p.1 ≠ key))) a = none -> mem a = none:=fun a h=>by
    by_cases q : a = o
    ·rw [q,mset_same] at h;cases h
    ·rw [mset_ne q] at h;exact M2.none_of h
   generalize mset m2 o (.dictI false none ((ownEs E).filter fun p=>decide (p.1 ≠ key))) = m3 at ho3 B3 kf3 hle memN ⊢
   as_aux_lemma =>
   refine SV.cons (S1.ite (BV.cmpS rfl rfl (Op2.ge (Tr.bool ?_))))
   have ls : ∀ x ∈ edel E key,x.l ∈ E.map (·.l):=fun x hx=>List.mem_map_of_mem (List.filter_sublist.subset hx)
   by_cases hk0 : 0 <= k
   ·refine ifT (decide_eq_true hk0) ?_
    have hkm : k ∈ oks E:=by rw [<- hk];exact mxb_mem (by lia)
    have hklt : k < key:=by rw [<- hk];exact mxb_lt (by lia)
    refine eX1b (List.mem_map.mp hkm) fun f hf hfk=>?_
    have hf3 : f ∈ edel E key:=List.mem_filter.mpr (iX0b hf (by simp;lia))
    refine eX1b (id hle) fun ss eL hall=>?_
    refine eX1c (ho3.grow hf3 (ys:=ss.map .ref) (qs:=e.ps) (by have h1:=hlen e he;have h2:=hlen f hf;lia) (rs:=ss) rfl hall) fun xs x1 x2 x3=>?_
    refine SV.cons ?_
    refine S1.expr ?_ _ hs
    refine EV.meth ?_
    refine EV.subS rfl rfl ?_
    refine SubV.dict (dkI false) (ep:=none) ho3.d (hfk ▸ own_lookup ho3 hf3) ?_
    refine MethV.extend x1 ?_
    refine EVs.s rfl ?_
    refine CallV.extend x1 eL (by have:=hall.len;have:=hlen e he;rw [List.length_map];lia) ?_
    refine SV.nil (SV.nil (SV.nil ?_))
    refine told _ _ _ rfl rfl rfl rfl (B3.updList x1) (by unfold dueTake;rw [if_pos hin,hk,if_neg fun z=>by lia]) fun m' S' hR B' K'=>hQ m' S' hR B' ?_
    have : ownTake (kps E) key = kput (kps (edel E key)) f.k (kget (kps (edel E key)) f.k ++ e.ps):=by
     unfold ownTake;rw [kps_keys,if_pos hin,hk];simp only;rw [if_neg (by lia),kps_edel,hkg,hfk]
    rw [this]
    obtain ⟨zz490,g4⟩:=x3.keep K';refine eX1c zz490 fun E' g1 g2 g3=>?_
    refine ⟨(iX1c E' g1 g2 (fun x hx=>?_)),kf3.trans (g4.sub fun a ha=>?_)⟩
    ·rcases g3 x hx with h | h
     ·refine eX1b (List.mem_map.mp h) fun y hy hyl=>?_
      exact .inl (hyl ▸ ls y hy)
     ·exact .inr (memN _ h)
    ·rcases List.mem_cons.mp ha with rfl | ha
     ·exact .head _
     ·refine eX1b (List.mem_map.mp ha) fun y hy hyl=>?_
      exact .tail _ (hyl ▸ ls y hy)
   ·refine ifF (by simpa using hk0) ?_
    refine SV.nil (SV.nil (SV.nil ?_))
    have hemp : e.ps = []:=by by_cases z : e.ps = [];exact z;exact absurd (iX0b (by lia) z) hno
    refine told _ _ _ rfl rfl rfl rfl B3 (by unfold dueTake;rw [if_pos hin,hk,hkg,if_neg hno]) fun m' S' hR B' K'=>hQ m' S' hR B' ?_
    have : ownTake (kps E) key = kps (edel E key):=by
     unfold ownTake;rw [kps_keys,if_pos hin,hk];simp only;rw [if_pos (by lia),kps_edel,hkg,if_neg (by simpa using hemp)]
    rw [this]
    exact ⟨(iX1c _ (ho3.keep K') rfl (fun x hx=>.inl (ls x hx))),kf3.trans K'.f⟩
  refine SV.cons (S1.ite (BV.and (BVand.cons (BV.cmpS rfl rfl (Op2.lt (Tr.bool ?_))))))
  by_cases hk0 : k < 0
  ·refine ifT (decide_eq_true hk0) ?_
   refine eX1b (ho1.ps e he) fun ss eL hall=>?_
   refine BVand.cons (BV.cmp ?_)
   refine EV.subS rfl rfl ?_
   refine SubV.dict (dkI false) (ep:=none) ho1.d (hek ▸ own_lookup ho he) ?_
   refine EV.list (EVs.nil (iX0b (nle rfl) (fun D hD=>?_)))
   have MD:=MLe.new (o:=.list []) hD
   refine Op2.neNil (MD _ _ eL) (mset_same ..) (Tr.bool ?_)
   have hee : (ss.map AV.ref).isEmpty = e.ps.isEmpty:=by have:=hall.len;cases ss <;> cases hq : e.ps <;> simp_all
   rw [hee]
   by_cases hemp : e.ps = []
   ·rw [hemp];refine ifF (by simp) ?_;refine ifF (by decide) ?_
    refine pop _ (MT.trans MD) (ho1.keep (Kp.of_le MD)) (B1.le MD) fun z=>z.2 hemp
   ·have : e.ps.isEmpty = false:=by cases hq : e.ps <;> simp_all
    rw [this,Bool.not_false];refine ifT rfl ?_
    refine BVand.nil ?_
    refine ifT rfl ?_
    refine SV.cons ?_
    refine S1.assign (hwr:=hw) hs (EV.cStr ?_)
    refine SV.nil (SV.nil ?_)
    refine told _ _ _ rfl rfl rfl rfl (B1.le MD) (by unfold dueTake;rw [if_pos hin,hk,hkg,if_pos (iX0b hk0 hemp)]) fun m' S' hR B' K'=>hQ m' S' hR B' ?_
    have : ownTake (kps E) key = kps E:=by unfold ownTake;rw [kps_keys,if_pos hin,hk];simp only;rw [if_pos hk0,hkg,if_pos hemp]
    rw [this];exact OwnTo.same ho (((Kp.of_le MT).trans (Kp.of_le MD)).trans K')
  ·refine ifF (by simpa using hk0) ?_;refine ifF (by decide) ?_
   exact pop _ MT ho1 B1 fun z=>hk0 z.1
noncomputable def tPutKeys (d : Int) : List Int -> T Unit
 | []=>T.pure ()
 | k :: ks=>(T.need (0 <= k /\ k < 100) ((tNewNote []).bind fun n=>tPut d (numStr k) n)).safe.bind fun _=>tPutKeys d ks
noncomputable def tNewDead (ns : List Int) : T Int:=tNewZap.bind fun d=>(tPutKeys d (sortedK ns)).bind fun _=>T.pure d
noncomputable def KeysOk (ns : List Int) : Prop:=(∀ k ∈ ns,0 <= k /\ k < 10) /\ ns.length < 80 /\ ∀ led,okH (ns.foldl insH (startH led)) = true
noncomputable def specNewDead : Spec:=fun args mem Q X=>∃ b l ns,args = [.ref b,.ref l] /\ mem l = some (.list (ns.map .int)) /\ KeysOk ns /\ Tw b (tNewDead ns) (fun r a _=>a = .int r) mem Q X
theorem fnNewDead : FnC 7 191 specNewDead:=by
 refine FnC.go (d:=st 30) (qual:=S "new_dead") ["base","keys"] (fun P=>rfl) (fun P=>by rfl) (by rfl) ?_ ?_
 ·exact fun _ _ _ _=>BindsTo.of_eq (by rfl)
 ·intro args mem Q X zz491;obtain ⟨b,l,ns,ee492,el,zz493,S,B0,h⟩:=zz491;subst ee492;refine eX0c zz493 ?_;clear zz493;intro hks hlen hok
  refine ⟨rfl,fun cx hs hw rm=>?_⟩
  replace h:=T.wp_bind.mp h
  refine SV.cons ?_
  refine S1.assign (hwr:=hw) hs ?_
  refine EV.methS rfl ?_
  refine B0.meth mokNewZap ?_
  refine EVs.nil ?_
  refine fnNewZap _ _ _ _ _ (rm.le (by decide)) (iX1b b rfl (Tw.go B0 h (fun d S1' a1 m1 q1 B1 K1 e1=>?_) fun C S9 m9 q9 B9 K9=>q9 m9 B9 K9))
  subst e1
  replace q1:=T.wp_bind.mp q1
  refine SV.cons ?_
  refine S1.for ?_
  refine EV.callB hs nB_sorted ?_
  refine EVs.cons ?_
  refine EV.callB hs nB_set ?_
  refine EVs.s rfl ?_
  refine CallV.setOf (K1 _ _ el rfl) hks hlen fun sa so hsa hin=>?_
  refine EVs.nil ?_
  have M2:=MLe.new (o:=.raw so) hsa
  refine CallV.sortedSet (mset_same ..) hin hks (hok _) fun l1 hl1=>?_
  have M3:=MLe.new (o:=.list ((sortedK ns).map .int)) hl1
  have el1 : mset (mset m1 sa (.raw so)) l1 (.list ((sortedK ns).map .int)) l1 = some (.list ((sortedK ns).map .int)):=mset_same ..
  replace B1:=(B1.le M2).le M3
  have Kc : Kp mem (mset (mset m1 sa (.raw so)) l1 (.list ((sortedK ns).map .int))):=(K1.trans (Kp.of_le M2)).trans (Kp.of_le M3)
  generalize mset (mset m1 sa (.raw so)) l1 (.list ((sortedK ns).map .int)) = m3 at el1 B1 Kc ⊢
  as_aux_lemma =>
  have hk10 : ∀ k ∈ sortedK ns,0 <= k /\ k < 10:=fun k hk=>hks k ((sortedK_mem hks).mp hk)
  refine (iX1a ((sortedK ns).map .int) (ItV.list el1 ?_))
  refine eX1a ((show ∃ xs,m3 l1 = some (.list xs) from (iX1a _ el1))) fun xs0 hx0=>?_
  refine eX1a ((show ∃ loc : Loc,loc = ([("dead",.int d),("base",.ref b),("keys",.ref l)] : Loc) from (iX1a _ rfl))) fun loc hloc0=>?_
  have hloc : Loc.le ([("dead",.int d),("base",.ref b),("keys",.ref l)] : Loc) loc:=hloc0 ▸ Loc.le_refl _
  show ForP cx _ _ _ _ _ _ ([("dead",.int d),("base",.ref b),("keys",.ref l)] : Loc) _
  rw [<- hloc0]
  clear hloc0
  clear el1 h hl1 M3 M2 K1 hin hok
  generalize sortedK ns = r1 at q1 hk10 ⊢
  as_aux_lemma =>
  induction r1 generalizing m3 S1' loc with
  | nil =>
   refine SV.wloc hloc ?_
   replace q1:=T.wp_pure.mp q1
   refine SV.cons ?_
   refine S1.ret (EV.name rfl ?_)
   exact q1 _ _ B1 Kc rfl
  | cons k ks ih =>
   refine fun G'=>AsgV.name (sc:=dScope (st 30)) hs ?_
   refine SV.wloc (Loc.le_both hloc) ?_
   replace q1:=T.wp_safe.mp (T.wp_bind.mp q1)
   refine eX0b (T.wp_need.mp q1) fun hk q1=>?_
   replace q1:=T.wp_bind.mp q1
   refine SV.cons ?_
   refine S1.expr ?_ _ hs
   refine EV.methS rfl ?_
   refine B1.meth mokPut ?_
   refine EVs.consS rfl ?_
   refine EVs.cons ?_
   refine EV.callB hs nB_str ?_
   refine EVs.s rfl ?_
   refine CallV.strOf (log2_small hk.1 (by lia)) ?_
   refine EVs.cons ?_
   refine EV.callF hs nF155 ?_
   refine EVs.s rfl ?_
   refine fnNewPts _ _ _ _ _ (rm.le (by decide)) (iX1b b rfl (Tw.go B1 q1 (fun n S2' a2 m2 q2 B2 K2 e2=>?_) fun C S9 m9 q9 B9 K9=>q9.elim))
   subst e2
   refine EVs.nil ?_
   refine fnPut _ _ _ _ _ (rm.le (by decide)) (iX4b b d (numStr k) n rfl (Tw.go B2 q2 (fun r3 S3' a3 m3 q3 B3 K3 e3=>?_) fun C S9 m9 q9 B9 K9=>q9.elim))
   have K23:=K2.trans K3
   refine SV.nil (iX0b (fun d hd=>?_) ?_)
   ·cases hd;exact (K23 _ _ hx0 rfl).trans hx0.symm
   ·exact ih _ _ B3 (Kc.trans K23) (K23 _ _ hx0 rfl) _ (Loc.le_skip rfl) q3 (fun x hx=>hk10 x (.tail _ hx))
theorem keysOk_sub {ns : List Int} (h : ns.Sublist [0,1,2,3,4,5,6,7,8]) : KeysOk ns:=by
 refine (iX0c (fun k hk=>?_) ?_ (fun led=>rise_sub (rise_ok led) h))
 ·have:=h.subset hk
  simp only [List.mem_cons,List.not_mem_nil,or_false] at this
  lia
 ·have:=h.length_le;simp at this;lia
noncomputable def tCopy (z most : Int) : T Int:=(tDeadKeys z).bind fun ks=>.need ((ks.filter fun k=>decide (k < most)).isSublist [0,1,2,3,4,5,6,7,8] = true) (tNewDead (ks.filter fun k=>decide (k < most)))
noncomputable def specCopy : Spec:=fun args mem Q X=>∃ b z most,args = [.ref b,.int z,.int most] /\ Tw b (tCopy z most) (fun r a _=>a = .int r) mem Q X
theorem fnCopy : FnC 8 265 specCopy:=by
 refine FnC.go (d:=st 42) (qual:=S "copy_keys") ["base","dead","most"] (fun P=>rfl) (fun P=>by rfl) (by rfl) ?_ ?_
 ·exact fun _ _ _ _=>BindsTo.of_eq (by rfl)
 ·intro args mem Q X zz494;obtain ⟨b,z,most,ee495,S,B0,h⟩:=zz494;subst ee495
  refine ⟨rfl,fun cx hs hw rm=>?_⟩
  replace h:=T.wp_bind.mp h
  refine SV.cons ?_
  refine S1.ret ?_
  refine EV.callF hs nF191 ?_
  refine EVs.consS rfl ?_
  refine EVs.cons ?_
  refine EV.comp [("most",.int most)] hs ?_ (Loc.le_cons rfl (Loc.le_nil _))
  refine EV.callF hs nF196 ?_
  refine EVs.s rfl ?_
  refine fnDeadKeys _ _ _ _ _ (rm.le (by decide)) (iX2b b z rfl (Tw.go B0 h (fun r1 S1' a1 m1 q1 B1 K1 e1=>?_) fun C S9 m9 q9 B9 K9=>q9 m9 B9 (K9)))
  refine eX0c e1 fun zz496 hlen1 hk1=>?_;refine eX1b zz496 ?_;clear zz496;intro l1 ee497 el1;subst ee497
  refine eX0b (T.wp_need.mp q1) fun hsub q1=>?_
  refine (iX1b (r1.map .int) (by rw [List.length_map];lia) (ItV.list el1 (CompP.same (ltB most) id rfl rfl _ _ (fun v hv cx' hs' hA=>?_) (fun v hv ht cx' hs' hA=>EV.name rfl (iX0b rfl rfl)) fun D hD=>?_)))
  ·refine eX1b (List.mem_map.mp hv) fun k hk ee498=>?_;subst ee498
   exact TestsV.one (BV.cmpS rfl rfl (Op2.lt (Tr.bool (iX0b rfl rfl))))
  rw [filter_lt]
  have M:=MLe.new (o:=.list ((r1.filter fun k=>decide (k < most)).map .int)) hD
  refine EVs.nil ?_
  exact fnNewDead _ _ _ _ _ (rm.le (by decide)) (iX3d b D _ rfl (mset_same ..) (keysOk_sub (List.isSublist_iff_sublist.mp hsub)) (Tw.go (B1.le M) q1 (fun r2 S2' a2 m2 q2 B2 K2 e2=>q2 _ _ B2 ((K1.trans (Kp.of_le M)).trans K2) e2) fun C S9 m9 q9 B9 K9=>q9 m9 B9 ((K1.trans (Kp.of_le M)).trans K9)))
theorem CompP.inv {A : Around} {sc' : Scope} {x : Str} {tp : Pos} {ifs : List Expr} {elt : Expr} {loc : Loc} {src : Option Addr} {Fin : List AV -> Mem -> Prop} (Inv : List AV -> List AV -> Mem -> Prop) (t : AV -> Bool)
  (hk : sc'.names.lookup x = some .local) (hx : loc.lookup x = none) (xs done ys : List AV) (mem : Mem) (h0 : Inv done ys mem)
  (h1 : ∀ v ∈ xs,∀ done ys m,Inv done ys m -> ∀ cx',cx'.env.scope = sc' -> cx'.A = A -> TestsV cx' ifs ((x,v) :: loc) m (fun ok m'=>ok = t v /\ m' = m))
  (h2 : ∀ v ∈ xs,t v = true -> ∀ done ys m,Inv done ys m -> ∀ cx',cx'.env.scope = sc' -> cx'.A = A -> EV cx' elt ((x,v) :: loc) m (fun y m2=>(∀ d,src = some d -> m2 d = m d) /\ Inv (done ++ [v]) (ys ++ [y]) m2) NoX)
  (hF : ∀ ys m,Inv (done ++ xs.filter t) ys m -> Fin ys m) : CompP A sc' (.Name x tp) ifs elt loc src Fin xs ys mem:=by
 induction xs generalizing done ys mem with
 | nil=>exact (hF ys mem ((List.append_nil done).symm ▸ h0) : Fin ys mem)
 | cons v xs ih =>
  intro cx' hs hA
  replace ih:=fun done ys m h0=>ih done ys m h0 (fun u hu=>h1 u (.tail _ hu)) (fun u hu=>h2 u (.tail _ hu))
  refine AsgV.name hs (iX0b (Loc.le_skip hx) (fun s E I=>wpAny_mono (h1 v (.head _) done ys mem h0 cx' hs hA s E I) (fun ok s' zq132=>eX1c zq132 fun m I' e1 e2=>(iX1b m I' ?_)) fun _ _ x=>x)) hk
  rw [e1,e2]
  unfold KTest
  split
  ·rename_i q
   refine (h2 v (.head _) q done ys mem h0 cx' hs hA).mono (fun y m e=>?_) fun _ _ x=>x
   refine eX0b e fun e3 e4=>?_
   refine (iX0b e3 (ih (done ++ [v]) (ys ++ [y]) m e4 fun ys' m' hi=>hF ys' m' ?_))
   rw [List.filter_cons,if_pos q];simpa using hi
  ·rename_i q
   refine (iX0b (fun _ _=>rfl) (ih done ys mem h0 fun ys' m' hi=>hF ys' m' ?_))
   rw [List.filter_cons,if_neg q];exact hi
noncomputable def avInt : AV -> Int
 | .int k=>k
 | _=>0
noncomputable def PairsIn (m : Mem) (rs : List Addr) (es : List (Int × AV)) : Prop:=All2 (fun r kv=>m r = some (.tuple [.int kv.1,kv.2])) rs es
theorem PairsIn.le {m m' : Mem} {rs : List Addr} {es : List (Int × AV)} (h : PairsIn m rs es) (k : MLe m m') : PairsIn m' rs es:=h.imp fun _ _ e=>k _ _ e
theorem All2.snoc {α β : Type} {R : α -> β -> Prop} {l : List α} {m : List β} {a : α} {b : β} (h : All2 R l m) (e : R a b) : All2 R (l ++ [a]) (m ++ [b]):=h.app (.cons e .nil)
noncomputable def nilPairs (vs : List AV) (ls : List Addr) : List (Int × AV):=(vs.zip ls).map fun p=>(avInt p.1,.ref p.2)
theorem zip_snoc {α β : Type} : ∀ (l : List α) (m : List β) (a : α) (b : β),l.length = m.length -> (l ++ [a]).zip (m ++ [b]) = l.zip m ++ [(a,b)]
 | [],[],a,b,_=>rfl
 | x :: l,y :: m,a,b,h=>by
  rw [List.cons_append,List.cons_append,List.zip_cons_cons,List.zip_cons_cons,List.cons_append,zip_snoc l m a b (by simpa using h)]
 | [],_ :: _,_,_,h=>by simp at h
 | _ :: _,[],_,_,h=>by simp at h
theorem CompP.pairsNil {A : Around} {sc' : Scope} {x : Str} {tp xp lp tpos : Pos} {tk : Nat} {ifs : List Expr} {loc : Loc} {src : Option Addr} {Fin : List AV -> Mem -> Prop} (t : AV -> Bool) {me : Mem} {xs : List AV}
  (hk : sc'.names.lookup x = some .local) (hx : loc.lookup x = none) (hd : (x == ("__debug__" : Str)) = false) (hcd : (x == ("__classdict__" : Str)) = false) (hxs : ∀ v ∈ xs,∃ k,v = .int k) (hsrc : ∀ d,src = some d -> me d ≠ none)
  (htests : ∀ v ∈ xs,∀ m,MLe me m -> ∀ cx',cx'.env.scope = sc' -> cx'.A = A -> TestsV cx' ifs ((x,v) :: loc) m (fun ok m'=>ok = t v /\ m' = m))
  (hF : ∀ rs ls m,MLe me m -> ls.Nodup -> ls.length = (xs.filter t).length -> (∀ l ∈ ls,me l = none /\ m l = some (.list [])) -> PairsIn m rs (nilPairs (xs.filter t) ls) -> Fin (rs.map .ref) m) :
  CompP A sc' (.Name x tp) ifs (.Tuple [.Name x xp,.List [] lp] tk tpos) loc src Fin xs [] me:=by
 refine CompP.inv (fun done ys m=>MLe me m /\ ∃ rs ls,ys = rs.map .ref /\ ls.Nodup /\ ls.length = done.length /\ (∀ l ∈ ls,me l = none /\ m l = some (.list [])) /\ PairsIn m rs (nilPairs done ls)) t hk hx xs [] [] me ⟨MLe.refl _,[],[],rfl,.nil,rfl,(fun l hl=>by cases hl),.nil⟩
  (fun v hv done ys m hI cx' hs hA=>htests v hv m hI.1 cx' hs hA) (fun v hv ht done ys m hI cx' hs hA=>?_) fun ys m hI=>?_
 ·obtain ⟨M,rs,ls,ee499,hnd,hlen,hls,hp⟩:=hI;subst ee499
  refine eX1a (hxs v hv) fun k ee500=>?_;subst ee500
  refine EV.tuple (EVs.cons (EV.name lookup_cons_eq ?_ hd hcd) ?_)
  ·refine EVs.cons (EV.list (EVs.nil (iX0b (nle rfl) (fun l hl=>?_))))
   refine EVs.nil (iX0b (nle rfl) (fun r hr=>?_))
   have M1:=MLe.new (o:=.list []) hl
   have M2:=MLe.new (o:=.tuple [.int k,.ref l]) hr
   refine ⟨fun d hd'=>?_,M.trans (M1.trans M2),rs ++ [r],ls ++ [l],by simp,?_,by simp [hlen],fun z hz=>?_,?_⟩
   ·cases q : m d with
    | none =>
     exfalso
     cases q2 : me d with
     | none=>exact hsrc d hd' q2
     | some o=>rw [M _ _ q2] at q;cases q
    | some o=>exact M2 _ _ (M1 _ _ q)
   ·refine List.nodup_append.mpr (iX0c hnd (by simp) (fun a ha b hb e=>?_))
    rw [List.mem_singleton] at hb
    rw [e,hb] at ha
    rw [(hls l ha).2] at hl;cases hl
   ·rcases List.mem_append.mp hz with hz | hz
    ·exact (iX0b ((hls z hz).1) (M2 _ _ (M1 _ _ (hls z hz).2)))
    ·rw [List.mem_singleton] at hz;subst hz
     exact (iX0b (M.none_of hl) (M2 _ _ (mset_same ..)))
   ·unfold nilPairs
    rw [zip_snoc _ _ _ _ hlen.symm,List.map_append]
    exact (hp.le (M1.trans M2)).snoc (mset_same ..)
  ·rfl
 ·obtain ⟨M,rs,ls,ee501,hnd,hlen,hls,hp⟩:=hI;subst ee501
  exact hF rs ls m M hnd hlen hls hp
noncomputable def nilE (E : List OE) : List Int -> List Addr -> List OE
 | k :: ks,l :: ls=>nilE (eput E k l []) ks ls
 | _,_=>E
noncomputable def nilK (K : KP) (ks : List Int) : KP:=ks.foldl (fun K k=>kput K k []) K
theorem nilE_own : ∀ (ks : List Int) (ls : List Addr) (E : List OE),ownEs (nilE E ks ls) = (nilPairs (ks.map .int) ls).foldl (fun es p=>sput es p.1 p.2) (ownEs E)
 | [],_,_=>rfl
 | _ :: _,[],_=>rfl
 | k :: ks,l :: ls,E=>by
  show ownEs (nilE (eput E k l []) ks ls) = (nilPairs (ks.map .int) ls).foldl (fun es p=>sput es p.1 p.2) (sput (ownEs E) k (.ref l))
  rw [nilE_own ks ls,ownEs_eput]
theorem nilE_kps : ∀ (ks : List Int) (ls : List Addr) (E : List OE),ks.length = ls.length -> kps (nilE E ks ls) = nilK (kps E) ks
 | [],[],_,_=>rfl
 | k :: ks,l :: ls,E,h=>by
  show kps (nilE (eput E k l []) ks ls) = nilK (kput (kps E) k []) ks
  rw [nilE_kps ks ls _ (by simpa using h),kps_eput]
 | [],_ :: _,_,h=>by simp at h
 | _ :: _,[],_,h=>by simp at h
theorem nilE_inv : ∀ (ks : List Int) (ls : List Addr) (E : List OE),(E.map (·.k)).Nodup -> (E.map (·.l)).Nodup -> ls.Nodup -> (∀ l ∈ ls,l ∉ E.map (·.l)) ->
  ((nilE E ks ls).map (·.k)).Nodup /\ ((nilE E ks ls).map (·.l)).Nodup /\ ∀ e ∈ nilE E ks ls,e ∈ E \/ (e.k ∈ ks /\ e.l ∈ ls /\ e.ps = [])
 | [],_,E,h1,h2,_,_=>(iX0c h1 h2 (fun e he=>.inl he))
 | _ :: _,[],E,h1,h2,_,_=>(iX0c h1 h2 (fun e he=>.inl he))
 | k :: ks,l :: ls,E,h1,h2,h3,h4=>by
  rw [List.nodup_cons] at h3
  have hl : ∀ e ∈ E,e.k ≠ k -> e.l ≠ l:=fun e he _ q=>h4 l (.head _) (List.mem_map.mpr (iX1b e he q))
  obtain ⟨g1,g2,g3⟩:=nilE_inv ks ls (eput E k l []) (eput_nk h1) (eput_nd h1 h2 hl) h3.2 (fun x hx hm=>by
   refine eX1b (List.mem_map.mp hm) fun e he ee502=>?_;subst ee502
   rcases mem_eput h1 he with rfl | ⟨he,_⟩
   ·exact h3.1 hx
   ·exact h4 _ (.tail _ hx) (List.mem_map_of_mem he))
  refine (iX0c g1 g2 (fun e he=>?_))
  rcases g3 e he with he | ⟨a1,a2,a3⟩
  ·rcases mem_eput h1 he with rfl | ⟨he,_⟩
   ·exact .inr (iX0c (.head _) (.head _) rfl)
   ·exact .inl he
  ·exact .inr (iX0c (.tail _ a1) (.tail _ a2) a3)
theorem OwnAt.ofNil {m : Mem} {q : Addr} {ks : List Int} {ls : List Addr} (hd : m q = some (.dictI false Option.none ((nilPairs (ks.map .int) ls).foldl (fun es p=>sput es p.1 p.2) []))) (hnd : ls.Nodup) (hls : ∀ l ∈ ls,m l = some (.list [])) (hks : ∀ k ∈ ks,0 <= k /\ k < 10) : OwnAt m q (nilE [] ks ls):=by
 refine eX0c (nilE_inv ks ls [] .nil .nil hnd (fun _ _ h=>by cases h)) fun g1 g2 g3=>?_
 have h3 : ∀ e ∈ nilE [] ks ls,e.k ∈ ks /\ e.l ∈ ls /\ e.ps = []:=fun e he=>(g3 e he).resolve_left fun h=>by cases h
 refine ⟨hd.trans (by rw [nilE_own];rfl),fun e he=>?_,g2,fun e he=>hks _ (h3 e he).1,g1,fun e he=>?_⟩
 ·rw [(h3 e he).2.2];exact .list0 (hls _ (h3 e he).2.1)
 ·rw [(h3 e he).2.2];exact Nat.zero_le _
theorem nilE_ls {ks : List Int} {ls : List Addr} (hnd : ls.Nodup) : ∀ e ∈ nilE [] ks ls,e.l ∈ ls:=fun e he=>by
 refine eX0c (nilE_inv ks ls [] .nil .nil hnd (fun _ _ h=>by cases h)) fun _ _ g3=>?_
 exact ((g3 e he).resolve_left fun h=>by cases h).2.1
noncomputable def kflat (K : KP) : List Pt:=(sortedK (K.map (·.1))).flatMap (kget K)
theorem flat_kps (E : List OE) : flat E = kflat (kps E):=by unfold flat kflat;rw [kps_keys];rfl
structure LawIsK (S : BSt) (z : Int) (K : KP) : Prop where
 k : (tDeadKeys z).wp S (fun ks S'=>ks = sortedK (K.map (·.1)) /\ S' = S) fun _ _=>False
 p : ∀ e ∈ K,((tListOf z e.1).bind tPoints).wp S (fun ps S'=>ps = e.2 /\ S' = S) fun _ _=>False
 d : (tDeadPts z).wp S (fun ps S'=>ps = kflat K /\ S' = S) fun _ _=>False
theorem LawIsK.is {S : BSt} {z : Int} {E : List OE} (h : LawIsK S z (kps E)) : LawIs S z E :=
 ⟨by rw [<- kps_keys];exact h.k,fun e he=>h.p (e.k,e.ps) (List.mem_map.mpr (iX1b e he rfl)),by rw [flat_kps];exact h.d⟩
structure StepP (S : BSt) (z : Int) (K : KP) (op key high : Int) (p : Pt) (Post : BSt -> KP -> Prop) : Prop where
 put : op < 4 -> (tPutDead z p).wp S (fun _ S'=>0 <= mxb (K.map (·.1)) p.birth /\ Post S' (ownPut K p)) (fun C S'=>C = 92 /\ mxb (K.map (·.1)) p.birth < 0 /\ Post S' (ownPut K p))
 add : op = 4 -> (tAddKey z key).wp S (fun _ S'=>key ∉ K.map (·.1) /\ Post S' (ownAdd K key)) (fun C S'=>C = 68 /\ key ∈ K.map (·.1) /\ Post S' (ownAdd K key))
 take : op = 5 -> (tTakeKey z key).wp S (fun _ S'=>key ∈ K.map (·.1) /\ (mxb (K.map (·.1)) key < 0 -> kget K key = []) /\ Post S' (ownTake K key))
  (fun C S'=>(C = 56 /\ key ∉ K.map (·.1) /\ Post S' (ownTake K key)) \/ (C = 80 /\ key ∈ K.map (·.1) /\ mxb (K.map (·.1)) key < 0 /\ kget K key ≠ [] /\ Post S' (ownTake K key)))
 move : op = 6 -> (tMoveAbove z key).wp S (fun ps S'=>ps = kflat (K.filter fun p=>decide (key <= p.1)) /\ Post S' (K.filter fun p=>decide (p.1 < key))) fun _ _=>False
 betw : op = 7 -> (tBetween z key high).wp S (fun ps S'=>ps = between key high (kflat K) /\ Post S' K) fun _ _=>False
 copy : op = 8 -> (tCopy z key).wp S (fun d S'=>LawIsK S' d (nilK [] ((K.map (·.1)).filter fun k=>decide (k < key))) /\ (tDropDead d).wp S' (fun _ S2=>Post S2 K) fun _ _=>False) fun _ _=>False
noncomputable def geB (n : Int) : AV -> Bool
 | .int k=>decide (n <= k)
 | _=>false
theorem CompP.pairsOwn {A : Around} {sc' : Scope} {x on : Str} {tp xp xp2 op sp tpos : Pos} {tk : Nat} {ifs : List Expr} {loc : Loc} {src : Option Addr} {Fin : List AV -> Mem -> Prop} (t : AV -> Bool) {me : Mem} {oa : Addr} {nn : Nat} {es : List (Int × AV)}
  (hme : me oa = some (.dictI false (some nn) es)) (hnd : (es.map (·.1)).Nodup) (hk : sc'.names.lookup x = some .local) (hx : loc.lookup x = none) (hon : loc.lookup on = some (.ref oa)) (hne : on ≠ x)
  (hd : (x == ("__debug__" : Str)) = false) (hcd : (x == ("__classdict__" : Str)) = false) (hd2 : (on == ("__debug__" : Str)) = false) (hcd2 : (on == ("__classdict__" : Str)) = false) (hsrc : ∀ d,src = some d -> me d ≠ none)
  (htests : ∀ p ∈ es,∀ m,MLe me m -> ∀ cx',cx'.env.scope = sc' -> cx'.A = A -> TestsV cx' ifs ((x,.int p.1) :: loc) m (fun ok m'=>ok = t (.int p.1) /\ m' = m))
  (hsub : ∀ cx' m Q,cx'.env.scope = sc' -> EV cx' (.Name on op) ((x,Q) :: loc) m (fun v m'=>v = .ref oa /\ m' = m) NoX)
  (hF : ∀ rs m,MLe me m -> PairsIn m rs (es.filter fun p=>t (.int p.1)) -> Fin (rs.map .ref) m) :
  CompP A sc' (.Name x tp) ifs (.Tuple [.Name x xp,.Subscript (.Name on op) (.Name x xp2) sp] tk tpos) loc src Fin (es.map fun p=>.int p.1) [] me:=by
 refine CompP.inv (fun done ys m=>MLe me m /\ ∃ rs,ys = rs.map .ref /\ PairsIn m rs (done.map fun v=>(avInt v,(es.lookup (avInt v)).getD .none))) t hk hx _ [] [] me ⟨MLe.refl _,[],rfl,.nil⟩
  (fun v hv done ys m hI cx' hs hA=>?_) (fun v hv ht done ys m hI cx' hs hA=>?_) fun ys m hI=>?_
 ·refine eX1b (List.mem_map.mp hv) fun p hp ee503=>?_;subst ee503
  exact htests p hp m hI.1 cx' hs hA
 ·obtain ⟨M,rs,ee504,hp⟩:=hI;subst ee504
  refine eX1b (List.mem_map.mp hv) fun p hpm ee505=>?_;subst ee505
  have hl : es.lookup p.1 = some p.2:=lookup_mem1 hnd hpm
  refine EV.tuple (EVs.cons (EV.name lookup_cons_eq (EVs.cons (EV.sub ((hsub cx' m _ hs).mono (fun v m' e=>?_) fun _ _ x=>x.elim)) (by rfl)) hd hcd) (by rfl))
  refine eX0b e ?_;clear e;intro ee506 ee507;subst ee506;subst ee507
  refine EV.name lookup_cons_eq (SubV.dict (dkI false) (ep:=some nn) (M _ _ hme) hl (EVs.nil (iX0b (nle rfl) (fun r hr=>?_)))) hd hcd
  have M2:=MLe.new (o:=.tuple [.int p.1,p.2]) hr
  refine ⟨fun d hd'=>?_,M.trans M2,rs ++ [r],by simp,?_⟩
  ·cases q : m' d with
   | none =>
    exfalso
    cases q2 : me d with
    | none=>exact hsrc d hd' q2
    | some o=>rw [M _ _ q2] at q;cases q
   | some o=>exact M2 _ _ q
  ·rw [List.map_append]
   refine (hp.le M2).snoc ((mset_same ..).trans ?_)
   show _ = some (AO.tuple [.int p.1,(es.lookup p.1).getD .none])
   rw [hl];rfl
 ·obtain ⟨M,rs,ee508,hp⟩:=hI;subst ee508
  refine hF rs m M ?_
  have : (List.map (fun v=>(avInt v,(es.lookup (avInt v)).getD AV.none)) ([] ++ (es.map fun p=>AV.int p.1).filter t)) = es.filter fun p=>t (.int p.1):=by
   rw [List.nil_append,List.filter_map,List.map_map]
   have : ∀ p ∈ es.filter (t ∘ fun p=>AV.int p.1),((fun v=>(avInt v,(es.lookup (avInt v)).getD AV.none)) ∘ fun p : Int × AV=>AV.int p.1) p = p:=fun p hp=>by
    have:=lookup_mem1 hnd (List.mem_filter.mp hp).1
    show (p.1,(es.lookup p.1).getD AV.none) = p
    rw [this];rfl
   exact (List.map_congr_left this).trans (List.map_id _)
  rwa [this] at hp
theorem Wk.back {m : Mem} {d : Addr} {b : Bool} {es : List (Int × AV)} {n : Nat} (e : m d = some (.dictI b (some n) es)) : Wk (mset m d (.dictI b none es)) m:=fun a o h=>by
 by_cases q : a = d
 ·subst q;rw [mset_same] at h;cases h;exact (iX1b _ e (.inr (iX3b b n es rfl rfl)))
 ·rw [mset_ne q] at h;exact (iX1b o h (.inl rfl))
theorem MLe.back {m m' : Mem} {d : Addr} {b : Bool} {es : List (Int × AV)} {n : Nat} (e : m d = some (.dictI b none es)) (h : MLe (mset m d (.dictI b (some n) es)) m') : MLe m (mset m' d (.dictI b none es)):=fun a o h1=>by
 by_cases q : a = d
 ·subst q;rw [e] at h1;cases h1;exact mset_same ..
 ·exact (mset_ne q).trans (h _ _ ((mset_ne q).trans h1))
noncomputable def ifS : List Stmt -> List Stmt
 | .If _ t _ _ :: _=>t
 | _=>[]
theorem foldl_edel : ∀ (ks : List Int) (E : List OE),ks.foldl edel E = E.filter fun e=>decide (e.k ∉ ks)
 | [],E=>(List.filter_eq_self.mpr fun _ _=>by simp).symm
 | k :: ks,E=>by
  rw [List.foldl_cons,foldl_edel ks]
  unfold edel
  rw [List.filter_filter]
  congr 1
  funext e
  by_cases h : e.k = k <;> simp [h]
theorem own_left (E : List OE) (key : Int) : kps (((oks E).filter fun k=>decide (key <= k)).foldl edel E) = (kps E).filter fun p=>decide (p.1 < key):=by
 rw [foldl_edel]
 unfold kps
 rw [List.filter_map]
 congr 1
 refine List.filter_congr fun e he=>?_
 show decide (e.k ∉ (oks E).filter fun k=>decide (key <= k)) = decide (e.k < key)
 rw [decide_eq_decide,List.mem_filter,not_and]
 constructor
 ·intro h
  have:=h (List.mem_map_of_mem he)
  simp only [decide_eq_true_eq] at this
  lia
 ·intro h _
  simp only [decide_eq_true_eq]
  lia
theorem filter_ge (n : Int) (ks : List Int) : [] ++ ((ks.map AV.int).filter (geB n)).map id = (ks.filter fun k=>decide (n <= k)).map AV.int:=by
 rw [List.map_id,List.nil_append,List.filter_map];rfl
section
variable {cx : Cx} {X : MQ Addr} {loc : Loc} {mem : Mem} {Q : MQ AV} {b o : Addr} {z key : Int} {E : List OE} {S : BSt} {Post : BSt -> KP -> Prop}
theorem stepMove (hs : cx.env.scope = dScope (st 55)) (hw : cx.wr = true) (rm : Rm 9 cx.A) (lb : loc.lookup (Mine.S "base") = some (.ref b)) (ld : loc.lookup (Mine.S "dead") = some (.int z)) (lo : loc.lookup (Mine.S "own") = some (.ref o)) (lk : loc.lookup (Mine.S "key") = some (.int key)) (l1 : loc.lookup (Mine.S "one") = none)
  (ho : OwnAt mem o E) (B0 : BaseAt mem b S) (hlen : ∀ e ∈ E,e.ps.length <= 500)
  (hm : (tMoveAbove z key).wp S (fun ps S'=>ps = kflat ((kps E).filter fun p=>decide (key <= p.1)) /\ Post S' ((kps E).filter fun p=>decide (p.1 < key))) fun _ _=>False)
  (hQ : ∀ m' S' K',Post S' K' -> BaseAt m' b S' -> OwnTo mem o E m' K' -> Q (.bool true) m') (Qn : LQ) : SV cx (ifS ((dBody (st 55)).drop 6)) loc mem Qn Q X:=by
 have hElen:=ho.len
 have okE:=ownEs_keys E
 have hElen2 : (ownEs E).length <= 10:=by unfold ownEs;rw [List.length_map];exact hElen
 refine SV.cons ?_
 refine S1.assign (hwr:=hw) hs ?_
 refine EV.weak ?_
 refine EV.callF hs nF401 ?_
 refine EVs.cons ?_
 refine EV.callB hs nB_dict ?_
 refine EVs.cons ?_
 refine EV.comp [("own",.ref o),("key",.int key)] hs ?_ (Loc.le_cons lo (Loc.le_cons lk (Loc.le_nil _)))
 refine EV.name lo ?_
 refine (iX1b ((ownEs E).map fun p=>.int p.1) (by rw [List.length_map];lia) (ItV.dict ho.d fun nn=>?_))
 have eo : mset mem o (.dictI false (some nn) (ownEs E)) o = some (.dictI false (some nn) (ownEs E)):=mset_same ..
 refine CompP.pairsOwn (geB key) eo (by rw [okE];exact ho.nk) rfl rfl rfl (by decide) (by decide) (by decide) (by decide) (by decide) (fun d hd=>by cases hd;rw [eo];nofun) (fun p hp m hM cx' hs' hA=>?_) (fun cx' m Q hs'=>EV.name rfl (iX0b rfl rfl)) fun rs m1 M1 hp D hD=>?_
 ·exact TestsV.one (BV.cmpS rfl rfl (Op2.ge (Tr.bool (iX0b rfl rfl))))
 have MD:=MLe.new (o:=.list (rs.map .ref)) hD
 refine EVs.nil ?_
 refine CallV.dictPairs false (rm.le (by decide)) (mset_same ..) (hp.le MD) (Nat.le_trans (List.length_filter_le _ _) (by lia)) fun q hq=>?_
 have hnd : (((ownEs E).filter fun p=>geB key (.int p.1)).map (·.1)).Nodup:=(List.filter_sublist.map _).nodup (by rw [okE];exact ho.nk)
 rw [foldl_sput_nodup _ [] (by simpa using hnd),List.nil_append]
 have Mq:=MLe.new (o:=.dictI false none ((ownEs E).filter fun p=>geB key (.int p.1))) hq
 have eq : mset (mset m1 D (.list (rs.map .ref))) q (.dictI false none ((ownEs E).filter fun p=>geB key (.int p.1))) q = some (.dictI false none ((ownEs E).filter fun p=>geB key (.int p.1))):=mset_same ..
 have M2:=(M1.trans MD).trans Mq
 generalize mset (mset m1 D (.list (rs.map .ref))) q (.dictI false none ((ownEs E).filter fun p=>geB key (.int p.1))) = m2 at eq M2 ⊢
 as_aux_lemma =>
 refine EVs.nil ?_
 have hoE : ∀ e ∈ E,PtrsAt (mset mem o (.dictI false (some nn) (ownEs E))) e.l e.ps:=fun e he=>(ho.ps e he).updD ho.d
 have ho6 : OwnAt m2 q (E.filter fun e=>decide (key <= e.k)):=by
  have sub : (E.filter fun e=>decide (key <= e.k)).Sublist E:=List.filter_sublist
  refine ⟨eq.trans ?_,fun e he=>(hoE e (sub.subset he)).keep (Kp.of_le M2),ho.nd.sublist (sub.map _),fun e he=>ho.ks e (sub.subset he),ho.nk.sublist (sub.map _),fun e he=>ho.ln e (sub.subset he)⟩
  unfold ownEs;rw [List.filter_map];rfl
 refine fnFlat _ _ _ _ _ (rm.le (by decide)) (iX2c q _ rfl ho6 (fun r m3 M3 hr hrn=>?_))
 have eo3:=M3 _ _ (M2 _ _ eo)
 refine (iX1b _ (Wk.back eo3) ?_)
 have M4 : MLe mem (mset m3 o (.dictI false none (ownEs E))):=MLe.back ho.d (M2.trans M3)
 have hr4 : PtrsAt (mset m3 o (.dictI false none (ownEs E))) r (flat (E.filter fun e=>decide (key <= e.k))):=hr.updD eo3
 rw [flat_kps] at hr4
 have hkp : kps (E.filter fun e=>decide (key <= e.k)) = (kps E).filter fun p=>decide (key <= p.1):=by unfold kps;rw [List.filter_map];rfl
 rw [hkp] at hr4
 have ho4:=ho.keep (Kp.of_le M4)
 have B4:=B0.le M4
 have memN : ∀ a,mset m3 o (.dictI false none (ownEs E)) a = none -> mem a = none:=fun a h=>M4.none_of h
 have hfl : (kflat ((kps E).filter fun p=>decide (key <= p.1))).length <= 100000:=by
  rw [<- hkp,<- flat_kps];exact Nat.le_trans (flat_len ho6) (by decide)
 clear eo3 hrn
 generalize mset m3 o (.dictI false none (ownEs E)) = m4 at M4 hr4 ho4 B4 memN ⊢
 as_aux_lemma =>
 refine SV.cons ?_
 refine S1.for ?_
 refine EV.weak ?_
 refine EV.comp [("key",.int key)] hs ?_ (Loc.le_cons ((lookup_cons_ne (by decide)).trans lk) (Loc.le_nil _))
 refine EV.name ((lookup_cons_ne (by decide)).trans lo) ?_
 refine (iX1b ((ownEs E).map fun p=>.int p.1) (by rw [List.length_map];lia) (ItV.dict ho4.d fun n2=>CompP.same (geB key) id rfl rfl _ _ (fun v hv cx' hs' hA=>?_) (fun v hv ht cx' hs' hA=>EV.name rfl (iX0b rfl rfl)) fun D2 hD2=>?_))
 ·refine eX1b (List.mem_map.mp hv) fun k hk ee509=>?_;subst ee509
  exact TestsV.one (BV.cmpS rfl rfl (Op2.ge (Tr.bool (iX0b rfl rfl))))
 rw [keys_av,filter_ge,okE] at *
 generalize hks : ((oks E).filter fun k=>decide (key <= k)) = ks at *
 as_aux_lemma =>
 have M5':=MLe.new (o:=.list (ks.map .int)) hD2
 have eo5 : mset (mset m4 o (.dictI false (some n2) (ownEs E))) D2 (.list (ks.map .int)) o = some (.dictI false (some n2) (ownEs E)):=M5' _ _ (mset_same ..)
 refine (iX1b _ (Wk.back eo5) ?_)
 have M5 : MLe m4 (mset (mset (mset m4 o (.dictI false (some n2) (ownEs E))) D2 (.list (ks.map .int))) o (.dictI false none (ownEs E))):=MLe.back ho4.d M5'
 have hDo : D2 ≠ o:=fun q=>by rw [q,mset_same] at hD2;cases hD2
 have eD : mset (mset (mset m4 o (.dictI false (some n2) (ownEs E))) D2 (.list (ks.map .int))) o (.dictI false none (ownEs E)) D2 = some (.list (ks.map .int)):=(mset_ne hDo).trans (mset_same ..)
 have ho5:=ho4.keep (Kp.of_le M5)
 have B5:=B4.le M5
 have hr5:=hr4.keep (Kp.of_le M5)
 have kf5 : KpF (ownF o E) mem (mset (mset (mset m4 o (.dictI false (some n2) (ownEs E))) D2 (.list (ks.map .int))) o (.dictI false none (ownEs E))):=((Kp.of_le M4).trans (Kp.of_le M5)).f
 generalize mset (mset (mset m4 o (.dictI false (some n2) (ownEs E))) D2 (.list (ks.map .int))) o (.dictI false none (ownEs E)) = m5 at M5 eD ho5 B5 hr5 kf5 ⊢
 as_aux_lemma =>
 refine (iX1a (ks.map .int) (ItV.list eD ?_))
 have hkin : ∀ k ∈ ks,k ∈ oks E:=fun k hk=>by rw [<- hks] at hk;exact (List.mem_filter.mp hk).1
 have hknd : ks.Nodup:=by rw [<- hks];exact List.filter_sublist.nodup ho.nk
 have hend : ks.foldl edel E = ks.foldl edel E:=rfl
 refine eX1a ((show ∃ Ef,ks.foldl edel E = Ef from (iX1a _ rfl))) fun Ef hEf=>?_
 have hleft : kps Ef = (kps E).filter fun p=>decide (p.1 < key):=by rw [<- hEf,<- hks];exact own_left E key
 refine eX1a ((show ∃ xs,m5 D2 = some (.list xs) from (iX1a _ eD))) fun xs0 hx0=>?_
 refine eX1a ((show ∃ loc1 : Loc,loc1 = ((Mine.S "due",.ref r) :: loc : Loc) from (iX1a _ rfl))) fun loc1 hloc1=>?_
 have hloc : Loc.le ((Mine.S "due",.ref r) :: loc : Loc) loc1:=hloc1 ▸ Loc.le_refl _
 show ForP cx _ _ _ _ _ _ ((Mine.S "due",.ref r) :: loc : Loc) _
 rw [<- hloc1]
 clear hloc1 eD hend
 have hEs : ∀ e ∈ E,e.l ∈ E.map (·.l):=fun e he=>List.mem_map_of_mem he
 refine eX1a ((show ∃ E1 : List OE,E1 = E from (iX1a _ rfl))) fun E1 hE1=>?_
 have hsub : ∀ e ∈ E1,e ∈ E:=fun e he=>hE1 ▸ he
 have hkin1 : ∀ k ∈ ks,k ∈ oks E1:=hE1 ▸ hkin
 rw [<- hE1] at ho5 hEf
 clear hE1 hkin hks M5 M5' eo5 hD2
 induction ks generalizing m5 E1 loc1 with
 | nil =>
  have hEE : E1 = Ef:=hEf
  subst hEE
  refine SV.wloc hloc ?_
  refine SV.cons ?_
  refine S1.ret ?_
  refine EV.cmp ?_
  refine plains (rm.le (by decide)) hs ?_
  refine EV.callF hs nF246 ?_
  refine EVs.cons ?_
  refine EV.name ((lookup_cons_ne (by decide)).trans lb) ?_
  refine EVs.cons ?_
  refine EV.name ((lookup_cons_ne (by decide)).trans ld) ?_
  refine EVs.cons ?_
  refine EV.name ((lookup_cons_ne (by decide)).trans lk) ?_
  refine EVs.nil ?_
  refine fnMoveAbove _ _ _ _ _ (rm.le (by decide)) (iX3b b z key rfl (Tw.go B5 hm (fun r6 S6 a6 m6 q6 B6 K6 e6=>?_) fun C S9 m9 q9 B9 K9=>q9.elim))
  refine eX0b q6 ?_;clear q6;intro ee510 hpost;subst ee510
  refine eX1b e6 ?_;clear e6;intro l6 ee511 h6;subst ee511
  refine (iX2d l6 _ rfl h6 hfl (fun D7 m7 hm7 hD7=>?_))
  refine plains (rm.le (by decide)) hs ?_
  refine EV.name lookup_cons_eq (iX2d r _ rfl ((hr5.keep K6).keep (Kp.of_le hm7)) hfl (fun D8 m8 hm8 hD8=>?_))
  refine Op2.eqD (hD7.le hm8) hD8 (shaped_plain _) (shaped_plain _) ?_
  rw [SeqAt.eqv_refl _ (shaped_lay (shaped_plain _))]
  have K8:=K6.trans ((Kp.of_le hm7).trans (Kp.of_le hm8))
  exact hQ _ _ _ hpost ((B6.le hm7).le hm8) ⟨(iX1c E1 (ho5.keep K8) hleft (fun e he=>.inl (hEs e (hsub e he)))),kf5.trans K8.f⟩
 | cons k ks ih =>
  refine fun G'=>AsgV.name (sc:=dScope (st 55)) hs ?_
  refine SV.wloc (Loc.le_both hloc) ?_
  refine eX1b (List.mem_map.mp (hkin1 k (.head _))) fun e he hek=>?_
  have lo5 : (((Mine.S "one",AV.int k) :: (Mine.S "due",AV.ref r) :: loc : Loc)).lookup (Mine.S "own") = some (.ref o):=(lookup_cons_ne (by decide)).trans ((lookup_cons_ne (by decide)).trans lo)
  refine SV.cons ?_
  refine S1.expr ?_ _ hs
  refine EV.meth (EV.name lo5 ?_)
  refine MethV.dictPop (dkI false) (ep:=none) ho5.d ?_
  refine EVs.cons (EV.name lookup_cons_eq (EVs.nil ?_))
  have hlE1:=ho5.len
  refine CallV.dictPop (dkI false) (ep:=none) ho5.d (hek ▸ own_lookup ho5 he) (by unfold ownEs;rw [List.length_map];lia) ?_
  have ho6:=ho5.del k
  have hDo2 : D2 ≠ o:=hDo
  refine SV.nil (iX0b (fun d hd=>?_) ?_)
  ·cases hd;exact mset_ne hDo2
  ·refine ih _ (B5.updD ho5.d) (hr5.updD ho5.d) (kf5.trans (KpF.set (.head _))) (List.nodup_cons.mp hknd).2 ((mset_ne hDo2).trans hx0) _ (Loc.le_skip ((lookup_cons_ne (by decide)).trans l1)) _ hEf ho6 (fun e he=>hsub e (List.filter_sublist.subset he)) (fun j hj=>?_)
   have hj1:=hkin1 j (.tail _ hj)
   refine eX1b (List.mem_map.mp hj1) fun e' he' hek'=>?_
   exact List.mem_map.mpr ⟨e',List.mem_filter.mpr ⟨he',by
    have : j ≠ k:=fun q=>(List.nodup_cons.mp hknd).1 (q ▸ hj)
    simp [hek',this]⟩,hek'⟩
end
theorem CompP.siftPlain {A : Around} {sc' : Scope} {x : Str} {tp xp ap cp : Pos} {t : Expr} {loc : Loc} {src : Option Addr} {Fin : List AV -> Mem -> Prop} (f : Pt -> Bool) (rm : Rm 2 A) (hk : sc'.names.lookup x = some .local) (hx : loc.lookup x = none)
  (hd : (x == ("__debug__" : Str)) = false) (hcd : (x == ("__classdict__" : Str)) = false) (hline : (ap.endLine == cp.line) = true) (rs : List Addr) (ps : List Pt) (ys : List AV) (mem : Mem) (hsrc : ∀ d,src = some d -> mem d ≠ none) (hall0 : All2 (fun r p=>Ptr mem r p) rs ps)
  (ht : ∀ r p m,Ptr m r p -> ∀ cx',cx'.env.scope = sc' -> cx'.A = A -> BV cx' t ((x,.ref r) :: loc) m (fun b m'=>b = f p /\ m' = m) NoX)
  (hF : ∀ zs m,MLe mem m -> All2 (fun y p=>Dat m y (plainD p)) zs (ps.filter f) -> Fin (ys ++ zs) m) :
  CompP A sc' (.Name x tp) [t] (.Call (.Attribute (.Name x xp) "plain" ap) [] [] cp) loc src Fin (rs.map .ref) ys mem:=by
 induction rs generalizing ps ys mem with
 | nil=>cases hall0;exact (List.append_nil ys ▸ hF [] mem (MLe.refl _) .nil : Fin ys mem)
 | cons r rs ih =>
  cases hall0 with | @cons _ p _ ps hr hall =>
  intro cx' hs hA
  refine AsgV.name hs (iX0b (Loc.le_skip hx) (fun s E I=>wpAny_mono (TestsV.one (ht r p mem hr cx' hs hA) s E I) (fun ok s' zq133=>eX1c zq133 fun m I' e1 e2=>(iX1b m I' ?_)) fun _ _ x=>x)) hk
  subst e1 e2
  unfold KTest;split
  ·rename_i q
   refine eX4a hr fun d t1 t2 pls H=>?_
   have hE : EV cx' (.Call (.Attribute (.Name x xp) "plain" ap) [] [] cp) ((x,.ref r) :: loc) m (fun y m2=>MLe m m2 /\ Dat m2 y (plainD p)) NoX :=
    EV.meth (EV.name (lookup_cons_eq) (MethV.inst H.i H.d rfl mokPlain (EVs.nil (fnPlain _ _ _ _ _ (hA ▸ rm) (iX4a r p d t1 (iX2c t2 pls rfl H (fun q hq=>(iX0b (MLe.new hq) ((H.keep (Kp.new hq)).dat (mset_same ..))))))))) hd hcd) (hline:=hline)
   refine hE.mono (fun y m2 e=>?_) fun _ _ x=>x
   refine eX0b e fun M hD=>?_
   refine (iX0b (fun d hd'=>?_) (ih ps _ _ (fun d hd' z=>?_) (hall.imp fun _ _ x=>x.le M) fun zs m3 hm hz=>?_))
   ·cases q2 : m d with
    | none=>exact absurd q2 (hsrc d hd')
    | some o=>exact M _ _ q2
   ·cases q2 : m d with
    | none=>exact hsrc d hd' q2
    | some o=>rw [M _ _ q2] at z;cases z
   ·exact (List.append_assoc ys [y] zs).symm ▸ hF (y :: zs) m3 (M.trans hm) (by rw [List.filter_cons,if_pos q];exact .cons (hD.le hm) hz)
  ·rename_i q
   refine (iX0b (fun _ _=>rfl) (ih ps _ _ hsrc hall fun zs m hm hz=>hF zs m hm (by rw [List.filter_cons,if_neg q];exact hz)))
section
variable {cx : Cx} {X : MQ Addr} {loc : Loc} {mem : Mem} {Q : MQ AV} {b o : Addr} {z key x : Int} {E : List OE} {S : BSt} {Post : BSt -> KP -> Prop}
theorem stepBetw (hs : cx.env.scope = dScope (st 55)) (hw : cx.wr = true) (rm : Rm 9 cx.A) (lb : loc.lookup (Mine.S "base") = some (.ref b)) (ld : loc.lookup (Mine.S "dead") = some (.int z)) (lo : loc.lookup (Mine.S "own") = some (.ref o)) (lk : loc.lookup (Mine.S "key") = some (.int key)) (lx : loc.lookup (Mine.S "x") = some (.int x))
  (ho : OwnAt mem o E) (B0 : BaseAt mem b S)
  (hm : (tBetween z key ((x.fdiv 20).fmod 11)).wp S (fun ps S'=>ps = between key ((x.fdiv 20).fmod 11) (kflat (kps E)) /\ Post S' (kps E)) fun _ _=>False)
  (hQ : ∀ m' S' K',Post S' K' -> BaseAt m' b S' -> OwnTo mem o E m' K' -> Q (.bool true) m') (Qn : LQ) : SV cx (ifS ((dBody (st 55)).drop 7)) loc mem Qn Q X:=by
 generalize hhi : (x.fdiv 20).fmod 11 = high at hm
 as_aux_lemma =>
 refine SV.cons ?_
 refine S1.tuple hs ?_
 refine EV.tuple ?_
 refine EVs.cons (EV.name lk ?_)
 refine EVs.cons (EV.bin (EV.bin (EV.name lx (EV.cInt (Op2.fdiv (by decide) ?_ (PyProof.noPylong_small (by decide)))))))
 refine EV.cInt (Op2.mod (by decide) ?_)
 rw [hhi]
 refine EVs.nil (iX0b (nle rfl) (fun t ht=>?_))
 refine AsgV.tuple (mset_same ..) (AsgV.cell hs (AsgV.cell hs ?_))
 have MT:=MLe.new (o:=.tuple [.int key,.int high]) ht
 have ho1:=ho.keep (Kp.of_le MT)
 have B1:=B0.le MT
 generalize mset mem t (.tuple [.int key,.int high]) = m1 at MT ho1 B1
 as_aux_lemma =>
 refine SV.cons ?_
 refine S1.assignComp (hwr:=hw) [("low",.int key),("high",.int high)] hs ?_ (Loc.le_cons rfl (Loc.le_cons rfl (Loc.le_nil _)))
 refine EV.callF hs nF401 ?_
 refine EVs.cons ?_
 refine EV.name ((lookup_cons_ne (by decide)).trans ((lookup_cons_ne (by decide)).trans lo)) ?_
 refine EVs.nil ?_
 refine fnFlat _ _ _ _ _ (rm.le (by decide)) (iX2c o E rfl ho1 (fun r m2 M2 hr hrn=>?_))
 refine eX1b (id hr) fun rs er hall=>?_
 have hfl:=flat_len ho1
 refine (iX1b (rs.map .ref) (by rw [List.length_map,hall.len];lia) (ItV.list er (CompP.siftPlain (fun p=>decide (key < p.birth) && decide (p.birth <= high)) (rm.le (by decide)) rfl rfl (by decide) (by decide) rfl rs (flat E) [] m2 (fun d hd=>by cases hd;rw [er];nofun) hall (fun r p m hp cx' hs' hA=>?_) fun zs m3 M3 hz D hD=>?_)))
 ·refine eX4a hp fun d t1 t2 pls H=>?_
  refine BV.and (BVand.cons (BV.cmp (EV.name rfl (EV.attrS rfl (AttrV.inst H.i H.d rfl aokPbirth (by nofun) (Op2.lt (Tr.bool ?_)))))))
  by_cases h1 : key < p.birth
  ·rw [decide_eq_true h1];refine ifT rfl ?_
   refine BVand.cons (BV.cmp (EV.attrS rfl (AttrV.inst H.i H.d rfl aokPbirth (by nofun) (EV.name rfl (Op2.le (Tr.bool ?_))))))
   by_cases h2 : p.birth <= high
   ·rw [decide_eq_true h2];refine ifT rfl ?_;exact BVand.nil (iX0b rfl rfl)
   ·rw [decide_eq_false h2];refine ifF (by decide) ?_;exact (iX0b rfl rfl)
  ·rw [decide_eq_false h1];refine ifF (by decide) ?_;exact (iX0b rfl rfl)
 rw [List.nil_append]
 have MD:=MLe.new (o:=.list zs) hD
 have hdat : Dat (mset m3 D (.list zs)) (.ref D) (.list ((between key high (flat E)).map plainD)):=.list (mset_same ..) (All2.mapR (f:=plainD) (fun y p e=>e) (hz.imp fun _ _ e=>e.le MD))
 have M4:=(M2.trans M3).trans MD
 have B4:=B1.le M4
 generalize mset m3 D (.list zs) = m4 at hdat M4 B4
 as_aux_lemma =>
 refine SV.cons ?_
 refine S1.ret ?_
 refine EV.cmp ?_
 refine plains (rm.le (by decide)) hs ?_
 refine EV.callF hs nF239 ?_
 refine EVs.cons ?_
 refine EV.name ((lookup_cons_ne (by decide)).trans ((lookup_cons_ne (by decide)).trans ((lookup_cons_ne (by decide)).trans lb))) ?_
 refine EVs.cons ?_
 refine EV.name ((lookup_cons_ne (by decide)).trans ((lookup_cons_ne (by decide)).trans ((lookup_cons_ne (by decide)).trans ld))) ?_
 refine EVs.s rfl ?_
 refine fnBetween _ _ _ _ _ (rm.le (by decide)) (iX4b b z key high rfl (Tw.go B4 hm (fun r6 S6 a6 m6 q6 B6 K6 e6=>?_) fun C S9 m9 q9 B9 K9=>q9.elim))
 refine eX0b q6 ?_;clear q6;intro ee512 hpost;subst ee512
 refine eX1b e6 ?_;clear e6;intro l6 ee513 h6;subst ee513
 refine (iX2d l6 _ rfl h6 ?_ (fun D7 m7 hm7 hD7=>?_))
 ·unfold between
  rw [<- flat_kps]
  exact Nat.le_trans (List.length_filter_le _ _) (by lia)
 refine EV.name rfl ?_
 rw [<- flat_kps] at hD7
 refine Op2.eqD hD7 ((hdat.kp K6).le hm7) (shaped_plain _) (shaped_plain _) ?_
 rw [SeqAt.eqv_refl _ (shaped_lay (shaped_plain _))]
 exact hQ _ _ _ hpost (B6.le hm7) (OwnTo.same ho (((Kp.of_le MT).trans (Kp.of_le M4)).trans (K6.trans (Kp.of_le hm7))))
theorem stepCopy (hs : cx.env.scope = dScope (st 55)) (hw : cx.wr = true) (rm : Rm 10 cx.A) (lb : loc.lookup (Mine.S "base") = some (.ref b)) (ld : loc.lookup (Mine.S "dead") = some (.int z)) (lo : loc.lookup (Mine.S "own") = some (.ref o)) (lk : loc.lookup (Mine.S "key") = some (.int key))
  (ho : OwnAt mem o E) (B0 : BaseAt mem b S)
  (hm : (tCopy z key).wp S (fun d S'=>LawIsK S' d (nilK [] (((kps E).map (·.1)).filter fun k=>decide (k < key))) /\ (tDropDead d).wp S' (fun _ S2=>Post S2 (kps E)) fun _ _=>False) fun _ _=>False)
  (hQ : ∀ m' S' K',Post S' K' -> BaseAt m' b S' -> OwnTo mem o E m' K' -> Q (.bool true) m') (Qn : LQ) : SV cx ((dBody (st 55)).drop 8) loc mem Qn Q X:=by
 have hElen:=ho.len
 have okE:=ownEs_keys E
 have hElen2 : (ownEs E).length <= 10:=by unfold ownEs;rw [List.length_map];exact hElen
 refine SV.cons ?_
 refine S1.assign (hwr:=hw) hs ?_
 refine EV.callF hs nF265 ?_
 refine EVs.cons (EV.name lb ?_)
 refine EVs.cons (EV.name ld ?_)
 refine EVs.cons (EV.name lk ?_)
 refine EVs.nil ?_
 refine fnCopy _ _ _ _ _ (rm.le (by decide)) (iX3b b z key rfl (Tw.go B0 hm (fun d S1' a1 m1 q1 B1 K1 e1=>?_) fun C S9 m9 q9 B9 K9=>q9.elim))
 subst e1
 refine eX0b q1 fun hlaw hdrop=>?_
 have ho1:=ho.keep K1
 refine SV.cons ?_
 refine S1.assign (hwr:=hw) hs ?_
 refine EV.weak ?_
 refine EV.callF hs nF406 ?_
 refine EVs.cons (EV.name ((lookup_cons_ne (by decide)).trans lb) ?_)
 refine EVs.consS rfl ?_
 refine EVs.cons ?_
 refine EV.callB hs nB_dict ?_
 refine EVs.cons ?_
 refine EV.comp [("key",.int key)] hs ?_ (Loc.le_cons ((lookup_cons_ne (by decide)).trans lk) (Loc.le_nil _))
 refine EV.name ((lookup_cons_ne (by decide)).trans lo) ?_
 refine (iX1b ((ownEs E).map fun p=>.int p.1) (by rw [List.length_map];lia) (ItV.dict ho1.d fun nn=>?_))
 have eo : mset m1 o (.dictI false (some nn) (ownEs E)) o = some (.dictI false (some nn) (ownEs E)):=mset_same ..
 have B2 : BaseAt (mset m1 o (.dictI false (some nn) (ownEs E))) b S1':=B1.updD ho1.d
 refine CompP.pairsNil (ltB key) rfl rfl (by decide) (by decide) (fun v hv=>by refine eX1b (List.mem_map.mp hv) fun p _ ee514=>?_;subst ee514;exact (iX1a _ rfl)) (fun d hd=>by cases hd;rw [eo];nofun) (fun v hv m hM cx' hs' hA=>?_) fun rs ls m2 M2 hnd hll hls hp D hD=>?_
 ·refine eX1b (List.mem_map.mp hv) fun p hp ee515=>?_;subst ee515
  exact TestsV.one (BV.cmpS rfl rfl (Op2.lt (Tr.bool (iX0b rfl rfl))))
 have hks : ((ownEs E).map fun p=>AV.int p.1).filter (ltB key) = ((oks E).filter fun k=>decide (k < key)).map .int:=by
  have:=filter_lt key (oks E)
  rw [List.nil_append,List.map_id] at this
  rw [keys_av,okE,this]
 rw [hks] at hll hp
 generalize hk8 : ((oks E).filter fun k=>decide (k < key)) = k8 at *
 as_aux_lemma =>
 have hk8r : ∀ k ∈ k8,0 <= k /\ k < 10:=fun k hk=>by
  rw [<- hk8] at hk
  refine eX1b (List.mem_map.mp (List.mem_filter.mp hk).1) fun e he ee516=>?_;subst ee516
  exact ho.ks e he
 have hk8l : k8.length <= 10:=by rw [<- hk8];exact Nat.le_trans (List.length_filter_le _ _) (by unfold oks;rw [List.length_map];exact hElen)
 have MD:=MLe.new (o:=.list (rs.map .ref)) hD
 refine EVs.nil ?_
 refine CallV.dictPairs false (rm.le (by decide)) (mset_same ..) (hp.le MD) (by unfold nilPairs;rw [List.length_map,List.length_zip,List.length_map];lia) fun q hq=>?_
 have Mq:=MLe.new (o:=.dictI false none ((nilPairs (k8.map .int) ls).foldl (fun es p=>sput es p.1 p.2) [])) hq
 have hls2 : ∀ l ∈ ls,mset (mset m2 D (.list (rs.map .ref))) q (.dictI false none ((nilPairs (k8.map .int) ls).foldl (fun es p=>sput es p.1 p.2) [])) l = some (.list []):=fun l hl=>Mq _ _ (MD _ _ (hls l hl).2)
 have ho8:=OwnAt.ofNil (m:=mset (mset m2 D (.list (rs.map .ref))) q (.dictI false none ((nilPairs (k8.map .int) ls).foldl (fun es p=>sput es p.1 p.2) []))) (mset_same ..) hnd hls2 hk8r
 have M3:=(M2.trans MD).trans Mq
 generalize mset (mset m2 D (.list (rs.map .ref))) q (.dictI false none ((nilPairs (k8.map .int) ls).foldl (fun es p=>sput es p.1 p.2) [])) = m3 at ho8 M3
 as_aux_lemma =>
 refine EVs.nil ?_
 have hkk : kps (nilE [] k8 ls) = nilK [] k8:=nilE_kps _ _ _ (by rw [List.length_map] at hll;exact hll.symm)
 rw [kps_keys,hk8,<- hkk] at hlaw
 refine fnIs _ _ _ _ _ (rm.le (by decide)) (iX4a b d q _ (iX1e S1' rfl ho8 (B2.le M3) hlaw.is (fun m4 B4 K4=>?_)))
 have eo4 : m4 o = some (.dictI false (some nn) (ownEs E)):=K4 _ _ (M3 _ _ eo) rfl
 refine (iX1b _ (Wk.back eo4) ?_)
 have B5 : BaseAt (mset m4 o (.dictI false none (ownEs E))) b S1':=B4.updD eo4
 have K5 : Kp m1 (mset m4 o (.dictI false none (ownEs E))):=fun a p e n=>by
  by_cases h : a = o
  ·subst h;rw [ho1.d] at e;cases e;exact mset_same ..
  ·exact (mset_ne h).trans (K4 _ _ (M3 _ _ ((mset_ne h).trans e)) n)
 generalize mset m4 o (.dictI false none (ownEs E)) = m5 at B5 K5
 as_aux_lemma =>
 refine SV.cons ?_
 refine S1.expr ?_ _ hs
 refine EV.callF hs nF253 ?_
 refine EVs.cons (EV.name ((lookup_cons_ne (by decide)).trans ((lookup_cons_ne (by decide)).trans lb)) ?_)
 refine EVs.s rfl ?_
 refine fnDropDead _ _ _ _ _ (rm.le (by decide)) (iX2b b d rfl (Tw.go B5 hdrop (fun _ S6 a6 m6 q6 B6 K6 e6=>?_) fun C S9 m9 q9 B9 K9=>q9.elim))
 refine SV.cons (S1.ret (EV.name rfl ?_))
 exact hQ _ _ _ q6 B6 (OwnTo.same ho ((K1.trans K5).trans K6))
end
noncomputable def keyOf (x : Int) : Int:=((x.fdiv 9).fdiv 2).fmod 10
noncomputable def highOf (x : Int) : Int:=((x.fdiv 9).fdiv 20).fmod 11
noncomputable def whichOf (x : Int) : Int:=(x.fdiv 9).fmod 2
noncomputable def keyFin (x : Int) : Fin 10:=⟨(keyOf x).toNat % 10,Nat.mod_lt _ (by decide)⟩
theorem keyFin_val (x : Int) : ((keyFin x).val : Int) = keyOf x:=by
 have h1 : 0 <= keyOf x:=Int.fmod_nonneg_of_pos _ (by decide)
 have h2 : keyOf x < 10:=Int.fmod_lt_of_pos _ (by decide)
 show (((keyOf x).toNat % 10 : Nat) : Int) = keyOf x
 lia
noncomputable def specStep : Spec:=fun args mem Q _=>∃ b dl ol x,∃ N : Fin 18,∃ z o E S ds os,∃ Post : BSt -> KP -> Prop,args = [.ref b,.ref dl,.ref ol,.int x,.int (N.val : Int)] /\ mem dl = some (.list ds) /\ ds[(whichOf x).toNat]? = some (.int z) /\ mem ol = some (.list os) /\ os[(whichOf x).toNat]? = some (.ref o) /\
 OwnAt mem o E /\ BaseAt mem b S /\ (∀ e ∈ E,e.ps.length <= 500) /\ StepP S z (kps E) (x.fmod 9) (keyOf x) (highOf x) ⟨N,keyFin x⟩ Post /\ ∀ m' S' K',Post S' K' -> BaseAt m' b S' -> OwnTo mem o E m' K' -> Q (.bool true) m'
theorem OwnTo.from {mem m1 m' : Mem} {o : Addr} {E : List OE} {K : KP} (M : MLe mem m1) (h : OwnTo m1 o E m' K) : OwnTo mem o E m' K :=
 let ⟨⟨E',h1,h2,h3⟩,h4⟩:=h;⟨(iX1c E' h1 h2 (fun e he=>(h3 e he).imp id fun q=>M.none_of q)),(Kp.of_le M).f.trans h4⟩
theorem fnStep : FnT 14 430 specStep:=by
 refine FnH.go (n:=13) (H2:=fun cx=>cx.ts = tabsK) (d:=st 55) (qual:=S "_law_step") ["base","deads","owns","x","number"] (fun P=>rfl) (fun P=>by rfl) (by rfl) ?_ (fun cx loc mem s I h=>h) ?_
 ·exact fun _ _ _ _=>BindsTo.of_eq (by rfl)
 ·intro args mem Q X zz517;refine eX4a zz517 ?_;clear zz517;intro b dl ol x zy11;refine eX4a zy11 ?_;clear zy11;intro N z o E zy12;refine eX4j zy12 ?_;clear zy12;intro S ds os Post ee518 hdl hz hol ho' ho B0 hlen hP hQ;subst ee518
  refine ⟨rfl,fun cx ht hs hcode hqual hw rm=>?_⟩
  have hop0 : 0 <= x.fmod 9:=Int.fmod_nonneg_of_pos _ (by decide)
  have hop9 : x.fmod 9 < 9:=Int.fmod_lt_of_pos _ (by decide)
  have hw0 : 0 <= whichOf x:=Int.fmod_nonneg_of_pos _ (by decide)
  have hw2 : whichOf x < 2:=Int.fmod_lt_of_pos _ (by decide)
  have hk0 : 0 <= keyOf x:=Int.fmod_nonneg_of_pos _ (by decide)
  have hk10 : keyOf x < 10:=Int.fmod_lt_of_pos _ (by decide)
  refine SV.cons ?_
  refine S1.swap ["op","x"] hs ?_
  refine EV.tuple ?_
  refine EVs.cons (EV.binS rfl rfl (Op2.mod (by decide) ?_))
  refine EVs.cons (EV.binS rfl rfl (Op2.fdiv (by decide) ?_ (PyProof.noPylong_small (by decide))))
  refine EVs.nil (iX0b (nle rfl) (fun t ht1=>(iX2d t _ rfl (mset_same ..) rfl ?_)))
  have MT:=MLe.new (o:=.tuple [.int (x.fmod 9),.int (x.fdiv 9)]) ht1
  generalize mset mem t (.tuple [.int (x.fmod 9),.int (x.fdiv 9)]) = m1 at MT
  as_aux_lemma =>
  refine SV.cons ?_
  refine S1.assign (hwr:=hw) hs ?_
  refine EV.binS rfl rfl (Op2.mod (by decide) ?_)
  rw [show (x.fdiv 9).fmod 2 = whichOf x from rfl]
  refine SV.cons ?_
  refine S1.tuple hs ?_
  refine EV.tuple ?_
  refine EVs.cons (EV.subS rfl rfl ?_)
  refine SubV.list (MT _ _ hdl) hw0 (by lia) hz ?_
  refine EVs.cons (EV.subS rfl rfl ?_)
  refine SubV.list (MT _ _ hol) hw0 (by lia) ho' ?_
  refine EVs.cons (EV.bin (EV.binS rfl rfl (Op2.fdiv (by decide) ?_ (PyProof.noPylong_small (by decide)))))
  refine EV.cInt (Op2.mod (by decide) ?_)
  rw [show ((x.fdiv 9).fdiv 2).fmod 10 = keyOf x from rfl]
  refine EVs.nil (iX0b (nle rfl) (fun t2 ht2=>?_))
  refine AsgV.tuple (mset_same ..) (AsgV.name hs (AsgV.cell hs (AsgV.cell hs ?_)))
  have MT2:=MT.trans (MLe.new (o:=.tuple [.int z,.ref o,.int (keyOf x)]) ht2)
  have ho2:=ho.keep (Kp.of_le MT2)
  have B2:=B0.le MT2
  generalize mset m1 t2 (.tuple [.int z,.ref o,.int (keyOf x)]) = m2 at MT2 ho2 B2
  as_aux_lemma =>
  have hQ2 : ∀ m' S' K',Post S' K' -> BaseAt m' b S' -> OwnTo m2 o E m' K' -> Q (.bool true) m':=fun m' S' K' h1 h2 h3=>hQ m' S' K' h1 h2 (h3.from MT2)
  refine SV.cons (S1.ite (BV.cmpS rfl rfl (Op2.lt (Tr.bool ?_))))
  by_cases h4 : x.fmod 9 < 4
  ·refine ifT (decide_eq_true h4) ?_
   refine SV.cons (S1.ret ?_)
   refine EV.callF hs nF413 ?_
   refine EVs.consS rfl ?_
   refine EVs.consS rfl ?_
   refine EVs.consS rfl ?_
   refine EVs.cons ?_
   refine EV.callF hs nF382 ?_
   refine EVs.consS rfl ?_
   refine EVs.cons (EV.binS rfl rfl (Op2.add ?_))
   refine EVs.nil ?_
   have hb : (1 + keyOf x : Int) = (Pt.mk N (keyFin x)).birth:=by
    show 1 + keyOf x = ((keyFin x).val : Int) + 1
    rw [keyFin_val];lia
   rw [hb]
   refine fnPoint _ _ _ _ _ (rm.le (by decide)) (iX1b (⟨N,keyFin x⟩) rfl (fun r m3 M3 hr=>?_))
   refine EVs.nil ?_
   have:=hP.put h4
   rw [kps_keys] at this
   exact FnT.call fnLPut ht (rm.le (by decide)) (iX4a b z o r (iX4g E (⟨N,keyFin x⟩) S (fun S'=>Post S' (ownPut (kps E) ⟨N,keyFin x⟩)) rfl (ho2.keep (Kp.of_le M3)) hr (B2.le M3) (fun e he=>Nat.lt_of_le_of_lt (hlen e he) (by decide)) this (fun m' S' hR B' hO=>hQ2 m' S' _ hR B' (hO.from M3))))
  refine ifF (by simpa using h4) ?_
  refine SV.nil ?_
  refine SV.cons (S1.ite (BV.cmpS rfl rfl (Op2.eq (Tr.bool ?_))))
  by_cases h44 : x.fmod 9 = 4
  ·refine ifT (by simpa using h44) ?_
   refine SV.cons (S1.ret ?_)
   refine EV.callF hs nF418 ?_
   refine EVs.s rfl ?_
   have:=hP.add h44
   rw [kps_keys] at this
   exact FnT.call fnLAdd ht (rm.le (by decide)) (iX4a b z o E (iX3f (keyOf x) S (fun S'=>Post S' (ownAdd (kps E) (keyOf x))) rfl ho2 B2 (iX0b hk0 hk10) this (fun m' S' hR B' hO=>hQ2 m' S' _ hR B' hO)))
  refine ifF (by simpa using h44) ?_
  refine SV.nil ?_
  refine SV.cons (S1.ite (BV.cmpS rfl rfl (Op2.eq (Tr.bool ?_))))
  by_cases h55 : x.fmod 9 = 5
  ·refine ifT (by simpa using h55) ?_
   refine SV.cons (S1.ret ?_)
   refine EV.callF hs nF425 ?_
   refine EVs.s rfl ?_
   have:=hP.take h55
   rw [kps_keys] at this
   exact FnT.call fnLTake ht (rm.le (by decide)) (iX4a b z o E (iX3g (keyOf x) S (fun S'=>Post S' (ownTake (kps E) (keyOf x))) rfl ho2 B2 (iX0b hk0 hk10) hlen this (fun m' S' hR B' hO=>hQ2 m' S' _ hR B' hO)))
  refine ifF (by simpa using h55) ?_
  refine SV.nil ?_
  refine SV.cons (S1.ite (BV.cmpS rfl rfl (Op2.eq (Tr.bool ?_))))
  by_cases h66 : x.fmod 9 = 6
  ·refine ifT (by simpa using h66) ?_
   exact stepMove hs hw (rm.le (by decide)) rfl rfl rfl rfl rfl ho2 B2 hlen (hP.move h66) hQ2 _
  refine ifF (by simpa using h66) ?_
  refine SV.nil ?_
  refine SV.cons (S1.ite (BV.cmpS rfl rfl (Op2.eq (Tr.bool ?_))))
  by_cases h77 : x.fmod 9 = 7
  ·refine ifT (by simpa using h77) ?_
   exact stepBetw (x:=x.fdiv 9) hs hw (rm.le (by decide)) rfl rfl rfl rfl rfl ho2 B2 (hP.betw h77) hQ2 _
  refine ifF (by simpa using h77) ?_
  refine SV.nil ?_
  exact stepCopy hs hw (rm.le (by decide)) rfl rfl rfl rfl ho2 B2 (hP.copy (by lia)) hQ2 _
noncomputable def lawF (dl ol o0 o1 : Addr) (E0 E1 : List OE) : List Addr:=dl :: ol :: o0 :: o1 :: (E0.map (·.l) ++ E1.map (·.l))
noncomputable def ListOrD (m : Mem) (a : Addr) : Prop:=(∃ xs,m a = some (.list xs)) \/ ∃ ep es,m a = some (.dictI false ep es)
theorem Ptr.keepF {m m' : Mem} {F : List Addr} {r : Addr} {p : Pt} (h : Ptr m r p) (k : KpF F m m') (hF : ∀ a ∈ F,ListOrD m a) : Ptr m' r p:=by
 refine eX4a h fun d t1 t2 pls H=>?_
 have kk : ∀ {a o},m a = some o -> isB o = false -> (∀ xs,o ≠ .list xs) -> (∀ ep es,o ≠ .dictI false ep es) -> m' a = some o:=fun {a o} e n n1 n2=>k _ _ e n fun hm=>by
  rcases hF a hm with ⟨xs,q⟩ | ⟨ep,es,q⟩
  ·rw [e] at q;exact n1 xs (Option.some.inj q)
  ·rw [e] at q;exact n2 ep es (Option.some.inj q)
 exact (iX4a d t1 t2 pls (⟨kk H.i rfl (fun _ q=>by cases q) (fun _ _ q=>by cases q),kk H.d rfl (fun _ q=>by cases q) (fun _ _ q=>by cases q),kk H.t1 rfl (fun _ q=>by cases q) (fun _ _ q=>by cases q),H.pl.imp fun _ _ e=>kk e rfl (fun _ q=>by cases q) (fun _ _ q=>by cases q),kk H.t2 rfl (fun _ q=>by cases q) (fun _ _ q=>by cases q)⟩))
theorem OwnAt.ld {m : Mem} {o : Addr} {E : List OE} (h : OwnAt m o E) : ∀ a ∈ ownF o E,ListOrD m a:=fun a ha=>by
 rcases List.mem_cons.mp ha with rfl | ha
 ·exact .inr (iX2a _ _ h.d)
 ·refine eX1b (List.mem_map.mp ha) fun e he ee519=>?_;subst ee519
  refine eX1b (h.ps e he) fun rs el _=>?_
  exact .inl (iX1a _ el)
structure LParts (m : Mem) (b dl ol : Addr) (Out : List Addr) (S : BSt) (z0 z1 : Int) (K0 K1 : KP) (o0 o1 : Addr) (E0 E1 : List OE) : Prop where
 B : BaseAt m b S
 hdl : m dl = some (.list [.int z0,.int z1])
 hol : m ol = some (.list [.ref o0,.ref o1])
 w0 : OwnAt m o0 E0
 w1 : OwnAt m o1 E1
 k0 : kps E0 = K0
 k1 : kps E1 = K1
 ne : o0 ≠ o1
 ap : ∀ e ∈ E0,∀ f ∈ E1,e.l ≠ f.l
 out : ∀ a ∈ Out,a ∉ lawF dl ol o0 o1 E0 E1
 has : ∀ a ∈ Out,∃ o,m a = some o /\ isB o = false
noncomputable def LSt (m : Mem) (b dl ol : Addr) (Out : List Addr) (S : BSt) (z0 z1 : Int) (K0 K1 : KP) : Prop:=∃ o0 o1 E0 E1,LParts m b dl ol Out S z0 z1 K0 K1 o0 o1 E0 E1
structure LTo (Out : List Addr) (m m' : Mem) : Prop where
 out : ∀ a ∈ Out,∀ o,m a = some o -> isB o = false -> m' a = some o
 ptr : ∀ r p,Ptr m r p -> Ptr m' r p
theorem LTo.kp {Out : List Addr} {a b : Mem} (h : Kp a b) : LTo Out a b:=⟨fun x _ o e n=>h x o e n,fun _ _ x=>x.keep h⟩
section
variable {m m' : Mem} {b dl ol o0 o1 : Addr} {Out : List Addr} {S S' : BSt} {z0 z1 : Int} {K0 K1 K : KP} {E0 E1 : List OE}
theorem list_not_own {a : Addr} {xs : List AV} {o : Addr} {E : List OE} (h : OwnAt m o E) (e : m a = some (.list xs)) (hx : ∀ rs ps,xs = rs.map AV.ref -> All2 (fun r p=>Ptr m r p) rs ps -> False) : a ∉ ownF o E:=fun ha=>by
 rcases List.mem_cons.mp ha with rfl | ha
 ·rw [h.d] at e;cases e
 ·refine eX1b (List.mem_map.mp ha) fun x hx' ee520=>?_;subst ee520
  refine eX1b (h.ps x hx') fun rs el hall=>?_
  rw [e] at el
  exact hx rs _ (AO.list.inj (Option.some.inj el)) hall
theorem LParts.dlN {o : Addr} {E : List OE} (h : m dl = some (.list [.int z0,.int z1])) (w : OwnAt m o E) : dl ∉ ownF o E:=list_not_own w h fun rs ps e _=>by
 cases rs with
 | nil=>cases e
 | cons r rs=>cases e
theorem LParts.olN {o x y : Addr} {E E' : List OE} (h : m ol = some (.list [.ref x,.ref y])) (w : OwnAt m o E) (wx : OwnAt m x E') : ol ∉ ownF o E:=list_not_own w h fun rs ps e ha=>by
 cases rs with
 | nil=>cases e
 | cons r rs =>
  cases ha with
  | cons hr _ =>
   rw [List.map_cons] at e
   have : r = x:=by injection e with e1 _;injection e1 with e1;exact e1.symm
   subst this
   refine eX4a hr fun d t1 t2 pls H=>?_
   have:=H.i
   rw [wx.d] at this;cases this
theorem dict_not_own {a o : Addr} {E Ea : List OE} (h : OwnAt m o E) (wa : OwnAt m a Ea) (hne : a ≠ o) : a ∉ ownF o E:=fun ha=>by
 rcases List.mem_cons.mp ha with rfl | ha
 ·exact hne rfl
 ·refine eX1b (List.mem_map.mp ha) fun x hx' ee521=>?_;subst ee521
  refine eX1b (h.ps x hx') fun rs el _=>?_
  rw [wa.d] at el;cases el
theorem OwnAt.keepF {F : List Addr} {o : Addr} {E : List OE} (h : OwnAt m o E) (k : KpF F m m') (hF : ∀ a ∈ F,ListOrD m a) (h0 : o ∉ F) (hl : ∀ e ∈ E,e.l ∉ F) : OwnAt m' o E :=
 ⟨k _ _ h.d rfl h0,fun e he=>let ⟨rs,el,ha⟩:=h.ps e he;(iX1b rs (k _ _ el rfl (hl e he)) (ha.imp fun _ _ x=>x.keepF k hF)),h.nd,h.ks,h.nk,h.ln⟩
theorem lst_ne_dict {e : OE} {o o2 : Addr} {E E2 : List OE} (w : OwnAt m o E) (he : e ∈ E) (w2 : OwnAt m o2 E2) : e.l ≠ o2:=fun q=>by
 refine eX1b (w.ps e he) fun rs el _=>?_
 rw [q,w2.d] at el;cases el
theorem mem_some_of_own {o : Addr} {E : List OE} (w : OwnAt m o E) {e : OE} (he : e ∈ E) : m e.l ≠ none:=by
 refine eX1b (w.ps e he) fun rs el _=>?_
 rw [el];nofun
theorem LParts.own0 (L : LParts m b dl ol Out S z0 z1 K0 K1 o0 o1 E0 E1) (B : BaseAt m' b S') (t : OwnTo m o0 E0 m' K) : LSt m' b dl ol Out S' z0 z1 K K1 /\ LTo Out m m':=by
 obtain ⟨zz522,kf⟩:=t;refine eX1c zz522 fun E' w' hk hl=>?_
 have hF:=L.w0.ld
 have f1 : ∀ f ∈ E1,f.l ∉ ownF o0 E0:=fun f hf ha=>by
  rcases List.mem_cons.mp ha with h | h
  ·exact lst_ne_dict L.w1 hf L.w0 h
  ·refine eX1b (List.mem_map.mp h) fun x hx hxl=>?_
   exact L.ap x hx f hf hxl
 have hd:=kf _ _ L.hdl rfl (LParts.dlN L.hdl L.w0)
 have ho:=kf _ _ L.hol rfl (LParts.olN L.hol L.w0 L.w0)
 have w1':=L.w1.keepF kf hF (dict_not_own L.w0 L.w1 (Ne.symm L.ne)) f1
 have inF : ∀ {a},a ∈ ownF o0 E0 -> a ∈ lawF dl ol o0 o1 E0 E1:=fun {a} h=>by
  unfold lawF
  rcases List.mem_cons.mp h with rfl | h
  ·simp
  ·simp only [List.mem_cons,List.mem_append];exact .inr (.inr (.inr (.inr (.inl h))))
 refine (iX0b (iX4a o0 o1 E' E1 (⟨B,hd,ho,w',w1',hk,L.k1,L.ne,fun e he f hf q=>?_,fun a ha h=>?_,fun a ha=>?_⟩)) (⟨fun a ha o e n=>kf _ _ e n fun h=>L.out a ha (inF h),fun r p x=>x.keepF kf hF⟩))
 ·rcases hl e he with h | h
  ·refine eX1b (List.mem_map.mp h) fun x hx hxl=>?_
   exact L.ap x hx f hf (hxl.trans q)
  ·rw [q] at h;exact mem_some_of_own L.w1 hf h
 ·have no:=L.out a ha
  unfold lawF at h no
  simp only [List.mem_cons,List.mem_append,not_or] at h no
  refine eX0f no fun n1 n2 n3 n4 n5 n6=>?_
  rcases h with h | h | h | h | h | h
  ·exact n1 h
  ·exact n2 h
  ·exact n3 h
  ·exact n4 h
  ·refine eX1b (List.mem_map.mp h) fun x hx ee523=>?_;subst ee523
   rcases hl x hx with h | h
   ·exact n5 h
   ·refine eX1b (L.has _ ha) fun o ho _=>?_;rw [h] at ho;cases ho
  ·exact n6 h
 ·refine eX1b (L.has a ha) fun o e n=>?_
  exact (iX1b o (kf _ _ e n fun h=>L.out a ha (inF h)) n)
theorem LParts.own1 (L : LParts m b dl ol Out S z0 z1 K0 K1 o0 o1 E0 E1) (B : BaseAt m' b S') (t : OwnTo m o1 E1 m' K) : LSt m' b dl ol Out S' z0 z1 K0 K /\ LTo Out m m':=by
 obtain ⟨zz524,kf⟩:=t;refine eX1c zz524 fun E' w' hk hl=>?_
 have hF:=L.w1.ld
 have f1 : ∀ f ∈ E0,f.l ∉ ownF o1 E1:=fun f hf ha=>by
  rcases List.mem_cons.mp ha with h | h
  ·exact lst_ne_dict L.w0 hf L.w1 h
  ·refine eX1b (List.mem_map.mp h) fun x hx hxl=>?_
   exact L.ap f hf x hx hxl.symm
 have hd:=kf _ _ L.hdl rfl (LParts.dlN L.hdl L.w1)
 have ho:=kf _ _ L.hol rfl (LParts.olN L.hol L.w1 L.w0)
 have w0':=L.w0.keepF kf hF (dict_not_own L.w1 L.w0 L.ne) f1
 have inF : ∀ {a},a ∈ ownF o1 E1 -> a ∈ lawF dl ol o0 o1 E0 E1:=fun {a} h=>by
  unfold lawF
  rcases List.mem_cons.mp h with rfl | h
  ·simp
  ·simp only [List.mem_cons,List.mem_append];exact .inr (.inr (.inr (.inr (.inr h))))
 refine (iX0b (iX4a o0 o1 E0 E' (⟨B,hd,ho,w0',w',L.k0,hk,L.ne,fun f hf e he q=>?_,fun a ha h=>?_,fun a ha=>?_⟩)) (⟨fun a ha o e n=>kf _ _ e n fun h=>L.out a ha (inF h),fun r p x=>x.keepF kf hF⟩))
 ·rcases hl e he with h | h
  ·refine eX1b (List.mem_map.mp h) fun x hx hxl=>?_
   exact L.ap f hf x hx (q.trans hxl.symm)
  ·rw [<- q] at h;exact mem_some_of_own L.w0 hf h
 ·have no:=L.out a ha
  unfold lawF at h no
  simp only [List.mem_cons,List.mem_append,not_or] at h no
  refine eX0f no fun n1 n2 n3 n4 n5 n6=>?_
  rcases h with h | h | h | h | h | h
  ·exact n1 h
  ·exact n2 h
  ·exact n3 h
  ·exact n4 h
  ·exact n5 h
  ·refine eX1b (List.mem_map.mp h) fun x hx ee525=>?_;subst ee525
   rcases hl x hx with h | h
   ·exact n6 h
   ·refine eX1b (L.has _ ha) fun o ho _=>?_;rw [h] at ho;cases ho
 ·refine eX1b (L.has a ha) fun o e n=>?_
  exact (iX1b o (kf _ _ e n fun h=>L.out a ha (inF h)) n)
end
theorem eput_ls {e : OE} {ps : List Pt} : ∀ {E : List OE},(E.map (·.k)).Nodup -> e ∈ E -> (eput E e.k e.l ps).map (·.l) = E.map (·.l) /\ (eput E e.k e.l ps).map (·.k) = E.map (·.k)
 | x :: r,hn,h=>by
  rw [List.map_cons,List.nodup_cons] at hn
  unfold eput
  by_cases q : x.k = e.k
  ·rw [if_pos q]
   rcases List.mem_cons.mp h with rfl | h
   ·exact (iX0b rfl rfl)
   ·exact absurd (List.mem_map.mpr (iX1b e h q.symm)) hn.1
  ·rw [if_neg q]
   rcases List.mem_cons.mp h with rfl | h
   ·exact absurd rfl q
   ·refine eX0b (eput_ls (ps:=ps) hn.2 h) fun h1 h2=>?_
    exact (iX0b (by rw [List.map_cons,List.map_cons,h1]) (by rw [List.map_cons,List.map_cons,h2]))
theorem OwnAt.growE {m : Mem} {o : Addr} {E : List OE} (h : OwnAt m o E) {e : OE} (he : e ∈ E) {ys : List AV} {qs : List Pt} (hlen : e.ps.length + qs.length <= 1000) {rs : List Addr} (hy : ys = rs.map .ref) (hq : All2 (fun r p=>Ptr m r p) rs qs) :
  ∃ xs,m e.l = some (.list xs) /\ xs.length <= 1000 /\ OwnAt (mset m e.l (.list (xs ++ ys))) o (eput E e.k e.l (e.ps ++ qs)) /\ kps (eput E e.k e.l (e.ps ++ qs)) = kput (kps E) e.k (kget (kps E) e.k ++ qs):=by
 refine eX1b (h.ps e he) fun ss el a=>?_
 have hlk:=own_lookup h he
 have hne : ∀ x ∈ E,x.k ≠ e.k -> x.l ≠ e.l:=fun x hx hk hl=>by
  have : ∀ {E : List OE},(E.map (·.l)).Nodup -> x ∈ E -> e ∈ E -> x = e:=by
   intro E
   induction E with
   | nil=>intro _ h;cases h
   | cons y r ih =>
    intro hn h1 h2
    rw [List.map_cons,List.nodup_cons] at hn
    rcases List.mem_cons.mp h1 with rfl | h9
    ·rcases List.mem_cons.mp h2 with h2 | h2
     ·exact h2.symm
     ·exact absurd (List.mem_map.mpr (iX1b e h2 hl.symm)) hn.1
    ·rcases List.mem_cons.mp h2 with rfl | h2
     ·exact absurd (List.mem_map.mpr (iX1b x h9 hl) : e.l ∈ r.map (·.l)) hn.1
     ·exact ih hn.2 h9 h2
  exact hk (by rw [this h.nd hx he])
 have ho : o ≠ e.l:=fun q=>by have:=h.d;rw [q,el] at this;cases this
 refine (iX1d _ el (by rw [List.length_map,a.len];exact h.ln e he) ?_ (by rw [kps_eput,lookup_kps h.nk he]))
 refine h.put ?_ (h.ks e he) (iX1b (ss ++ rs) ?_ ((a.imp fun _ _ x=>x.updList el).app (hq.imp fun _ _ x=>x.updList el))) (by rw [List.length_append];lia) (fun x hx hk=>(h.ps x hx).updOther el (hne x hx hk)) hne
 ·rw [mset_ne ho,h.d,sput_same hlk]
 ·rw [mset_same,hy,List.map_append]
structure MergeP (S : BSt) (z0 z1 : Int) (K0 K1 : KP) (Post : BSt -> Int -> KP -> KP -> Prop) : Prop where
 old : (∃ p ∈ kflat K1,mxb (K0.map (·.1)) p.birth < 0) -> Post S z1 K0 K1
 new : (∀ p ∈ kflat K1,0 <= mxb (K0.map (·.1)) p.birth) -> (tMerge z0 z1).wp S (fun _ S1=>(tNewDead [5,0,5]).wp S1 (fun z' S2=>(tIsThere z1).wp S2 (fun r S3=>r = false /\ Post S3 z' ((kflat K1).foldl ownPut K0) [(0,[]),(5,[])]) fun _ _=>False) fun _ _=>False) fun _ _=>False
noncomputable def specMerged : Spec:=fun args mem Q _=>∃ b dl ol Out S z0 z1 K0 K1,∃ Post : BSt -> Int -> KP -> KP -> Prop,args = [.ref b,.ref dl,.ref ol] /\ LSt mem b dl ol Out S z0 z1 K0 K1 /\ (∀ e ∈ K0,e.2.length <= 400) /\ (kflat K1).length <= 400 /\ MergeP S z0 z1 K0 K1 Post /\
 ∀ m' S' z' K0' K1',Post S' z' K0' K1' -> LSt m' b dl ol Out S' z0 z' K0' K1' -> LTo Out mem m' -> Q (.bool true) m'
theorem lawF_ld {m : Mem} {b dl ol o0 o1 : Addr} {Out : List Addr} {S : BSt} {z0 z1 : Int} {K0 K1 : KP} {E0 E1 : List OE} (L : LParts m b dl ol Out S z0 z1 K0 K1 o0 o1 E0 E1) : ∀ a ∈ lawF dl ol o0 o1 E0 E1,ListOrD m a:=fun a ha=>by
 unfold lawF at ha
 simp only [List.mem_cons,List.mem_append] at ha
 rcases ha with rfl | rfl | rfl | rfl | ha | ha
 ·exact .inl (iX1a _ L.hdl)
 ·exact .inl (iX1a _ L.hol)
 ·exact .inr (iX2a _ _ L.w0.d)
 ·exact .inr (iX2a _ _ L.w1.d)
 ·exact L.w0.ld a (.tail _ ha)
 ·exact L.w1.ld a (.tail _ ha)
theorem not_any_nil {α β : Type} {R : α -> β -> Prop} {l : List α} {m : List β} (h : All2 R l m) : l.isEmpty = m.isEmpty:=by
 cases h <;> rfl
theorem keysOk505 : KeysOk [5,0,5]:=(iX0c (fun k hk=>by simp only [List.mem_cons,List.not_mem_nil,or_false] at hk;lia) (by decide) (fun led=>by rw [List.foldl_cons,List.foldl_cons,List.foldl_cons,List.foldl_nil];exact ok505 led))
theorem fnMerged : FnC 13 435 specMerged:=by
 refine FnC.go (d:=st 56) (qual:=S "_law_merged") ["base","deads","owns"] (fun P=>rfl) (fun P=>by rfl) (by rfl) ?_ ?_
 ·exact fun _ _ _ _=>BindsTo.of_eq (by rfl)
 ·intro args mem Q X zz526;refine eX4a zz526 ?_;clear zz526;intro b dl ol Out zy13;refine eX4a zy13 ?_;clear zy13;intro S z0 z1 K0 zy14;refine eX2f zy14 ?_;clear zy14;intro K1 Post ee527 zz528 hl0 hl1 hP hQ;subst ee527;refine eX4a zz528 ?_;clear zz528;intro o0 o1 E0 E1 L
  refine ⟨rfl,fun cx hs hw rm=>?_⟩
  have hF:=lawF_ld L
  have hE0:=L.w0.len
  have hkf : kflat K1 = flat E1:=by rw [flat_kps,L.k1]
  have hoks : K0.map (·.1) = oks E0:=by rw [<- L.k0,kps_keys]
  have hPold:=hP.old
  have hPnew:=hP.new
  rw [hoks] at hPold hPnew
  clear hP
  refine SV.cons ?_
  refine S1.assign (hwr:=hw) hs ?_
  refine EV.callF hs nF401 ?_
  refine EVs.cons (EV.subS rfl rfl ?_)
  refine SubV.list (v:=.ref o1) L.hol (by decide) (by decide) rfl ?_
  refine EVs.nil ?_
  refine fnFlat _ _ _ _ _ (rm.le (by decide)) (iX2c o1 E1 rfl L.w1 (fun r m1 M1 hr hrn'=>?_))
  rw [<- hkf] at hr
  refine eX1b (id hr) fun rs er hall=>?_
  have w0:=L.w0.keep (Kp.of_le M1)
  refine SV.cons (S1.ite (BV.cmp ?_))
  refine EV.comp [("owns",.ref ol)] hs ?_ (Loc.le_cons rfl (Loc.le_nil _))
  refine EV.name rfl (iX1b (rs.map .ref) (by rw [List.length_map,hall.len];lia) (ItV.list er (CompP.sift (fun p=>decide (mxb (oks E0) p.birth < 0)) rfl rfl rs (kflat K1) [] hall (fun r p zq134 cx' hs' hA=>eX4a zq134 fun d t1 t2 pls Hp=>?_) (fun r cx' hs'=>EV.name rfl (iX0b rfl rfl)) fun rsD haD D hD=>?_)))
  ·refine BV.cmp (EV.callF hs' nF394 ?_)
   refine EVs.cons (EV.subS rfl rfl ?_)
   refine SubV.list (v:=.ref o0) (M1 _ _ L.hol) (by decide) (by decide) rfl ?_
   refine EVs.cons (EV.attrS rfl (AttrV.inst Hp.i Hp.d rfl aokPbirth (by nofun) ?_))
   refine EVs.nil ?_
   refine fnBelow _ _ _ _ _ (hA ▸ rm.le (by decide)) (iX3d o0 (ownEs E0) p.birth rfl w0.d (by unfold ownEs;rw [List.length_map];lia) ?_)
   rw [ownEs_keys]
   exact EV.cInt (Op2.lt (Tr.bool (iX0b rfl rfl)))
  rw [List.nil_append] at *
  have M2:=MLe.new (o:=.list (rsD.map .ref)) hD
  refine EV.list (EVs.nil (iX0b (nle rfl) (fun l hl=>?_)))
  have M3:=MLe.new (o:=.list []) hl
  have hll : D ≠ l:=fun q=>by rw [<- q,mset_same] at hl;cases hl
  refine Op2.neNil ((mset_ne hll).trans (mset_same ..)) (mset_same ..) (Tr.bool ?_)
  have hee : (rsD.map AV.ref).isEmpty = ((kflat K1).filter fun p=>decide (mxb (oks E0) p.birth < 0)).isEmpty:=by rw [<- not_any_nil haD];cases rsD <;> rfl
  rw [hee]
  have M123:=M1.trans (M2.trans M3)
  have er3:=(M2.trans M3) _ _ er
  have hall3:=hall.imp fun _ _ x=>x.le (M2.trans M3)
  generalize mset (mset m1 D (.list (rsD.map .ref))) l (.list []) = m3 at M123 er3 hall3 ⊢
  as_aux_lemma =>
  by_cases hold : ∃ p ∈ kflat K1,mxb (oks E0) p.birth < 0
  ·have : ((kflat K1).filter fun p=>decide (mxb (oks E0) p.birth < 0)).isEmpty = false:=by
    refine eX1b hold ?_;clear hold;intro p hp hb
    cases hq : (kflat K1).filter fun p=>decide (mxb (oks E0) p.birth < 0) with
    | nil=>exact absurd (List.filter_eq_nil_iff.mp hq p hp) (by simpa using hb)
    | cons=>rfl
   rw [this,Bool.not_false];refine ifT rfl ?_
   refine SV.cons (S1.ret (EV.cBool ?_))
   refine hQ _ _ _ _ _ (hPold hold) (iX4a o0 o1 E0 E1 ?_) (LTo.kp (Kp.of_le M123))
   have K:=Kp.of_le M123
   exact ⟨L.B.le M123,M123 _ _ L.hdl,M123 _ _ L.hol,L.w0.keep K,L.w1.keep K,L.k0,L.k1,L.ne,L.ap,L.out,fun a ha=>let ⟨o,e,n⟩:=L.has a ha;(iX1b o (M123 _ _ e) n)⟩
  have hnew : ∀ p ∈ kflat K1,0 <= mxb (oks E0) p.birth:=fun p hp=>by
   by_cases h : 0 <= mxb (oks E0) p.birth
   ·exact h
   ·exact absurd (iX1b p hp (by lia)) hold
  have : ((kflat K1).filter fun p=>decide (mxb (oks E0) p.birth < 0)).isEmpty = true:=by
   rw [List.isEmpty_iff,List.filter_eq_nil_iff]
   intro p hp
   have:=hnew p hp
   simp only [decide_eq_true_eq];lia
  rw [this,Bool.not_true];refine ifF (by decide) ?_
  refine SV.nil ?_
  have hmerge:=hPnew hnew
  clear hold hee this haD hD hl hll M2 M3 hPold hPnew
  refine SV.cons ?_
  refine S1.for ?_
  refine EV.name rfl (iX1a (rs.map .ref) (ItV.list er3 ?_))
  have B3:=L.B.le M123
  have w3:=L.w0.keep (Kp.of_le M123)
  have kf3 : KpF (lawF dl ol o0 o1 E0 E1) mem m3:=(Kp.of_le M123).f
  have hrF : r ∉ lawF dl ol o0 o1 E0 E1:=fun h=>by
   rcases hF r h with ⟨xs,q⟩ | ⟨ep,es,q⟩ <;> (rw [hrn'] at q;cases q)
  refine eX1a ((show ∃ Kf,(kflat K1).foldl ownPut K0 = Kf from (iX1a _ rfl))) fun Kf hKf=>?_
  rw [hKf] at hmerge
  have hdlN:=LParts.dlN L.hdl L.w0
  have holN:=LParts.olN L.hol L.w0 L.w0
  have hd3:=M123 _ _ L.hdl
  have ho3:=M123 _ _ L.hol
  have hlen3 : ∀ e ∈ E0,e.ps.length + (kflat K1).length <= 800:=fun e he=>by
   have:=hl0 (e.k,e.ps) (by rw [<- L.k0];exact List.mem_map.mpr (iX1b e he rfl))
   simp only at this;lia
  have hinF : ∀ {a},a ∈ ownF o0 E0 -> a ∈ lawF dl ol o0 o1 E0 E1:=fun {a} h=>by
   unfold lawF
   rcases List.mem_cons.mp h with rfl | h
   ·simp
   ·simp only [List.mem_cons,List.mem_append];exact .inr (.inr (.inr (.inr (.inl h))))
  refine eX1a ((show ∃ Ec,Ec = E0 from (iX1a _ rfl))) fun Ec hEc=>?_
  have hls : Ec.map (·.l) = E0.map (·.l):=by rw [hEc]
  have hks : oks Ec = oks E0:=by rw [hEc]
  have hKf2 : (kflat K1).foldl ownPut (kps Ec) = Kf:=by rw [hEc,L.k0];exact hKf
  have hlenc : ∀ e ∈ Ec,e.ps.length + (kflat K1).length <= 800:=by rw [hEc];exact hlen3
  have wc : OwnAt m3 o0 Ec:=by rw [hEc];exact w3
  refine eX1a ((show ∃ loc : Loc,loc = ([("some",.ref r),("base",.ref b),("deads",.ref dl),("owns",.ref ol)] : Loc) from (iX1a _ rfl))) fun loc hloc0=>?_
  have hloc : Loc.le ([("some",.ref r),("base",.ref b),("deads",.ref dl),("owns",.ref ol)] : Loc) loc:=hloc0 ▸ Loc.le_refl _
  show ForP cx _ _ _ _ _ _ ([("some",.ref r),("base",.ref b),("deads",.ref dl),("owns",.ref ol)] : Loc) _
  rw [<- hloc0]
  clear hloc0 hEc hlen3 w3 hKf
  refine eX1a ((show ∃ xs,m3 r = some (.list xs) from (iX1a _ er3))) fun xs0 hx0=>?_
  clear er3 hr er hall w0 M1 hrn'
  have hkf':=hl1
  rw [hkf] at hl1
  clear hl1 M123
  clear hkf
  generalize kflat K1 = ps at hnew hKf2 hlenc hall3 hkf'
  as_aux_lemma =>
  induction ps generalizing rs m3 Ec loc with
  | nil =>
   cases hall3
   refine SV.wloc hloc ?_
   have hK : kps Ec = Kf:=hKf2
   refine SV.cons ?_
   refine S1.assign (hwr:=hw) hs ?_
   refine EV.subS rfl rfl ?_
   refine SubV.list (v:=.int z1) hd3 (by decide) (by decide) rfl ?_
   refine SV.cons ?_
   refine S1.expr ?_ _ hs
   refine EV.callF hs nF260 ?_
   refine EVs.consS rfl ?_
   refine EVs.cons (EV.subS rfl rfl ?_)
   refine SubV.list (v:=.int z0) hd3 (by decide) (by decide) rfl ?_
   refine EVs.s rfl ?_
   refine fnMerge _ _ _ _ _ (rm.le (by decide)) (iX3b b z0 z1 rfl (Tw.go B3 hmerge (fun _ S4 a4 m4 q4 B4 K4 e4=>?_) fun C S9 m9 q9 B9 K9=>q9.elim))
   have wc4:=wc.keep K4
   have hd4:=K4 _ _ hd3 rfl
   have ho4:=K4 _ _ ho3 rfl
   have kf4:=kf3.trans K4.f
   refine SV.cons ?_
   refine @S1.setSub _ _ _ _ _ _ _ _ _ _ _ _ hs ?_ rfl
   refine @EV.dict2 _ _ _ _ _ _ _ _ _ _ _ _ 0 5 (by decide) ?_
   intro D l1 l2 m5 M5 eD e1 e2 hne hDn h1n h2n
   refine EV.name rfl (EV.cInt ?_)
   refine SetV.list (j:=1) (M5 _ _ ho4) (nle rfl) (nle rfl) ?_
   rw [show ([AV.ref o0,AV.ref o1].set 1 (.ref D)) = [.ref o0,.ref D] from rfl]
   have B6 : BaseAt (mset m5 ol (.list [.ref o0,.ref D])) b S4:=(B4.le M5).updList (M5 _ _ ho4)
   have hdo : dl ≠ ol:=fun q=>by rw [q,ho4] at hd4;cases hd4
   have hd6 : mset m5 ol (.list [.ref o0,.ref D]) dl = some (.list [.int z0,.int z1]):=(mset_ne hdo).trans (M5 _ _ hd4)
   have nol : ∀ a,(m4 a = none) -> a ≠ ol:=fun a h q=>by rw [q,ho4] at h;cases h
   have eD6 : mset m5 ol (.list [.ref o0,.ref D]) D = some (.dictI false none [(0,.ref l1),(5,.ref l2)]):=(mset_ne (nol D hDn)).trans eD
   have e16 : mset m5 ol (.list [.ref o0,.ref D]) l1 = some (.list []):=(mset_ne (nol l1 h1n)).trans e1
   have e26 : mset m5 ol (.list [.ref o0,.ref D]) l2 = some (.list []):=(mset_ne (nol l2 h2n)).trans e2
   have wl6 : ∀ e ∈ Ec,PtrsAt (mset m5 ol (.list [.ref o0,.ref D])) e.l e.ps:=fun e he=>((wc4.ps e he).keep (Kp.of_le M5)).updOther (M5 _ _ ho4) fun q=>holN (.tail _ (by rw [<- hls,<- q];exact List.mem_map_of_mem he))
   have ho0 : o0 ≠ ol:=fun q=>holN (by rw [<- q];exact .head _)
   have w6 : OwnAt (mset m5 ol (.list [.ref o0,.ref D])) o0 Ec:=⟨(mset_ne ho0).trans (M5 _ _ wc4.d),wl6,wc4.nd,wc4.ks,wc4.nk,wc4.ln⟩
   have kf6 : KpF (lawF dl ol o0 o1 E0 E1) mem (mset m5 ol (.list [.ref o0,.ref D])):=(kf4.trans (Kp.of_le M5).f).trans (KpF.set (.tail _ (.head _)))
   have ho6 : mset m5 ol (.list [.ref o0,.ref D]) ol = some (.list [.ref o0,.ref D]):=mset_same ..
   generalize mset m5 ol (.list [.ref o0,.ref D]) = m6 at B6 hd6 eD6 e16 e26 w6 kf6 ho6 ⊢
   as_aux_lemma =>
   clear wl6 e1 e2 eD
   refine SV.cons ?_
   refine S1.setSub hs ?_
   refine EV.callF hs nF191 ?_
   refine EVs.consS rfl ?_
   refine EVs.cons ?_
   refine EV.list ?_
   refine EVs.s rfl (iX0b (nle rfl) (fun L3 hL3=>?_))
   have M7:=MLe.new (o:=.list [.int 5,.int 0,.int 5]) hL3
   refine EVs.nil ?_
   refine fnNewDead _ _ _ _ _ (rm.le (by decide)) (iX3d b L3 ([5,0,5]) rfl (mset_same ..) keysOk505 (Tw.go (B6.le M7) q4 (fun z' S8 a8 m8 q8 B8 K8 e8=>?_) fun C S9 m9 q9 B9 K9=>q9.elim))
   subst e8
   have K68:=(Kp.of_le M7).trans K8
   refine EV.name rfl (EV.cInt ?_)
   refine SetV.list (j:=1) (K68 _ _ hd6 rfl) (nle rfl) (nle rfl) ?_
   rw [show ([AV.int z0,AV.int z1].set 1 (.int z')) = [.int z0,.int z'] from rfl]
   have hd8:=K68 _ _ hd6 rfl
   have ndl : ∀ a o,m6 a = some o -> o ≠ .list [.int z0,.int z1] -> a ≠ dl:=fun a o e n q=>by rw [q,hd6] at e;exact n (Option.some.inj e).symm
   have B9 : BaseAt (mset m8 dl (.list [.int z0,.int z'])) b S8:=B8.updList hd8
   have hd9 : mset m8 dl (.list [.int z0,.int z']) dl = some (.list [.int z0,.int z']):=mset_same ..
   have ho9 : mset m8 dl (.list [.int z0,.int z']) ol = some (.list [.ref o0,.ref D]):=(mset_ne (Ne.symm hdo)).trans (K68 _ _ ho6 rfl)
   have w8:=w6.keep K68
   have w9 : OwnAt (mset m8 dl (.list [.int z0,.int z'])) o0 Ec:=⟨(mset_ne (ndl _ _ w6.d nofun)).trans w8.d,fun e he=>(w8.ps e he).updOther hd8 fun q=>hdlN (.tail _ (by rw [<- hls,<- q];exact List.mem_map_of_mem he)),w8.nd,w8.ks,w8.nk,w8.ln⟩
   have eD9 : mset m8 dl (.list [.int z0,.int z']) D = some (.dictI false none [(0,.ref l1),(5,.ref l2)]):=(mset_ne (ndl _ _ eD6 nofun)).trans (K68 _ _ eD6 rfl)
   have e19 : mset m8 dl (.list [.int z0,.int z']) l1 = some (.list []):=(mset_ne (ndl _ _ e16 (by simp))).trans (K68 _ _ e16 rfl)
   have e29 : mset m8 dl (.list [.int z0,.int z']) l2 = some (.list []):=(mset_ne (ndl _ _ e26 (by simp))).trans (K68 _ _ e26 rfl)
   have kf9 : KpF (lawF dl ol o0 o1 E0 E1) mem (mset m8 dl (.list [.int z0,.int z'])):=(kf6.trans K68.f).trans (KpF.set (.head _))
   generalize mset m8 dl (.list [.int z0,.int z']) = m9 at B9 hd9 ho9 w9 eD9 e19 e29 kf9 ⊢
   as_aux_lemma =>
   refine SV.cons (S1.ret (EV.not ?_))
   refine EV.methS rfl (B9.meth mokIsThere ?_)
   refine EVs.s rfl ?_
   refine fnIsThere _ _ _ _ _ (rm.le (by decide)) (iX2b b z1 rfl (Tw.go B9 q8 (fun r10 S10 a10 m10 q10 B10 K10 e10=>?_) fun C S9 m9 q9 B9 K9=>q9.elim))
   subst e10
   refine eX0b q10 ?_;clear q10;intro ee529 hpost;subst ee529
   refine Tr.bool ?_
   have w10:=w9.keep K10
   have w1' : OwnAt m10 D [⟨0,l1,[]⟩,⟨5,l2,[]⟩]:=by
    refine ⟨K10 _ _ eD9 rfl,fun e he=>?_,?_,fun e he=>?_,?_,fun e he=>?_⟩
    ·simp only [List.mem_cons,List.not_mem_nil,or_false] at he
     rcases he with rfl | rfl
     ·exact .list0 (K10 _ _ e19 rfl)
     ·exact .list0 (K10 _ _ e29 rfl)
    ·simp [hne]
    ·simp only [List.mem_cons,List.not_mem_nil,or_false] at he
     rcases he with rfl | rfl
     ·exact (iX0b (Int.le_refl 0) (by decide : (0 : Int) < 10))
     ·exact (iX0b (by decide : (0 : Int) <= 5) (by decide : (5 : Int) < 10))
    ·simp
    ·simp only [List.mem_cons,List.not_mem_nil,or_false] at he
     rcases he with rfl | rfl <;> simp
   have memN : ∀ a,m4 a = none -> ∀ o,mem a = some o -> isB o = false -> a ∈ lawF dl ol o0 o1 E0 E1:=fun a h o e n=>by
    by_cases q : a ∈ lawF dl ol o0 o1 E0 E1
    ·exact q
    ·have:=kf4 _ _ e n q;rw [h] at this;cases this
   have nin : ∀ e ∈ Ec,m4 e.l ≠ none:=fun e he=>mem_some_of_own wc4 he
   have kf10:=kf9.trans K10.f
   refine hQ _ _ _ _ _ hpost (iX4a o0 D Ec ([⟨0,l1,[]⟩,⟨5,l2,[]⟩]) (⟨B10,K10 _ _ hd9 rfl,K10 _ _ ho9 rfl,w10,w1',hK,rfl,fun q=>?_,fun e he f hf q=>?_,fun a ha h=>?_,fun a ha=>?_⟩)) ⟨fun a ha o e n=>kf10 _ _ e n (L.out a ha),fun r p x=>x.keepF kf10 hF⟩
   ·rw [<- q,wc4.d] at hDn;cases hDn
   ·simp only [List.mem_cons,List.not_mem_nil,or_false] at hf
    rcases hf with rfl | rfl
    ·exact nin e he (by rw [q];exact h1n)
    ·exact nin e he (by rw [q];exact h2n)
   ·have no:=L.out a ha
    refine eX1b (L.has a ha) fun o ho n=>?_
    have out4 : m4 a ≠ none:=by rw [kf4 _ _ ho n no];nofun
    unfold lawF at h no
    simp only [List.mem_cons,List.mem_append,not_or,List.map_cons,List.map_nil,List.not_mem_nil,or_false] at h no
    refine eX0f no ?_;clear no;intro n1 n2 n3 n4 n5 n6
    rcases h with h | h | h | h | h | h | h
    ·exact n1 h
    ·exact n2 h
    ·exact n3 h
    ·exact out4 (by rw [h];exact hDn)
    ·exact n5 (by rw [<- hls];exact h)
    ·exact out4 (by rw [h];exact h1n)
    ·exact out4 (by rw [h];exact h2n)
   ·refine eX1b (L.has a ha) fun o e n=>?_
    exact (iX1b o (kf10 _ _ e n (L.out a ha)) n)
  | cons p ps ih =>
   cases hall3 with
   | cons hp hall3 =>
   rename_i r0 rs
   refine fun G'=>AsgV.name (sc:=dScope (st 56)) hs ?_
   refine SV.wloc (Loc.le_both hloc) ?_
   have hkey:=hnew p (.head _)
   have hin : mxb (oks Ec) p.birth ∈ oks Ec:=mxb_mem (by rw [hks];exact hkey)
   refine eX1b (List.mem_map.mp hin) fun e he hek=>?_
   refine eX1d (wc.growE he (ys:=[.ref r0]) (qs:=[p]) (by have:=hlenc e he;rw [List.length_cons] at this;rw [List.length_singleton];lia) (rs:=[r0]) rfl (.cons hp .nil)) fun xs x1 x2 x3 x4=>?_
   have hel : e.l ∈ E0.map (·.l):=by rw [<- hls];exact List.mem_map_of_mem he
   refine eX4a (id hp) fun d t1 t2 pls Hp=>?_
   refine SV.cons ?_
   refine S1.expr ?_ _ hs
   refine EV.meth ?_
   refine EV.sub (EV.subS rfl rfl ?_)
   refine SubV.list (v:=.ref o0) ho3 (by decide) (by decide) rfl ?_
   refine EV.callF (cx:=cx.withG G') hs nF394 ?_
   refine EVs.cons (EV.subS rfl rfl ?_)
   refine SubV.list (v:=.ref o0) ho3 (by decide) (by decide) rfl ?_
   refine EVs.cons (EV.attrS rfl (AttrV.inst Hp.i Hp.d rfl aokPbirth (by nofun) ?_))
   refine EVs.nil ?_
   have hEcl:=wc.len
   refine fnBelow _ _ _ _ _ (rm.le (by decide)) (iX3d o0 (ownEs Ec) p.birth rfl wc.d (by unfold ownEs;rw [List.length_map];lia) ?_)
   rw [ownEs_keys,<- hek]
   refine SubV.dict (dkI false) (ep:=none) wc.d (own_lookup wc he) ?_
   refine MethV.append x1 ?_
   refine EVs.s rfl ?_
   refine CallV.append x1 (by lia) ?_
   refine eX0b (eput_ls (ps:=e.ps ++ [p]) wc.nk he) fun els eks=>?_
   have nr : r ≠ e.l:=fun q=>hrF (hinF (.tail _ (by rw [q];exact hel)))
   have ndl : dl ≠ e.l:=fun q=>hdlN (.tail _ (by rw [q];exact hel))
   have nol : ol ≠ e.l:=fun q=>holN (.tail _ (by rw [q];exact hel))
   refine SV.nil (iX0b (fun d hd=>?_) ?_)
   ·cases hd;exact mset_ne nr
   ·have hput : ownPut (kps Ec) p = kput (kps Ec) e.k (kget (kps Ec) e.k ++ [p]):=by
     unfold ownPut
     rw [kps_keys,<- hek]
     simp only
     rw [if_pos (by rw [hek,hks];exact hkey)]
    refine ih _ _ (B3.updList x1) (kf3.trans (KpF.set (hinF (.tail _ hel)))) ((mset_ne ndl).trans hd3) ((mset_ne nol).trans ho3) _ (els.trans hls) (eks.trans hks) x3 _ (Loc.le_skip rfl) ((mset_ne nr).trans hx0) (fun q hq=>hnew q (.tail _ hq)) ?_ (fun q hq=>?_) (hall3.imp fun _ _ x=>x.updList x1) (by rw [List.length_cons] at hkf';lia)
    ·rw [x4,<- hput];exact hKf2
    ·rcases mem_eput wc.nk hq with rfl | ⟨h,_⟩
     ·have:=hlenc e he
      rw [List.length_cons] at this
      show (e.ps ++ [p]).length + ps.length <= 800
      rw [List.length_append,List.length_singleton];lia
     ·have:=hlenc q h
      rw [List.length_cons] at this;lia
noncomputable abbrev KAnd2b (cx : Cx) (X : MQ Addr) (loc : Loc) (a : AV) (e : Expr) (Q : MQ AV) : MQ Bool:=fun c m=>if c = true then EV cx e loc m Q X else Q a m
noncomputable abbrev KAnd2 (cx : Cx) (X : MQ Addr) (loc : Loc) (e : Expr) (Q : MQ AV) : MQ AV:=fun a m=>Tr cx a m (KAnd2b cx X loc a e Q) X
theorem EV.and2 {cx : Cx} {X : MQ Addr} {loc : Loc} {mem : Mem} {Q : MQ AV} {e1 e2 : Expr} {rest : List Expr} {pos : Pos} (h : EV cx e1 loc mem (KAnd2 cx X loc (.BoolOp .And (e2 :: rest) pos) Q) X) : EV cx (.BoolOp .And (e1 :: e2 :: rest) pos) loc mem Q X:=fun s I =>
 BoolOp_and (TV.go h I fun v s1 m1 I1 h1=>wpAny_mono (h1 loc v rfl s1 I1) (fun c s2 zq138=>eX1b zq138 fun m2 I2 h2=>by
  cases c with
  | true=>exact h2 s2 I2
  | false=>exact (iX1b m2 I2 h2)) fun _ _ x=>x)
theorem EV.and1 {cx : Cx} {X : MQ Addr} {loc : Loc} {mem : Mem} {Q : MQ AV} {e : Expr} {pos : Pos} (h : EV cx e loc mem Q X) : EV cx (.BoolOp .And [e] pos) loc mem Q X:=fun s I=>BoolOp_one (h s I)
theorem EV.lenNotes {cx : Cx} {X : MQ Addr} {loc : Loc} {mem : Mem} {Q : MQ AV} {sc : Scope} {b : Addr} {S : BSt} {p p2 p3 pos : Pos} {x : Str} (hs : cx.env.scope = sc) (B : BaseAt mem b S) (hx : loc.lookup x = some (.ref b)) (h : Q (.int S.notes.length) mem)
  (hd : (x == ("__debug__" : Str)) = false:=by decide) (hc : (x == ("__classdict__" : Str)) = false:=by decide) (hn : sc.names.lookup (Mine.S "len") = some .globalImplicit:=by rfl) : EV cx (.Call (.Name "len" p) [.Attribute (.Name x p2) "notes" p3] [] pos) loc mem Q X:=by
 refine eX1b B ?_;clear B;intro S0 B0 ee531;subst ee531
 refine EV.callB hs nB_len ?_ (hn:=hn)
 refine EVs.cons (EV.attr (EV.name hx (AttrV.inst B0.i B0.d rfl aokN (by nofun) ?_) hd hc))
 refine EVs.nil ?_
 have e : mem S0.nd = some (.dictI true none (S0.notes.map fun p=>(p.1,.bytes (encAll p.2)))):=B0.n
 refine CallV.dictLen (dkI true) (ep:=none) e (by rw [List.length_map];have:=B0.ln;lia) ?_
 rw [List.length_map];exact h
structure PlainLaw (Good : Nat -> BSt -> Int -> Int -> KP -> KP -> Prop) : Prop where
 init : ∀ x : Int,0 <= x -> (tNewDead [(x.fdiv 10).fmod 10,x.fmod 10,0]).wp base0 (fun z0 S1=>(tNewDead [3,0]).wp S1 (fun z1 S2=>Good 0 S2 z0 z1 (nilK [] [0,x.fmod 10,(x.fdiv 10).fmod 10]) [(0,[]),(3,[])]) fun _ _=>False) fun _ _=>False
 is0 : ∀ {n S z0 z1 K0 K1},Good n S z0 z1 K0 K1 -> LawIsK S z0 K0
 is1 : ∀ {n S z0 z1 K0 K1},Good n S z0 z1 K0 K1 -> LawIsK S z1 K1
 notes : ∀ {n S z0 z1 K0 K1},Good n S z0 z1 K0 K1 -> S.notes.length = K0.length + K1.length
 len0 : ∀ {n S z0 z1 K0 K1},Good n S z0 z1 K0 K1 -> ∀ e ∈ K0,e.2.length <= 400
 len1 : ∀ {n S z0 z1 K0 K1},Good n S z0 z1 K0 K1 -> ∀ e ∈ K1,e.2.length <= 400
 flat1 : ∀ {n S z0 z1 K0 K1},Good n S z0 z1 K0 K1 -> (kflat K1).length <= 400
 step0 : ∀ {n S z0 z1 K0 K1},Good n S z0 z1 K0 K1 -> n < 18 -> ∀ x : Int,0 <= x -> ∀ N,StepP S z0 K0 (x.fmod 9) (keyOf x) (highOf x) ⟨N,keyFin x⟩ fun S' K'=>Good (n + 1) S' z0 z1 K' K1
 step1 : ∀ {n S z0 z1 K0 K1},Good n S z0 z1 K0 K1 -> n < 18 -> ∀ x : Int,0 <= x -> ∀ N,StepP S z1 K1 (x.fmod 9) (keyOf x) (highOf x) ⟨N,keyFin x⟩ fun S' K'=>Good (n + 1) S' z0 z1 K0 K'
 merge : ∀ {n S z0 z1 K0 K1},Good n S z0 z1 K0 K1 -> n < 18 -> MergeP S z0 z1 K0 K1 fun S' z' K0' K1'=>Good (n + 1) S' z0 z' K0' K1'
 fin : ∀ {n S z0 z1 K0 K1},Good n S z0 z1 K0 K1 -> (tDropDead z0).wp S (fun _ S1=>(tIsThere z0).wp S1 (fun r S2=>r = false /\ S2.notes.length = K1.length) fun _ _=>False) fun _ _=>False
section
variable {m m' : Mem} {b dl ol : Addr} {Out : List Addr} {S : BSt} {z0 z1 : Int} {K0 K1 : KP} {o0 o1 : Addr} {E0 E1 : List OE}
theorem LParts.le (L : LParts m b dl ol Out S z0 z1 K0 K1 o0 o1 E0 E1) (M : MLe m m') : LParts m' b dl ol Out S z0 z1 K0 K1 o0 o1 E0 E1 :=
 ⟨L.B.le M,M _ _ L.hdl,M _ _ L.hol,L.w0.keep (Kp.of_le M),L.w1.keep (Kp.of_le M),L.k0,L.k1,L.ne,L.ap,L.out,fun a ha=>let ⟨o,e,n⟩:=L.has a ha;(iX1b o (M _ _ e) n)⟩
theorem LParts.kp {S' : BSt} (L : LParts m b dl ol Out S z0 z1 K0 K1 o0 o1 E0 E1) (B : BaseAt m' b S') (K : Kp m m') : LParts m' b dl ol Out S' z0 z1 K0 K1 o0 o1 E0 E1 :=
 ⟨B,K _ _ L.hdl rfl,K _ _ L.hol rfl,L.w0.keep K,L.w1.keep K,L.k0,L.k1,L.ne,L.ap,L.out,fun a ha=>let ⟨o,e,n⟩:=L.has a ha;(iX1b o (K _ _ e n) n)⟩
theorem LParts.updOut (L : LParts m b dl ol Out S z0 z1 K0 K1 o0 o1 E0 E1) {a : Addr} {xs ys : List AV} (ha : a ∈ Out) (e : m a = some (.list xs)) : LParts (mset m a (.list ys)) b dl ol Out S z0 z1 K0 K1 o0 o1 E0 E1:=by
 have no:=L.out a ha
 unfold lawF at no
 simp only [List.mem_cons,List.mem_append,not_or] at no
 refine eX0f no fun n1 n2 n3 n4 n5 n6=>?_
 have own : ∀ {o : Addr} {E : List OE},OwnAt m o E -> a ≠ o -> a ∉ E.map (·.l) -> OwnAt (mset m a (.list ys)) o E:=fun {o E} w h1 h2 =>
  ⟨(mset_ne (Ne.symm h1)).trans w.d,fun e' he=>(w.ps e' he).updOther e fun q=>h2 (q ▸ List.mem_map_of_mem he),w.nd,w.ks,w.nk,w.ln⟩
 refine ⟨L.B.updList e,(mset_ne (Ne.symm n1)).trans L.hdl,(mset_ne (Ne.symm n2)).trans L.hol,own L.w0 n3 n5,own L.w1 n4 n6,L.k0,L.k1,L.ne,L.ap,L.out,fun x hx=>?_⟩
 by_cases q : x = a
 ·subst q;exact (iX1b _ (mset_same ..) rfl)
 ·refine eX1b (L.has x hx) fun o e' n=>?_
  exact (iX1b o ((mset_ne q).trans e') n)
end
noncomputable def mkp (j : Nat) : Pt:=⟨⟨j % 18,Nat.mod_lt _ (by decide)⟩,0⟩
theorem mkp_sz : ∀ j : Nat,j < 18 -> (mkp j).sz = (1 + (j : Int).fmod 3) * (1 + (j : Int).fmod 2):=by
 have : ∀ j : Fin 18,(mkp j.val).sz = (1 + (j.val : Int).fmod 3) * (1 + (j.val : Int).fmod 2):=by decide +kernel
 exact fun j h=>this ⟨j,h⟩
theorem dueSum (n : Nat) (h : n <= 18) : (((List.range n).map mkp).map Pt.sz).sum = ((List.range' 0 n).map fun (j : Nat)=>(1 + (j : Int).fmod 3) * (1 + (j : Int).fmod 2)).sum:=by
 rw [List.map_map,<- List.range_eq_range']
 congr 1
 refine List.map_congr_left fun j hj=>mkp_sz j ?_
 have:=List.mem_range.mp hj;lia
noncomputable def forBody : List Stmt -> List Stmt
 | .For _ _ b _ _ :: _=>b
 | _=>[]
structure LInv (Good : Nat -> BSt -> Int -> Int -> KP -> KP -> Prop) (m : Mem) (b dl ol p s ml : Addr) (xs : List Int) (i : Nat) : Prop where
 ex : ∃ S z0 z1 K0 K1,LSt m b dl ol [p,s,ml] S z0 z1 K0 K1 /\ Good i S z0 z1 K0 K1
 pen : PenAt m p s xs (i + 1)
 made : PtrsAt m ml ((List.range i).map mkp)
 pm : p ≠ ml
 sm : s ≠ ml
 len : xs.length <= 100
theorem drawn_nonneg (xs : List Int) (i : Nat) : 0 <= drawn xs i:=by
 unfold drawn
 simp only
 split <;> lia
theorem LTo.penAt {Out : List Addr} {m m' : Mem} {p s : Addr} {xs : List Int} {i : Nat} (t : LTo Out m m') (hp : p ∈ Out) (hs : s ∈ Out) (h : PenAt m p s xs i) : PenAt m' p s xs i:=(iX0c (t.out _ hp _ h.1 rfl) (t.out _ hs _ h.2.1 rfl) h.2.2)
theorem LTo.ptrsAt {Out : List Addr} {m m' : Mem} {ml : Addr} {ps : List Pt} (t : LTo Out m m') (hl : ml ∈ Out) (h : PtrsAt m ml ps) : PtrsAt m' ml ps:=let ⟨rs,e,a⟩:=h;(iX1b rs (t.out _ hl _ e rfl) (a.imp fun _ _ x=>t.ptr _ _ x))
theorem PenAt.le {m m' : Mem} {p s : Addr} {xs : List Int} {i : Nat} (h : PenAt m p s xs i) (k : Kp m m') : PenAt m' p s xs i:=(iX0c (k _ _ h.1 rfl) (k _ _ h.2.1 rfl) h.2.2)
section
variable {Good : Nat -> BSt -> Int -> Int -> KP -> KP -> Prop} {cx : Cx} {X : MQ Addr} {loc : Loc} {mem : Mem} {Q : MQ AV} {b dl ol p s ml : Addr} {xs : List Int} {i : Nat}
theorem lawTurn (PL : PlainLaw Good) (hs : cx.env.scope = dScope (st 57)) (hw : cx.wr = true) (ht : cx.ts = tabsK) (rm : Rm 14 cx.A) (lt : loc.lookup (Mine.S "turn") = some (.int (i : Int))) (lp : loc.lookup (Mine.S "pen") = some (.ref p)) (lb : loc.lookup (Mine.S "base") = some (.ref b)) (lo : loc.lookup (Mine.S "owns") = some (.ref ol))
  (ld : loc.lookup (Mine.S "deads") = some (.ref dl)) (lm : loc.lookup (Mine.S "made") = some (.ref ml)) (hi : i < 18) (I : LInv Good mem b dl ol p s ml xs i) (Qn : LQ) (hQ : ∀ a1 a2 m',LInv Good m' b dl ol p s ml xs (i + 1) -> Qn ((Mine.S "is_right",a1) :: (Mine.S "x",a2) :: loc) m') :
  SV cx (forBody ((dBody (st 57)).drop 6)) loc mem Qn Q X:=by
 obtain ⟨zz532,pen,made,pm,sm,hxl⟩:=I;refine eX4a zz532 fun S z0 z1 K0 zy15=>?_;refine eX1b zy15 fun K1 zz533 hG=>?_;refine eX4a zz533 fun o0 o1 E0 E1 L=>?_
 have hpO : p ∈ [p,s,ml]:=.head _
 have hsO : s ∈ [p,s,ml]:=.tail _ (.head _)
 have hmO : ml ∈ [p,s,ml]:=.tail _ (.tail _ (.head _))
 refine SV.cons ?_
 refine S1.assign (hwr:=hw) hs ?_
 refine EV.callF hs nF377 ?_
 refine EVs.cons (EV.name lp ?_)
 refine EVs.nil ?_
 refine fnNext _ _ _ _ _ (rm.le (by decide)) (iX4e p s xs (i + 1) rfl pen (by lia) (by lia) ?_)
 have L1:=L.updOut (ys:=[.ref s,.int (((i + 1 : Nat) : Int) + 1)]) hpO pen.1
 have pen1 : PenAt (mset mem p (.list [.ref s,.int (((i + 1 : Nat) : Int) + 1)])) p s xs (i + 1 + 1):=(iX0c ((mset_same ..).trans (by push_cast;rfl)) ((mset_ne (Ne.symm pen.2.2)).trans pen.2.1) pen.2.2)
 have made1 : PtrsAt (mset mem p (.list [.ref s,.int (((i + 1 : Nat) : Int) + 1)])) ml ((List.range i).map mkp):=made.updOther pen.1 (Ne.symm pm)
 have hx0:=drawn_nonneg xs (i + 1)
 generalize drawn xs (i + 1) = x at hx0
 generalize mset mem p (.list [.ref s,.int (((i + 1 : Nat) : Int) + 1)]) = m1 at L1 pen1 made1
 as_aux_lemma =>
 refine SV.cons ?_
 refine S1.expr ?_ _ hs
 refine eX1b (id made1) fun rs er hall=>?_
 refine EV.meth (EV.name ((lookup_cons_ne (by decide)).trans lm) ?_)
 refine MethV.append er ?_
 refine EVs.cons ?_
 refine EV.callF hs nF382 ?_
 refine EVs.cons (EV.name ((lookup_cons_ne (by decide)).trans lt) ?_)
 refine EVs.s rfl ?_
 have hnum : (i : Int) = (mkp i).num:=by
  show (i : Int) = ((i % 18 : Nat) : Int);lia
 have hcall : ∀ {Q' : MQ AV},(∀ r m',MLe m1 m' -> Ptr m' r (mkp i) -> Q' (.ref r) m') -> CallV cx (.ref 382) [.int (i : Int),.int 1] m1 Q' X:=fun {Q'} h=>by
  have h2 : (1 : Int) = (mkp i).birth:=rfl
  rw [hnum,h2]
  exact fnPoint _ _ _ _ _ (rm.le (by decide)) (iX1b (mkp i) rfl h)
 refine hcall fun r m2 M2 hr=>?_
 refine EVs.nil ?_
 have hlr : rs.length = i:=by have:=hall.len;simpa using this
 refine CallV.append (M2 _ _ er) (by rw [List.length_map];lia) ?_
 have L2:=(L1.le M2).updOut (ys:=rs.map .ref ++ [.ref r]) hmO (M2 _ _ er)
 have pen2 : PenAt (mset m2 ml (.list (rs.map .ref ++ [.ref r]))) p s xs (i + 1 + 1):=(iX0c ((mset_ne pm).trans (M2 _ _ pen1.1)) ((mset_ne sm).trans (M2 _ _ pen1.2.1)) pen1.2.2)
 have made2 : PtrsAt (mset m2 ml (.list (rs.map .ref ++ [.ref r]))) ml ((List.range (i + 1)).map mkp):=by
  refine (iX1b (rs ++ [r]) ((mset_same ..).trans (by rw [List.map_append];rfl)) ?_)
  rw [List.range_succ,List.map_append]
  exact (hall.imp fun _ _ x=>(x.le M2).updList (M2 _ _ er)).snoc (hr.updList (M2 _ _ er))
 generalize mset m2 ml (.list (rs.map .ref ++ [.ref r])) = m3 at L2 pen2 made2
 as_aux_lemma =>
 clear hall er made1 pen1 L1 made pen L hcall
 have after : ∀ m4 S' z1' K0' K1',Good (i + 1) S' z0 z1' K0' K1' -> LSt m4 b dl ol [p,s,ml] S' z0 z1' K0' K1' -> LTo [p,s,ml] m3 m4 ->
   SV cx ((forBody ((dBody (st 57)).drop 6)).drop 3) ((Mine.S "is_right",.bool true) :: (Mine.S "x",.int x) :: loc) m4 Qn Q X:=fun m4 S' z1' K0' K1' hG' hL' hT=>by
  refine eX4a hL' fun o0' o1' E0' E1' L4=>?_
  have pen4:=hT.penAt hpO hsO pen2
  have made4:=hT.ptrsAt hmO made2
  have is0:=PL.is0 hG'
  have is1:=PL.is1 hG'
  rw [<- L4.k0] at is0
  rw [<- L4.k1] at is1
  refine SV.cons (S1.ite (BV.or (BVor.cons (BV.not (BV.plain (EV.name rfl (Tr.bool ?_)))))))
  refine ifF (by decide) ?_
  refine BVor.cons (BV.not (BV.plain ?_))
  refine EV.callF hs nF406 ?_
  refine EVs.cons (EV.name ((lookup_cons_ne (by decide)).trans ((lookup_cons_ne (by decide)).trans lb)) ?_)
  refine EVs.cons (EV.sub (EV.name ((lookup_cons_ne (by decide)).trans ((lookup_cons_ne (by decide)).trans ld)) (EV.cInt ?_)))
  refine SubV.list (v:=.int z0) L4.hdl (by decide) (by decide) rfl ?_
  refine EVs.cons (EV.sub (EV.name ((lookup_cons_ne (by decide)).trans ((lookup_cons_ne (by decide)).trans lo)) (EV.cInt ?_)))
  refine SubV.list (v:=.ref o0') L4.hol (by decide) (by decide) rfl ?_
  refine EVs.nil ?_
  refine fnIs _ _ _ _ _ (rm.le (by decide)) (iX4a b z0 o0' E0' (iX1e S' rfl L4.w0 L4.B is0.is (fun m5 B5 K5=>?_)))
  have L5:=L4.kp B5 K5
  have pen5:=pen4.le K5
  have made5:=made4.keep K5
  refine Tr.bool ?_
  refine ifF (by decide) ?_
  refine BVor.cons (BV.not (BV.plain ?_))
  refine EV.callF hs nF406 ?_
  refine EVs.cons (EV.name ((lookup_cons_ne (by decide)).trans ((lookup_cons_ne (by decide)).trans lb)) ?_)
  refine EVs.cons (EV.sub (EV.name ((lookup_cons_ne (by decide)).trans ((lookup_cons_ne (by decide)).trans ld)) (EV.cInt ?_)))
  refine SubV.list (v:=.int z1') L5.hdl (by decide) (by decide) rfl ?_
  refine EVs.cons (EV.sub (EV.name ((lookup_cons_ne (by decide)).trans ((lookup_cons_ne (by decide)).trans lo)) (EV.cInt ?_)))
  refine SubV.list (v:=.ref o1') L5.hol (by decide) (by decide) rfl ?_
  refine EVs.nil ?_
  refine fnIs _ _ _ _ _ (rm.le (by decide)) (iX4a b z1' o1' E1' (iX1e S' rfl L5.w1 L5.B is1.is (fun m6 B6 K6=>?_)))
  have L6:=L5.kp B6 K6
  have pen6:=pen5.le K6
  have made6:=made5.keep K6
  refine Tr.bool ?_
  refine ifF (by decide) ?_
  refine BVor.nil ?_
  refine ifF (by decide) ?_
  refine SV.nil ?_
  have hn:=PL.notes hG'
  have hl0:=L6.w0.len
  have hl1:=L6.w1.len
  refine SV.cons (S1.ite (BV.cmp ?_))
  refine EV.lenNotes hs L6.B ((lookup_cons_ne (by decide)).trans ((lookup_cons_ne (by decide)).trans lb)) ?_
  refine EV.bin ?_
  refine EV.callB hs nB_len ?_
  refine EVs.cons (EV.sub (EV.name ((lookup_cons_ne (by decide)).trans ((lookup_cons_ne (by decide)).trans lo)) (EV.cInt ?_)))
  refine SubV.list (v:=.ref o0') L6.hol (by decide) (by decide) rfl ?_
  refine EVs.nil ?_
  refine CallV.dictLen (dkI false) (ep:=none) L6.w0.d (by unfold ownEs;rw [List.length_map];lia) ?_
  refine EV.callB hs nB_len ?_
  refine EVs.cons (EV.sub (EV.name ((lookup_cons_ne (by decide)).trans ((lookup_cons_ne (by decide)).trans lo)) (EV.cInt ?_)))
  refine SubV.list (v:=.ref o1') L6.hol (by decide) (by decide) rfl ?_
  refine EVs.nil ?_
  refine CallV.dictLen (dkI false) (ep:=none) L6.w1.d (by unfold ownEs;rw [List.length_map];lia) ?_
  refine Op2.add (Op2.ne (Tr.bool ?_))
  have hlen : ((S'.notes.length : Int) != ((ownEs E0').length : Int) + ((ownEs E1').length : Int)) = false:=by
   rw [hn,<- L4.k0,<- L4.k1]
   unfold kps ownEs
   simp
  rw [hlen];refine ifF (by decide) ?_
  refine SV.nil ?_
  refine SV.nil (hQ _ _ _ ⟨(iX4a S' z0 z1' K0' (iX1b K1' (iX4a o0' o1' E0' E1' L6) hG')),pen6,made6,pm,sm,hxl⟩)
 refine SV.cons ?_
 refine S1.assign (hwr:=hw) hs ?_
 refine EV.ite (BV.cmp (EV.binS rfl rfl (Op2.mod (by decide) ?_)))
 refine EV.cInt (Op2.eq (Tr.bool ?_))
 by_cases hx : x.fmod 11 = 10
 ·refine ifT (by simpa using hx) ?_
  refine EV.callF hs nF435 ?_
  refine EVs.cons (EV.name ((lookup_cons_ne (by decide)).trans lb) ?_)
  refine EVs.cons (EV.name ((lookup_cons_ne (by decide)).trans ld) ?_)
  refine EVs.cons (EV.name ((lookup_cons_ne (by decide)).trans lo) ?_)
  refine EVs.nil ?_
  exact fnMerged _ _ _ _ _ (rm.le (by decide)) (iX4a b dl ol ([p,s,ml]) (iX4a S z0 z1 K0 (iX2f K1 _ rfl (iX4a o0 o1 E0 E1 L2) (PL.len0 hG) (PL.flat1 hG) (PL.merge hG hi) (fun m' S' z' K0' K1' h1 h2 h3=>after m' S' z' K0' K1' h1 h2 h3))))
 ·refine ifF (by simpa using hx) ?_
  refine EV.callF hs nF430 ?_
  refine EVs.cons (EV.name ((lookup_cons_ne (by decide)).trans lb) ?_)
  refine EVs.cons (EV.name ((lookup_cons_ne (by decide)).trans ld) ?_)
  refine EVs.cons (EV.name ((lookup_cons_ne (by decide)).trans lo) ?_)
  refine EVs.cons (EV.binS rfl rfl (Op2.fdiv (by decide) ?_ (PyProof.noPylong_small (by decide))))
  refine EVs.cons (EV.name ((lookup_cons_ne (by decide)).trans lt) ?_)
  refine EVs.nil ?_
  have hx1 : 0 <= x.fdiv 11:=Int.fdiv_nonneg hx0 (by decide)
  have hl0 : ∀ e ∈ E0,e.ps.length <= 500:=fun e he=>by
   have:=PL.len0 hG (e.k,e.ps) (by rw [<- L2.k0];exact List.mem_map.mpr (iX1b e he rfl))
   exact Nat.le_trans this (by decide)
  have hl1 : ∀ e ∈ E1,e.ps.length <= 500:=fun e he=>by
   have:=PL.len1 hG (e.k,e.ps) (by rw [<- L2.k1];exact List.mem_map.mpr (iX1b e he rfl))
   exact Nat.le_trans this (by decide)
  have hwh0 : 0 <= whichOf (x.fdiv 11):=Int.fmod_nonneg_of_pos _ (by decide)
  have hwh2 : whichOf (x.fdiv 11) < 2:=Int.fmod_lt_of_pos _ (by decide)
  rcases (by lia : whichOf (x.fdiv 11) = 0 \/ whichOf (x.fdiv 11) = 1) with hwh | hwh
  ·have st0:=PL.step0 hG hi (x.fdiv 11) hx1 ⟨i,hi⟩
   rw [<- L2.k0] at st0
   exact FnT.call fnStep ht (rm.le (by decide)) ⟨b,dl,ol,x.fdiv 11,⟨i,hi⟩,z0,o0,E0,S,_,_,_,rfl,L2.hdl,by rw [hwh];rfl,L2.hol,by rw [hwh];rfl,L2.w0,L2.B,hl0,st0,fun m' S' K' hP B' t=>by
    refine eX0b (L2.own0 B' t) fun h1 h2=>?_
    exact after m' S' z1 K' K1 hP h1 h2⟩
  ·have st1:=PL.step1 hG hi (x.fdiv 11) hx1 ⟨i,hi⟩
   rw [<- L2.k1] at st1
   exact FnT.call fnStep ht (rm.le (by decide)) ⟨b,dl,ol,x.fdiv 11,⟨i,hi⟩,z1,o1,E1,S,_,_,_,rfl,L2.hdl,by rw [hwh];rfl,L2.hol,by rw [hwh];rfl,L2.w1,L2.B,hl1,st1,fun m' S' K' hP B' t=>by
    refine eX0b (L2.own1 B' t) fun h1 h2=>?_
    exact after m' S' z1 K0 K' hP h1 h2⟩
end
theorem rng18a : ∀ n : Fin 19,Builtin.Range.small 0 (n.val : Int) 1 = true /\ (Builtin.Range.rangeSize 0 (n.val : Int) 1).toNat = n.val:=by decide +kernel
theorem rng18 (n : Fin 19) : Builtin.Range.small 0 (n.val : Int) 1 = true /\ rngVals 0 (Builtin.Range.rangeSize 0 (n.val : Int) 1).toNat 1 = (List.range' 0 n.val).map fun (j : Nat)=>AV.int (j : Int) :=
 ⟨(rng18a n).1,by rw [(rng18a n).2,rngVals_eq,List.range_eq_range'];exact List.map_congr_left fun j _=>by rw [Int.mul_one,Int.zero_add]⟩
theorem allTwo_mem {st : Array Int × SetTable} : ∀ {as bs : List Int} {a b : Int},allTwo as bs st = true -> a ∈ as -> b ∈ bs -> okH (insH (insH (insH st a) b) 0) = true
 | x :: r,bs,a,b,h,ha,hb=>by
  unfold allTwo at h
  rw [Bool.and_eq_true] at h
  rcases List.mem_cons.mp ha with rfl | ha
  ·exact List.all_eq_true.mp h.1 b hb
  ·exact allTwo_mem h.2 ha hb
theorem digits {k : Int} (h0 : 0 <= k) (h1 : k < 10) : k ∈ ([0,1,2,3,4,5,6,7,8,9] : List Int):=by
 simp only [List.mem_cons,List.not_mem_nil,or_false];lia
theorem keysOkTwo {a b : Int} (a0 : 0 <= a) (a1 : a < 10) (b0 : 0 <= b) (b1 : b < 10) : KeysOk [a,b,0] :=
 ⟨fun k hk=>by simp only [List.mem_cons,List.not_mem_nil,or_false] at hk;lia,by simp,fun led=>by
  rw [List.foldl_cons,List.foldl_cons,List.foldl_cons,List.foldl_nil];exact allTwo_mem (two_ok led) (digits a0 a1) (digits b0 b1)⟩
theorem keysOk30 : KeysOk [3,0] :=
 ⟨fun k hk=>by simp only [List.mem_cons,List.not_mem_nil,or_false] at hk;lia,by simp,fun led=>by
  rw [List.foldl_cons,List.foldl_cons,List.foldl_nil];exact ok30 led⟩
section
variable {Good : Nat -> BSt -> Int -> Int -> KP -> KP -> Prop} {cx : Cx} {X : MQ Addr} {mem : Mem} {Q : MQ AV} {b dl ol p s ml sc : Addr} {xs : List Int}
theorem lawEnd (PL : PlainLaw Good) (hs : cx.env.scope = dScope (st 57)) (hw : cx.wr = true) (rm : Rm 14 cx.A) {loc : Loc} {n : Nat} (hn : n <= 18) (lb : loc.lookup (Mine.S "base") = some (.ref b)) (lo : loc.lookup (Mine.S "owns") = some (.ref ol))
  (ld : loc.lookup (Mine.S "deads") = some (.ref dl)) (lm : loc.lookup (Mine.S "made") = some (.ref ml)) (I : LInv Good mem b dl ol p s ml xs n) (Qn : LQ) (hQ : ∀ m',Q (.bool true) m') :
  SV cx ((dBody (st 57)).drop 7) loc mem Qn Q X:=by
 obtain ⟨zz534,pen,made,pm,sm,hxl⟩:=I;refine eX4a zz534 fun S z0 z1 K0 zy16=>?_;refine eX1b zy16 fun K1 zz535 hG=>?_;refine eX4a zz535 fun o0 o1 E0 E1 L=>?_
 refine eX1b (id made) fun rs er hall=>?_
 have hlr : rs.length = n:=by have:=hall.len;simpa using this
 refine eX0b (rng18 ⟨n,by lia⟩) fun hr1 hr2=>?_
 refine SV.cons ?_
 refine S1.assign (hwr:=hw) hs ?_
 refine EV.callB hs nB_sum ?_
 refine EVs.cons ?_
 refine EV.comp [] hs ?_ (Loc.le_nil _)
 refine EV.callB hs nB_range ?_
 refine EVs.cons ?_
 refine EV.callB hs nB_len ?_
 refine EVs.cons (EV.name lm ?_)
 refine EVs.nil ?_
 refine CallV.listLen er (by rw [List.length_map];lia) ?_
 rw [List.length_map,hlr]
 refine EVs.nil (CallV.range1 fun q hq=>?_)
 have M1:=MLe.new (o:=.range 0 (n : Int) 1) hq
 refine (iX1b ((List.range' 0 n).map fun (j : Nat)=>AV.int (j : Int)) (by rw [List.length_map,List.length_range'];lia) (ItV.range (mset_same ..) hr1 hr2 (CompP.same (fun _=>true) (fun v=>.int ((1 + (avInt v).fmod 3) * (1 + (avInt v).fmod 2))) rfl rfl _ _ (fun v _ cx' _ _=>TestsV.nil (iX0b rfl rfl)) (fun v hv _ cx' hs' hA=>?_) fun D hD=>?_)))
 ·refine eX1b (List.mem_map.mp hv) fun j _ ee536=>?_;subst ee536
  refine EV.bin (EV.bin (EV.cInt (EV.binS rfl rfl (Op2.mod (by decide) (Op2.add ?_)))))
  refine EV.bin (EV.cInt (EV.binS rfl rfl (Op2.mod (by decide) (Op2.add ?_))))
  have h0 : 0 <= (j : Int).fmod 3:=Int.fmod_nonneg_of_pos _ (by decide)
  have h3 : (j : Int).fmod 3 < 3:=Int.fmod_lt_of_pos _ (by decide)
  refine Op2.mul (iX0b rfl rfl) (hm:=IntMulOk.of_left (PySem.intBits_le_64 (by lia) (by lia)))
 have M2:=M1.trans (MLe.new (o:=.list ([] ++ (((List.range' 0 n).map fun (j : Nat)=>AV.int (j : Int)).filter fun _=>true).map fun v=>AV.int ((1 + (avInt v).fmod 3) * (1 + (avInt v).fmod 2)))) hD)
 refine EVs.nil (CallV.sum (ns:=(List.range' 0 n).map fun (j : Nat)=>(1 + (j : Int).fmod 3) * (1 + (j : Int).fmod 2)) ((mset_same ..).trans ?_) ?_)
 ·rw [List.nil_append,List.filter_eq_self.mpr (fun _ _=>rfl),List.map_map,List.map_map];rfl
 have L2:=L.le M2
 have made2:=made.keep (Kp.of_le M2)
 generalize mset (mset mem q (.range 0 (n : Int) 1)) D _ = m2 at M2 L2 made2 ⊢
 as_aux_lemma =>
 refine SV.cons ?_
 refine S1.expr ?_ _ hs
 refine EV.callF hs nF253 ?_
 refine EVs.cons (EV.name ((lookup_cons_ne (by decide)).trans lb) ?_)
 refine EVs.cons (EV.sub (EV.name ((lookup_cons_ne (by decide)).trans ld) (EV.cInt ?_)))
 refine SubV.list (v:=.int z0) L2.hdl (by decide) (by decide) rfl ?_
 refine EVs.nil ?_
 refine fnDropDead _ _ _ _ _ (rm.le (by decide)) (iX2b b z0 rfl (Tw.go L2.B (PL.fin hG) (fun _ S3 a3 m3 q3 B3 K3 e3=>?_) fun C S9 m9 q9 B9 K9=>q9.elim))
 have L3:=L2.kp B3 K3
 have made3:=made2.keep K3
 refine SV.cons (S1.ret ?_)
 refine EV.and2 ?_
 refine EV.cmp ?_
 refine EV.callF hs nF184 ?_
 refine EVs.cons (EV.name ((lookup_cons_ne (by decide)).trans lm) ?_)
 refine EVs.nil ?_
 refine fnSpace _ _ _ _ _ (rm.le (by decide)) (iX2d ml _ rfl made3 (by rw [List.length_map,List.length_range];lia) ?_)
 refine EV.name rfl (Op2.eq (Tr.bool ?_))
 rw [dueSum n hn,beq_self_eq_true];refine ifT rfl ?_
 refine EV.and2 (EV.not ?_)
 refine EV.meth (EV.name ((lookup_cons_ne (by decide)).trans lb) (L3.B.meth mokIsThere ?_))
 refine EVs.cons (EV.sub (EV.name ((lookup_cons_ne (by decide)).trans ld) (EV.cInt ?_)))
 refine SubV.list (v:=.int z0) L3.hdl (by decide) (by decide) rfl ?_
 refine EVs.nil ?_
 refine fnIsThere _ _ _ _ _ (rm.le (by decide)) (iX2b b z0 rfl (Tw.go L3.B q3 (fun r4 S4 a4 m4 q4 B4 K4 e4=>?_) fun C S9 m9 q9 B9 K9=>q9.elim))
 subst e4
 refine eX0b q4 ?_;clear q4;intro ee537 hnl;subst ee537
 have L4:=L3.kp B4 K4
 refine Tr.bool (Tr.bool ?_)
 rw [Bool.not_false];refine ifT rfl ?_
 refine EV.and1 (EV.cmp ?_)
 refine EV.lenNotes hs L4.B ((lookup_cons_ne (by decide)).trans lb) ?_
 refine EV.callB hs nB_len ?_
 refine EVs.cons (EV.sub (EV.name ((lookup_cons_ne (by decide)).trans lo) (EV.cInt ?_)))
 refine SubV.list (v:=.ref o1) L4.hol (by decide) (by decide) rfl ?_
 refine EVs.nil ?_
 have hl1:=L4.w1.len
 refine CallV.dictLen (dkI false) (ep:=none) L4.w1.d (by unfold ownEs;rw [List.length_map];lia) ?_
 refine Op2.eq ?_
 have : ((S4.notes.length : Int) == ((ownEs E1).length : Int)) = true:=by
  rw [hnl,<- L4.k1];unfold kps ownEs;simp
 rw [this]
 exact hQ _
end
noncomputable def forTarget : List Stmt -> Expr
 | .For t _ _ _ _ :: _=>t
 | _=>.Constant .none 0 ⟨0,0,0,0⟩
theorem EV.sliceK {cx : Cx} {X : MQ Addr} {loc : Loc} {mem : Mem} {Q : MQ AV} {value hi : Expr} {p pos : Pos} {l : Addr} {its : Array Value} (hl : cx.hb.IsList l its) (hn : its.size <= 1000000)
  (h : EV cx value loc mem (fun o m=>EV cx hi loc m (fun b m=>∃ j : Nat,o = .ref l /\ b = .int j /\ ∀ q,m q = none -> Q (.ref q) (mset m q (.list ((its.toList.map er).take j)))) X) X)
  (ht : ∀ o r,letTemporaryGo value o r = pure ():=by intro _ _;rfl) : EV cx (.Subscript value (.Slice none (some hi) none p) pos) loc mem Q X:=fun s I =>
 wpAny_Subscript_Slice list_getitem_lookup (TV.go h I fun o s₁ m1 I1 h1=>wpAny_Slice (by
  rw [evalPart_none]
  refine wpAny_pure ?_
  rw [evalPart_some]
  refine wpAny_mono (h1 s₁ I1) (fun b s₃ z=>eX1b z fun m3 I3 z=>eX1c z fun j e1 e3 hq=>?_) fun _ _ x=>x
  refine wpAny_pure ?_
  cases er_ref e1
  refine eX1a (er_int e3) fun v ee538=>?_;subst ee538
  refine eX1b hl fun ob ho hr=>?_
  have ho : s₃.heap.get? l = some ob:=I3.st.kept _ _ (I3.ok.base _ _ ho) fun q=>by
   have:=I3.ok.baseF l q
   rw [ho] at this;cases this
  have hl : s₃.heap.IsList l its:=(iX1b _ ho hr)
  refine (iX0b (Heap.IsList.typeIs (s:={ s₃ with heap:=s₃.heap.push _ }) (hl.push _)) ?_)
  refine wpAny_getItem_list_slice (hl.push _) (Heap.IsSliceOf.new ..) .none (.int _ _) .none (by simp) ?_ (by rw [sizeLine_eq];lia)
  have I4 : InSt cx loc m3 { s₃ with heap:=s₃.heap.push { cls:=.type "slice",data:=.fields #[.none,.int (j : Int) v,.none] } }:=I3.grow (t:=s₃.toks) fun b o e=>Heap.get?_push_of_some _ e
  have I5:=I4.push (o:=listOf (slicePick its none (some (j : Int)) none) 0) (t:=s₃.toks) (ao:=.list ((its.toList.map er).take j)) (iX2b _ 0 rfl (by rw [slicePick_upto'];simp [List.map_take]))
  exact (iX1b _ I5 (hq _ I4.fresh.1)))) ht
theorem lawBody {Good : Nat -> BSt -> Int -> Int -> KP -> KP -> Prop} (PL : PlainLaw Good) {cx : Cx} {X : MQ Addr} {mem : Mem} {Q : MQ AV} {sl : Addr} {its : Array Value} {xs : List Int} (ht : cx.ts = tabsK) (hs : cx.env.scope = dScope (st 57)) (hw : cx.wr = true) (rm : Rm 15 cx.A)
  (hsl : cx.hb.IsList sl its) (hits : its.toList.map er = xs.map .int) (hlen : xs.length <= 63) (hQ : ∀ m',Q (.bool true) m') : SV cx (dBody (st 57)) [(Mine.S "script",.ref sl)] mem (fun _ m=>Q .none m) Q X:=by
  have hsz : its.size = xs.length:=by have:=congrArg List.length hits;simpa using this
  refine SV.cons ?_
  refine S1.assign (hwr:=hw) hs ?_
  refine EV.sliceK hsl (by lia) (EV.name rfl (EV.cInt (iX1c 63 rfl rfl (fun q0 hq0=>?_))))
  rw [hits]
  rw [List.take_of_length_le (by rw [List.length_map];lia)]
  have e0 : mset mem q0 (.list (xs.map .int)) q0 = some (.list (xs.map .int)):=mset_same ..
  generalize mset mem q0 (.list (xs.map .int)) = m0 at e0
  as_aux_lemma =>
  refine SV.cons ?_
  refine S1.assign (hwr:=hw) hs ?_
  refine EV.list ?_
  refine EVs.cons ?_
  refine EV.callB hs nB_list ?_
  refine EVs.s rfl (CallV.listOf e0 (by rw [List.length_map];lia) fun s hsn=>?_)
  refine EVs.s rfl (iX0b (nle rfl) (fun p hpn=>?_))
  have hps : p ≠ s:=fun q=>by rw [q,mset_same] at hpn;cases hpn
  have pen : PenAt (mset (mset m0 s (.list (xs.map .int))) p (.list [.ref s,.int 0])) p s xs 0:=(iX0c (mset_same ..) ((mset_ne (Ne.symm hps)).trans (mset_same ..)) hps)
  have e1 : mset (mset m0 s (.list (xs.map .int))) p (.list [.ref s,.int 0]) q0 = some (.list (xs.map .int)):=(MLe.new hpn) _ _ ((MLe.new hsn) _ _ e0)
  have hq0p : q0 ≠ p:=fun q=>by rw [<- q,(MLe.new hsn) _ _ e0] at hpn;cases hpn
  generalize mset (mset m0 s (.list (xs.map .int))) p (.list [.ref s,.int 0]) = m1 at pen e1
  as_aux_lemma =>
  refine SV.cons ?_
  refine S1.assign (hwr:=hw) hs ?_
  refine EV.callF hs nF377 ?_
  refine EVs.s rfl ?_
  refine fnNext _ _ _ _ _ (rm.le (by decide)) (iX4e p s xs 0 rfl pen (by lia) (by lia) ?_)
  have pen2 : PenAt (mset m1 p (.list [.ref s,.int (((0 : Nat) : Int) + 1)])) p s xs 1:=(iX0c (mset_same ..) ((mset_ne (Ne.symm hps)).trans pen.2.1) hps)
  have e2 : mset m1 p (.list [.ref s,.int (((0 : Nat) : Int) + 1)]) q0 = some (.list (xs.map .int)):=(mset_ne hq0p).trans e1
  have hx0:=drawn_nonneg xs 0
  generalize drawn xs 0 = x at hx0
  generalize mset m1 p (.list [.ref s,.int (((0 : Nat) : Int) + 1)]) = m2 at pen2 e2
  as_aux_lemma =>
  have a0 : 0 <= x.fmod 10:=Int.fmod_nonneg_of_pos _ (by decide)
  have a1 : x.fmod 10 < 10:=Int.fmod_lt_of_pos _ (by decide)
  have c0 : 0 <= (x.fdiv 10).fmod 10:=Int.fmod_nonneg_of_pos _ (by decide)
  have c1 : (x.fdiv 10).fmod 10 < 10:=Int.fmod_lt_of_pos _ (by decide)
  refine SV.cons ?_
  refine S1.swap ["base","owns"] hs ?_
  refine EV.tuple ?_
  refine EVs.cons ?_
  refine EV.callF hs nF366 ?_
  refine EVs.nil ?_
  refine CallV.base (rm.le (by decide)) fun b m3 B3 K3=>?_
  have pen3:=pen2.le K3
  have e3:=K3 _ _ e2 rfl
  refine EVs.cons ?_
  refine EV.list ?_
  refine EVs.cons ?_
  refine EV.callB hs nB_dict ?_
  refine EVs.cons ?_
  refine EV.comp [] hs ?_ (Loc.le_nil _)
  refine EV.tuple ?_
  refine EVs.consS rfl ?_
  refine EVs.cons (EV.binS rfl rfl (Op2.mod (by decide) ?_))
  refine EVs.cons (EV.bin (EV.binS rfl rfl (Op2.fdiv (by decide) ?_ (PyProof.noPylong_small (by decide)))))
  refine EV.cInt (Op2.mod (by decide) ?_)
  refine EVs.nil (iX0b (nle rfl) (fun t htn=>?_))
  have M4:=MLe.new (o:=.tuple [.int 0,.int (x.fmod 10),.int ((x.fdiv 10).fmod 10)]) htn
  have et : mset m3 t (.tuple [.int 0,.int (x.fmod 10),.int ((x.fdiv 10).fmod 10)]) t = some (.tuple [.int 0,.int (x.fmod 10),.int ((x.fdiv 10).fmod 10)]):=mset_same ..
  generalize mset m3 t (.tuple [.int 0,.int (x.fmod 10),.int ((x.fdiv 10).fmod 10)]) = m4 at M4 et ⊢
  as_aux_lemma =>
  refine (iX1b ([.int 0,.int (x.fmod 10),.int ((x.fdiv 10).fmod 10)]) (nle rfl) (ItV.tup et ?_))
  refine CompP.pairsNil (fun _=>true) rfl rfl (by decide) (by decide) (fun v hv=>?_) (fun d hd=>by cases hd;rw [et];nofun) (fun v hv m hM cx' hs' hA=>TestsV.nil (iX0b rfl rfl)) fun rs ls m5 M5 hnd hll hls hp D hD=>?_
  ·simp only [List.mem_cons,List.not_mem_nil,or_false] at hv
   rcases hv with rfl | rfl | rfl <;> exact (iX1a _ rfl)
  rw [List.filter_eq_self.mpr (fun _ _=>rfl)] at hll hp
  have hks : ([.int 0,.int (x.fmod 10),.int ((x.fdiv 10).fmod 10)] : List AV) = ([0,x.fmod 10,(x.fdiv 10).fmod 10] : List Int).map .int:=rfl
  rw [hks] at hll hp
  generalize hk3 : ([0,x.fmod 10,(x.fdiv 10).fmod 10] : List Int) = k3 at *
  as_aux_lemma =>
  have hk3r : ∀ k ∈ k3,0 <= k /\ k < 10:=fun k hk=>by
   rw [<- hk3] at hk
   simp only [List.mem_cons,List.not_mem_nil,or_false] at hk
   lia
  have hk3l : k3.length = 3:=by rw [<- hk3];rfl
  have MD:=MLe.new (o:=.list (rs.map .ref)) hD
  refine EVs.nil ?_
  refine CallV.dictPairs false (rm.le (by decide)) (mset_same ..) (hp.le MD) (by unfold nilPairs;rw [List.length_map,List.length_zip,List.length_map];lia) fun o0 ho0n=>?_
  have Mq:=MLe.new (o:=.dictI false none ((nilPairs (k3.map .int) ls).foldl (fun es p=>sput es p.1 p.2) [])) ho0n
  have hls2 : ∀ l ∈ ls,mset (mset m5 D (.list (rs.map .ref))) o0 (.dictI false none ((nilPairs (k3.map .int) ls).foldl (fun es p=>sput es p.1 p.2) [])) l = some (.list []):=fun l hl=>Mq _ _ (MD _ _ (hls l hl).2)
  have w0:=OwnAt.ofNil (m:=mset (mset m5 D (.list (rs.map .ref))) o0 (.dictI false none ((nilPairs (k3.map .int) ls).foldl (fun es p=>sput es p.1 p.2) []))) (mset_same ..) hnd hls2 hk3r
  have hlsn : ∀ e ∈ nilE [] k3 ls,m4 e.l = none:=fun e he=>(hls _ (nilE_ls hnd e he)).1
  have hkk : kps (nilE [] k3 ls) = nilK [] k3:=nilE_kps _ _ _ (by rw [List.length_map] at hll;exact hll.symm)
  have ho04 : m4 o0 = none:=(M5.trans MD).none_of ho0n
  have M6:=(M5.trans MD).trans Mq
  generalize mset (mset m5 D (.list (rs.map .ref))) o0 (.dictI false none ((nilPairs (k3.map .int) ls).foldl (fun es p=>sput es p.1 p.2) [])) = m6 at w0 M6
  generalize nilE [] k3 ls = E0 at w0 hlsn hkk
  as_aux_lemma =>
  clear hp hD MD Mq hls2 ho0n hll hls
  refine EVs.cons ?_
  refine @EV.dict2 _ _ _ _ _ _ _ _ _ _ _ _ 0 3 (by decide) ?_
  intro o1 l1 l2 m7 M7 eo1 el1 el2 hll ho1n hl1n hl2n
  refine EVs.nil (iX0b (nle rfl) (fun ol holn=>?_))
  have M8:=MLe.new (o:=.list [.ref o0,.ref o1]) holn
  refine EVs.nil (iX0b (nle rfl) (fun t2 ht2=>(iX2d t2 _ rfl (mset_same ..) rfl ?_)))
  have M9:=MLe.new (o:=.tuple [.ref b,.ref ol]) ht2
  have M79:=(M7.trans M8).trans M9
  have M39:=(M4.trans M6).trans M79
  have eol : mset (mset m7 ol (.list [.ref o0,.ref o1])) t2 (.tuple [.ref b,.ref ol]) ol = some (.list [.ref o0,.ref o1]):=M9 _ _ (mset_same ..)
  have eo1':=(M8.trans M9) _ _ eo1
  have el1':=(M8.trans M9) _ _ el1
  have el2':=(M8.trans M9) _ _ el2
  have holm6 : m6 ol = none:=M7.none_of holn
  generalize mset (mset m7 ol (.list [.ref o0,.ref o1])) t2 (.tuple [.ref b,.ref ol]) = m9 at M79 M39 eol eo1' el1' el2'
  as_aux_lemma =>
  have B9:=B3.le M39
  have pen9:=pen3.le (Kp.of_le M39)
  have w09:=w0.keep (Kp.of_le M79)
  have e9:=M39 _ _ e3
  refine SV.cons ?_
  refine S1.assign (hwr:=hw) hs ?_
  refine EV.list ?_
  refine EVs.cons ?_
  refine EV.callF hs nF191 ?_
  refine EVs.consS rfl ?_
  refine EVs.cons ?_
  refine EV.list ?_
  refine EVs.cons (EV.bin (EV.binS rfl rfl (Op2.fdiv (by decide) ?_ (PyProof.noPylong_small (by decide)))))
  refine EV.cInt (Op2.mod (by decide) ?_)
  refine EVs.cons (EV.binS rfl rfl (Op2.mod (by decide) ?_))
  refine EVs.s rfl (iX0b (nle rfl) (fun L1 hL1=>?_))
  have M10:=MLe.new (o:=.list [.int ((x.fdiv 10).fmod 10),.int (x.fmod 10),.int 0]) hL1
  refine EVs.nil ?_
  refine fnNewDead _ _ _ _ _ (rm.le (by decide)) (iX3d b L1 ([(x.fdiv 10).fmod 10,x.fmod 10,0]) rfl (mset_same ..) (keysOkTwo c0 c1 a0 a1) (Tw.go (B9.le M10) (PL.init x hx0) (fun z0 S11 a11 m11 q11 B11 K11 e11=>?_) fun C S9 m9 q9 B9 K9=>q9.elim))
  subst e11
  refine EVs.cons ?_
  refine EV.callF hs nF191 ?_
  refine EVs.consS rfl ?_
  refine EVs.cons ?_
  refine EV.list ?_
  refine EVs.s rfl (iX0b (nle rfl) (fun L2 hL2=>?_))
  have M12:=MLe.new (o:=.list [.int 3,.int 0]) hL2
  refine EVs.nil ?_
  refine fnNewDead _ _ _ _ _ (rm.le (by decide)) (iX3d b L2 ([3,0]) rfl (mset_same ..) keysOk30 (Tw.go (B11.le M12) q11 (fun z1 S13 a13 m13 q13 B13 K13 e13=>?_) fun C S9 m9 q9 B9 K9=>q9.elim))
  subst e13
  have K9 : Kp m9 m13:=((Kp.of_le M10).trans K11).trans ((Kp.of_le M12).trans K13)
  refine EVs.nil (iX0b (nle rfl) (fun dl hdln=>?_))
  have M14:=MLe.new (o:=.list [.int z0,.int z1]) hdln
  have edl : mset m13 dl (.list [.int z0,.int z1]) dl = some (.list [.int z0,.int z1]):=mset_same ..
  generalize mset m13 dl (.list [.int z0,.int z1]) = m14 at M14 edl ⊢
  as_aux_lemma =>
  have K14:=K9.trans (Kp.of_le M14)
  refine SV.cons ?_
  refine S1.assign (hwr:=hw) hs ?_
  refine EV.list ?_
  refine EVs.nil (iX0b (nle rfl) (fun ml hmln=>?_))
  have M15:=MLe.new (o:=.list []) hmln
  have eml : mset m14 ml (.list []) ml = some (.list []):=mset_same ..
  have K15:=K14.trans (Kp.of_le M15)
  generalize mset m14 ml (.list []) = m15 at M15 eml K15 ⊢
  as_aux_lemma =>
  have B15 : BaseAt m15 b S13:=(B13.le M14).le M15
  have w1 : OwnAt m9 o1 [⟨0,l1,[]⟩,⟨3,l2,[]⟩]:=by
   refine ⟨eo1',fun e he=>?_,?_,fun e he=>?_,?_,fun e he=>?_⟩
   ·simp only [List.mem_cons,List.not_mem_nil,or_false] at he
    rcases he with rfl | rfl
    ·exact .list0 el1'
    ·exact .list0 el2'
   ·simp [hll]
   ·simp only [List.mem_cons,List.not_mem_nil,or_false] at he
    rcases he with rfl | rfl
    ·exact (iX0b (Int.le_refl 0) (by decide : (0 : Int) < 10))
    ·exact (iX0b (by decide : (0 : Int) <= 3) (by decide : (3 : Int) < 10))
   ·simp
   ·simp only [List.mem_cons,List.not_mem_nil,or_false] at he
    rcases he with rfl | rfl <;> simp
  have w015:=w09.keep K15
  have w115:=w1.keep K15
  have m6o0 : m6 o0 ≠ none:=by rw [w0.d];nofun
  have m6l : ∀ e ∈ E0,m6 e.l ≠ none:=fun e he=>mem_some_of_own w0 he
  have k14 : ∀ a o,m9 a = some o -> isB o = false -> a ≠ dl:=fun a o e n q=>by
   have:=K9 _ _ e n;rw [q,hdln] at this;cases this
  have early : ∀ a o,m3 a = some o -> isB o = false -> a ∉ lawF dl ol o0 o1 E0 [⟨0,l1,[]⟩,⟨3,l2,[]⟩]:=fun a o e n h=>by
   have e4:=M4 _ _ e
   have e6:=M6 _ _ e4
   have e9':=M39 _ _ e
   unfold lawF at h
   simp only [List.mem_cons,List.mem_append,List.map_cons,List.map_nil,List.not_mem_nil,or_false] at h
   rcases h with rfl | rfl | rfl | rfl | h | rfl | rfl
   ·exact k14 _ _ e9' n rfl
   ·rw [holm6] at e6;cases e6
   ·rw [ho04] at e4;cases e4
   ·rw [ho1n] at e6;cases e6
   ·refine eX1b (List.mem_map.mp h) fun y hy ee539=>?_;subst ee539
    rw [hlsn y hy] at e4;cases e4
   ·rw [hl1n] at e6;cases e6
   ·rw [hl2n] at e6;cases e6
  have late : ml ∉ lawF dl ol o0 o1 E0 [⟨0,l1,[]⟩,⟨3,l2,[]⟩]:=fun h=>by
   have bad : ∀ {a o},m9 a = some o -> isB o = false -> ml ≠ a:=fun {a o} e n q=>by
    have:=K14 _ _ e n;rw [<- q,hmln] at this;cases this
   unfold lawF at h
   simp only [List.mem_cons,List.mem_append,List.map_cons,List.map_nil,List.not_mem_nil,or_false] at h
   rcases h with h | h | h | h | h | h | h
   ·rw [h,edl] at hmln;cases hmln
   ·exact bad eol rfl h
   ·exact bad w09.d rfl h
   ·exact bad eo1' rfl h
   ·refine eX1b (List.mem_map.mp h) fun y hy hyl=>?_
    refine eX1b (w09.ps y hy) fun rs' el' _=>?_
    exact bad el' rfl hyl.symm
   ·exact bad el1' rfl h
   ·exact bad el2' rfl h
  have pen15:=pen9.le K15
  have pml : p ≠ ml:=fun q=>by have:=K14 _ _ pen9.1 rfl;rw [q,hmln] at this;cases this
  have sml : s ≠ ml:=fun q=>by have:=K14 _ _ pen9.2.1 rfl;rw [q,hmln] at this;cases this
  have hne01 : o0 ≠ o1:=fun q=>m6o0 (by rw [q];exact ho1n)
  have LP : LParts m15 b dl ol [p,s,ml] S13 z0 z1 (nilK [] k3) [(0,[]),(3,[])] o0 o1 E0 [⟨0,l1,[]⟩,⟨3,l2,[]⟩]:=by
   refine ⟨B15,M15 _ _ edl,K15 _ _ eol rfl,w015,w115,hkk,rfl,hne01,fun e he f hf q=>?_,fun a ha=>?_,fun a ha=>?_⟩
   ·simp only [List.mem_cons,List.not_mem_nil,or_false] at hf
    rcases hf with rfl | rfl
    ·exact m6l e he (by rw [q];exact hl1n)
    ·exact m6l e he (by rw [q];exact hl2n)
   ·simp only [List.mem_cons,List.not_mem_nil,or_false] at ha
    rcases ha with rfl | rfl | rfl
    ·exact early _ _ pen3.1 rfl
    ·exact early _ _ pen3.2.1 rfl
    ·exact late
   ·simp only [List.mem_cons,List.not_mem_nil,or_false] at ha
    rcases ha with rfl | rfl | rfl
    ·exact (iX1b _ pen15.1 rfl)
    ·exact (iX1b _ pen15.2.1 rfl)
    ·exact (iX1b _ eml rfl)
  have LI : LInv Good m15 b dl ol p s ml xs 0:=⟨(iX4a S13 z0 z1 (nilK [] k3) (iX1b ([(0,[]),(3,[])]) (iX4a o0 o1 _ _ LP) (hk3 ▸ q13))),pen15,.list0 eml,pml,sml,by lia⟩
  have e15:=K15 _ _ e9 rfl
  clear LP early late m6l m6o0 k14 w015 w115 w1 B15 K15 M15 K14 M14 K9 edl eml hmln hdln M12 hL2 K13 K11 M10 hL1 B13 B11 q13 q11 pen15 e9 B9 w09 pen9 holm6 el1' el2' eo1' eol M39 M79 M9 ht2 M8 holn hl1n hl2n ho1n el1 el2 eo1 M7 w0 M6 ho04 hkk hlsn et M4 htn pen3 e3 B3 K3 pen2 e2
  refine SV.cons ?_
  refine S1.for ?_
  refine EV.callB hs nB_range ?_
  refine EVs.cons ?_
  refine EV.callB hs nB_max ?_
  refine EVs.consS rfl ?_
  refine EVs.cons ?_
  refine EV.callB hs nB_min ?_
  refine EVs.consS rfl ?_
  refine EVs.cons ?_
  refine EV.callB hs nB_len ?_
  refine EVs.s rfl ?_
  refine CallV.listLen e15 (by rw [List.length_map];lia) ?_
  rw [List.length_map]
  refine EVs.nil (CallV.min2 ?_)
  refine EVs.nil (CallV.max2 ?_)
  obtain ⟨n,hn,hn18⟩ : ∃ n : Nat,(if (if (xs.length : Int) < 18 then (xs.length : Int) else 18) > 5 then (if (xs.length : Int) < 18 then (xs.length : Int) else 18) else 5) = (n : Int) /\ n <= 18:=by
   by_cases h1 : (xs.length : Int) < 18
   ·rw [if_pos h1]
    by_cases h2 : (xs.length : Int) > 5
    ·rw [if_pos h2];exact (iX1b xs.length rfl (by lia))
    ·rw [if_neg h2];exact (iX1b 5 rfl (by lia))
   ·rw [if_neg h1,if_pos (by decide)];exact (iX1b 18 rfl (by lia))
  rw [hn]
  refine EVs.nil (CallV.range1 fun q hq=>?_)
  refine eX0b (rng18 ⟨n,by lia⟩) fun hr1 hr2=>?_
  have MR:=MLe.new (o:=.range 0 (n : Int) 1) hq
  have eq' : mset m15 q (.range 0 (n : Int) 1) q = some (.range 0 (n : Int) 1):=mset_same ..
  have LI2 : LInv Good (mset m15 q (.range 0 (n : Int) 1)) b dl ol p s ml xs 0 :=
   let ⟨⟨S',z0',z1',K0,K1,⟨x0,x1,E,E',L⟩,hG⟩,h1,h2,h3,h4,h5⟩:=LI
   ⟨(iX4a S' z0' z1' K0 (iX1b K1 (iX4a x0 x1 E E' (L.le MR)) hG)),h1.le (Kp.of_le MR),h2.keep (Kp.of_le MR),h3,h4,h5⟩
  generalize mset m15 q (.range 0 (n : Int) 1) = m16 at eq' LI2
  as_aux_lemma =>
  refine (iX1a _ (ItV.range eq' hr1 hr2 ?_))
  have loop : ∀ (k i : Nat) (m : Mem) (loc : Loc),i + k = n -> Loc.le ([("made",.ref ml),("deads",.ref dl),("base",.ref b),("owns",.ref ol),("pen",.ref p)] : Loc) loc -> LInv Good m b dl ol p s ml xs i ->
    ForP cx (forTarget ((dBody (st 57)).drop 6)) (forBody ((dBody (st 57)).drop 6)) (fun l m=>SV cx ((dBody (st 57)).drop 7) l m (fun _ m=>Q .none m) Q X) Q none ((List.range' i k).map fun (j : Nat)=>AV.int (j : Int)) loc m:=by
   intro k
   induction k with
   | zero =>
    intro i m loc hik hle I
    refine SV.wloc hle ?_
    have : i = n:=by lia
    subst this
    exact lawEnd PL hs hw (rm.le (by decide)) hn18 rfl rfl rfl rfl I _ hQ
   | succ k ih =>
    intro i m loc hik hle I
    rw [List.range'_succ,List.map_cons]
    refine fun G'=>AsgV.name (sc:=dScope (st 57)) hs ?_
    refine SV.wloc (Loc.le_both hle) ?_
    refine lawTurn (cx:=cx.withG G') PL hs hw ht (rm.le (by decide)) rfl rfl rfl rfl rfl rfl (by lia) I _ fun a1 a2 m' I'=>(iX0b (fun d hd=>(by cases hd)) ?_)
    exact ih (i + 1) m' _ (by lia) (Loc.le_trans (Loc.le_skip rfl) (Loc.le_trans (Loc.le_skip rfl) (Loc.le_skip rfl))) I'
  exact loop n 0 m16 _ (by lia) (Loc.le_cons rfl (Loc.le_cons rfl (Loc.le_cons rfl (Loc.le_cons rfl (Loc.le_cons rfl (Loc.le_nil _)))))) LI2
section
variable {α β : Type} [DecidableEq α]
theorem put1_lookup (k : α) (v : β) (k' : α) : ∀ es : List (α × β),(put1 es k v).lookup k' = if k' = k then some v else es.lookup k'
 | []=>by
  unfold put1
  rw [List.lookup_cons]
  by_cases h : k' = k
  ·subst h;simp
  ·rw [if_neg h,beq_eq_false_iff_ne.mpr h]
 | (a,w) :: r=>by
  unfold put1
  by_cases q : a = k
  ·subst q
   rw [if_pos rfl,List.lookup_cons,List.lookup_cons]
   by_cases h : k' = a
   ·subst h;simp
   ·rw [if_neg h,beq_eq_false_iff_ne.mpr h]
  ·rw [if_neg q,List.lookup_cons,List.lookup_cons,put1_lookup k v k' r]
   by_cases h : k' = a
   ·subst h;simp [q]
   ·rw [beq_eq_false_iff_ne.mpr h]
theorem put1_keys (k : α) (v : β) : ∀ es : List (α × β),(put1 es k v).map (·.1) = if k ∈ es.map (·.1) then es.map (·.1) else es.map (·.1) ++ [k]
 | []=>by simp [put1]
 | (a,w) :: r=>by
  unfold put1
  by_cases q : a = k
  ·subst q;simp
  ·have q' : ¬ k = a:=fun h=>q h.symm
   rw [if_neg q,List.map_cons,put1_keys k v r]
   by_cases h : k ∈ r.map (·.1)
   ·rw [if_pos h,if_pos (by rw [List.map_cons];exact .tail _ h)];rfl
   ·rw [if_neg h,if_neg (by rw [List.map_cons,List.mem_cons,not_or];exact (iX0b q' h))];rfl
theorem put1_length (k : α) (v : β) (es : List (α × β)) : (put1 es k v).length = if k ∈ es.map (·.1) then es.length else es.length + 1:=by
 have:=congrArg List.length (put1_keys k v es)
 rw [List.length_map] at this
 rw [this]
 split <;> simp
theorem put1_nodup (k : α) (v : β) {es : List (α × β)} (h : (es.map (·.1)).Nodup) : ((put1 es k v).map (·.1)).Nodup:=by
 rw [put1_keys]
 split
 ·exact h
 ·rename_i q
  exact List.nodup_append.mpr (iX0c h (by simp) (fun a ha b hb e=>q (by rw [List.mem_singleton] at hb;rw [<- hb,<- e];exact ha)))
theorem fil_lookup (k k' : α) : ∀ es : List (α × β),(es.filter fun p=>decide (p.1 ≠ k)).lookup k' = if k' = k then none else es.lookup k'
 | []=>by simp
 | (a,w) :: r=>by
  rw [List.filter_cons]
  by_cases q : a = k
  ·subst q
   rw [if_neg (by simp),fil_lookup a k' r,List.lookup_cons]
   by_cases h : k' = a
   ·simp [h]
   ·rw [if_neg h,if_neg h,beq_eq_false_iff_ne.mpr h]
  ·rw [if_pos (by simpa using q),List.lookup_cons,List.lookup_cons,fil_lookup k k' r]
   by_cases h : k' = a
   ·subst h;simp [q]
   ·rw [beq_eq_false_iff_ne.mpr h]
theorem fil_length {k : α} : ∀ {es : List (α × β)},(es.map (·.1)).Nodup -> k ∈ es.map (·.1) -> (es.filter fun p=>decide (p.1 ≠ k)).length + 1 = es.length
 | (a,w) :: r,hn,hm=>by
  rw [List.map_cons,List.nodup_cons] at hn
  rw [List.filter_cons]
  by_cases q : a = k
  ·subst q
   rw [if_neg (by simp)]
   have : r.filter (fun p=>decide (p.1 ≠ a)) = r:=List.filter_eq_self.mpr fun p hp=>by
    simp only [ne_eq,decide_eq_true_eq]
    exact fun h=>hn.1 (List.mem_map.mpr (iX1b p hp h))
   rw [this];rfl
  ·rw [if_pos (by simpa using q),List.length_cons,List.length_cons]
   rw [List.map_cons,List.mem_cons] at hm
   rw [fil_length hn.2 (hm.resolve_left fun h=>q h.symm)]
theorem lookup_some_mem {es : List (α × β)} {k : α} : (es.lookup k).isSome = true ↔ k ∈ es.map (·.1):=by
 constructor
 ·intro h
  refine eX1a (Option.isSome_iff_exists.mp h) fun v hv=>?_
  exact List.mem_map.mpr (iX1b (k,v) (mem_lookup hv) rfl)
 ·intro h
  cases q : es.lookup k with
  | some v=>rfl
  | none =>
   exfalso
   refine eX1b (List.mem_map.mp h) fun p hp ee540=>?_;subst ee540
   have : ∀ es : List (α × β),es.lookup p.1 = none -> p ∈ es -> False:=by
    intro es
    induction es with
    | nil=>intro _ h;cases h
    | cons x r ih =>
     intro h1 h2
     rw [List.lookup_cons] at h1
     cases b : p.1 == x.1 with
     | true=>rw [b] at h1;cases h1
     | false =>
      rw [b] at h1
      rcases List.mem_cons.mp h2 with h2 | h2
      ·rw [h2,beq_self_eq_true] at b;cases b
      ·exact ih h1 h2
   exact this es q hp
end
theorem setEs_lookup (z : Int) (es : List (Str × Int)) (z' : Int) : ∀ zs : List (Int × List (Str × Int)),(setEs zs z es).lookup z' = if z' = z then (zs.lookup z).map fun _=>es else zs.lookup z'
 | []=>by unfold setEs;simp
 | (a,w) :: r=>by
  have ih:=setEs_lookup z es z' r
  unfold setEs at ih ⊢
  rw [List.map_cons]
  by_cases q : a = z
  ·subst q
   rw [if_pos rfl,List.lookup_cons,List.lookup_cons,List.lookup_cons]
   by_cases h : z' = a
   ·subst h;simp
   ·rw [beq_eq_false_iff_ne.mpr h,if_neg h]
    dsimp only
    rw [ih,if_neg h]
  ·rw [if_neg q,List.lookup_cons,List.lookup_cons]
   by_cases h : z' = a
   ·subst h;simp [q]
   ·rw [beq_eq_false_iff_ne.mpr h]
    dsimp only
    rw [ih]
    by_cases h2 : z' = z
    ·rw [if_pos h2,if_pos h2,beq_eq_false_iff_ne.mpr (Ne.symm q)]
    ·rw [if_neg h2,if_neg h2,List.lookup_cons,beq_eq_false_iff_ne.mpr h]
theorem setEs_keys (zs : List (Int × List (Str × Int))) (z : Int) (es : List (Str × Int)) : (setEs zs z es).map (·.1) = zs.map (·.1):=by
 unfold setEs
 rw [List.map_map]
 refine List.map_congr_left fun p _=>?_
 simp only [Function.comp]
 split <;> rfl
theorem kput_put1 : ∀ (K : KP) (k : Int) (ps : List Pt),kput K k ps = put1 K k ps
 | [],_,_=>rfl
 | (a,w) :: r,k,ps=>by
  unfold kput put1
  by_cases q : a = k
  ·rw [if_pos q,if_pos q,q]
  ·rw [if_neg q,if_neg q,kput_put1 r k ps]
theorem kget_kput (K : KP) (k : Int) (ps : List Pt) (k' : Int) : kget (kput K k ps) k' = if k' = k then ps else kget K k':=by
 unfold kget
 rw [kput_put1,put1_lookup]
 split <;> rfl
theorem kget_kdel (K : KP) (k k' : Int) : kget (kdel K k) k' = if k' = k then [] else kget K k':=by
 unfold kget kdel
 rw [fil_lookup]
 split <;> rfl
noncomputable def tot (K : KP) : Nat:=(K.map fun p=>p.2.length).sum
theorem tot_kput : ∀ (K : KP) (k : Int) (ps : List Pt),tot (kput K k ps) + (kget K k).length = tot K + ps.length
 | [],k,ps=>by simp [tot,kput,kget]
 | (a,w) :: r,k,ps=>by
  have ih:=tot_kput r k ps
  unfold kput
  by_cases q : a = k
  ·subst q
   rw [if_pos rfl]
   have : kget ((a,w) :: r) a = w:=by unfold kget;simp
   rw [this]
   unfold tot
   simp only [List.map_cons,List.sum_cons];lia
  ·rw [if_neg q]
   have : kget ((a,w) :: r) k = kget r k:=by unfold kget;rw [List.lookup_cons,beq_eq_false_iff_ne.mpr (Ne.symm q)]
   rw [this]
   unfold tot at ih ⊢
   simp only [List.map_cons,List.sum_cons];lia
theorem tot_filter (f : Int × List Pt -> Bool) : ∀ K : KP,tot (K.filter f) <= tot K
 | []=>Nat.le_refl _
 | p :: r=>by
  have ih:=tot_filter f r
  rw [List.filter_cons]
  unfold tot at ih ⊢
  split
  ·simp only [List.map_cons,List.sum_cons];lia
  ·simp only [List.map_cons,List.sum_cons];lia
theorem tot_kdel {K : KP} {k : Int} : tot (kdel K k) + (kget K k).length <= tot K:=by
 induction K with
 | nil=>simp [tot,kdel,kget]
 | cons p r ih =>
  obtain ⟨a,w⟩:=p
  unfold kdel at ih ⊢
  rw [List.filter_cons]
  by_cases q : a = k
  ·subst q
   rw [if_neg (by simp)]
   have h1 : kget ((a,w) :: r) a = w:=by unfold kget;simp
   have h2:=tot_filter (fun p=>decide (p.1 ≠ a)) r
   rw [h1]
   have h3 : tot ((a,w) :: r) = w.length + tot r:=by unfold tot;simp
   lia
  ·rw [if_pos (by simpa using q)]
   have h1 : kget ((a,w) :: r) k = kget r k:=by unfold kget;rw [List.lookup_cons,beq_eq_false_iff_ne.mpr (Ne.symm q)]
   rw [h1]
   have h3 : ∀ l : KP,tot ((a,w) :: l) = w.length + tot l:=fun l=>by unfold tot;simp
   rw [h3,h3];lia
theorem len_tot {K : KP} {e : Int × List Pt} (h : e ∈ K) : e.2.length <= tot K:=by
 induction K with
 | nil=>cases h
 | cons p r ih =>
  have h3 : tot (p :: r) = p.2.length + tot r:=by unfold tot;simp
  rcases List.mem_cons.mp h with rfl | h
  ·lia
  ·have:=ih h;lia
theorem kget_tot (K : KP) (k : Int) : (kget K k).length <= tot K:=by
 unfold kget
 cases q : K.lookup k with
 | none=>simp
 | some ps=>exact len_tot (e:=(k,ps)) (mem_lookup q)
theorem flat_tot {K : KP} : ∀ {ks : List Int},ks.Nodup -> (ks.flatMap (kget K)).length <= tot K:=by
 intro ks
 induction ks generalizing K with
 | nil=>intro _;simp
 | cons k ks ih =>
  intro hn
  rw [List.nodup_cons] at hn
  rw [List.flatMap_cons,List.length_append]
  have h1:=ih (K:=kdel K k) hn.2
  have h2 : ks.flatMap (kget (kdel K k)) = ks.flatMap (kget K):=by
   rw [List.flatMap_def,List.flatMap_def]
   congr 1
   refine List.map_congr_left fun j hj=>?_
   rw [kget_kdel,if_neg (fun q : j = k=>hn.1 (by rw [<- q];exact hj))]
  rw [h2] at h1
  have h3:=tot_kdel (K:=K) (k:=k)
  lia
theorem kflat_tot (K : KP) : (kflat K).length <= tot K:=flat_tot (sortedK_nd _)
section
variable {α β : Type} {S S' : BSt}
theorem T.bind_ok {t : T α} {f : α -> T β} {a : α} (h : t S = some (.ok a,S')) : (t.bind f) S = f a S':=by unfold T.bind;rw [h]
theorem T.bind_err {t : T α} {f : α -> T β} {C : Addr} (h : t S = some (.error C,S')) : (t.bind f) S = some (.error C,S'):=by unfold T.bind;rw [h]
theorem T.need_ok {p : Prop} [Decidable p] {t : T α} (h : p) : T.need p t S = t S:=by unfold T.need;rw [if_pos h]
theorem T.safe_ok {t : T α} {a : α} (h : t S = some (.ok a,S')) : t.safe S = some (.ok a,S'):=by unfold T.safe;rw [h]
theorem T.wp_ok {t : T α} {a : α} {Q : α -> BSt -> Prop} {X : Addr -> BSt -> Prop} (h : t S = some (.ok a,S')) (hq : Q a S') : t.wp S Q X:=by unfold T.wp;rw [h];exact hq
theorem T.wp_err {t : T α} {C : Addr} {Q : α -> BSt -> Prop} {X : Addr -> BSt -> Prop} (h : t S = some (.error C,S')) (hq : X C S') : t.wp S Q X:=by unfold T.wp;rw [h];exact hq
end
structure WF (S : BSt) : Prop where
 nn : (S.notes.map (·.1)).Nodup
 nz : (S.zaps.map (·.1)).Nodup
 ln : ∀ n ∈ S.notes.map (·.1),n <= S.last
 lz : ∀ z ∈ S.zaps.map (·.1),z <= S.last
 l0 : 0 <= S.last
structure DeadIn (S : BSt) (z : Int) (f : Int -> Option Int) (K : KP) : Prop where
 es : ∃ es,S.zaps.lookup z = some es /\ (es.map (·.1)).Nodup /\ (∀ s ∈ es.map (·.1),isKey s = true) /\ ∀ k,0 <= k -> k < 10 -> es.lookup (numStr k) = f k
 out : ∀ k n,f k = some n -> 0 <= k /\ k < 10
 ks : ∀ k,(f k).isSome = true ↔ k ∈ K.map (·.1)
 v : ∀ k n,f k = some n -> S.notes.lookup n = some (kget K k)
 inj : ∀ k j n,f k = some n -> f j = some n -> k = j
 nk : (K.map (·.1)).Nodup
theorem zap_len {es : List (Str × Int)} (hn : (es.map (·.1)).Nodup) (hk : ∀ s ∈ es.map (·.1),isKey s = true) : es.length <= 10:=by
 have h1 : es.map (·.1) ⊆ (List.range 10).map keyS:=fun s hs=>by
  refine eX1c (isKey_of (hk s hs)) fun k h1 ee541 _=>?_;subst ee541
  exact List.mem_map.mpr (iX1b k (List.mem_range.mpr h1) rfl)
 have:=nodup_len hn h1
 simpa using this
section
variable {S : BSt} {z : Int} {f : Int -> Option Int} {K : KP}
theorem DeadIn.rng (D : DeadIn S z f K) {k : Int} (h : k ∈ K.map (·.1)) : 0 <= k /\ k < 10:=by
 refine eX1a (Option.isSome_iff_exists.mp ((D.ks k).mpr h)) fun n hn=>?_
 exact D.out k n hn
theorem DeadIn.rngs (D : DeadIn S z f K) : ∀ k ∈ K.map (·.1),0 <= k /\ k < 10:=fun _ h=>D.rng h
theorem DeadIn.klen (D : DeadIn S z f K) : K.length <= 10:=by
 have h1 : K.map (·.1) ⊆ (List.range 10).map fun (i : Nat)=>(i : Int):=fun x hx=>by
  refine eX0b (D.rng hx) fun h1 h2=>?_
  exact List.mem_map.mpr (iX1b x.toNat (List.mem_range.mpr (by lia)) (by lia))
 have:=nodup_len D.nk h1
 simpa using this
theorem deadKs_sorted_eq {ss : List Str} {ks : List Int} (h : ∀ k : Nat,k < 10 -> (keyS k ∈ ss ↔ (k : Int) ∈ ks)) : deadKs ss = sortedK ks:=by
 unfold deadKs sortedK
 congr 1
 refine List.filter_congr fun k hk=>?_
 rw [decide_eq_decide]
 exact h k (List.mem_range.mp hk)
theorem deadKeys_eq (D : DeadIn S z f K) : tDeadKeys z S = some (.ok (sortedK (K.map (·.1))),S):=by
 refine eX1d (D.es) fun es hz hn hk hl=>?_
 have hlen:=zap_len hn hk
 have h1 : tNames z S = some ((.ok (es.map fun p : Str × Int=>p.1) : Except Addr (List Str)),S):=by
  unfold tNames
  show (match S.zaps.lookup z with
   | some es=>T.need (es.length < 64) (T.out (es.map fun p : Str × Int=>p.1) S)
   | none=>T.fail 56) S = _
  rw [hz]
  dsimp only
  rw [T.need_ok (by lia)];rfl
 unfold tDeadKeys
 rw [T.bind_ok h1,T.need_ok (iX0c hn hk (by rw [List.length_map];lia))]
 show some ((.ok (deadKs (es.map fun p : Str × Int=>p.1)) : Except Addr (List Int)),S) = _
 rw [deadKs_sorted_eq (ks:=K.map (·.1)) fun k hk=>?_]
 rw [<- D.ks,<- hl k (by lia) (by lia),lookup_some_mem]
 exact Iff.rfl
theorem listOf_eq (D : DeadIn S z f K) {k n : Int} (h : f k = some n) : tListOf z k S = some (.ok n,S):=by
 refine eX0b (D.out k n h) fun h0 h1=>?_
 refine eX1d (D.es) fun es hz hn hk hl=>?_
 have hg : tGet z (numStr k) S = some (.ok (some n),S):=by
  unfold tGet
  show (match S.zaps.lookup z with
   | some es=>T.out (es.lookup (numStr k)) S
   | none=>T.fail 56) S = _
  rw [hz]
  dsimp only
  rw [hl k h0 h1,h];rfl
 unfold tListOf
 rw [T.need_ok (iX0b h0 (by lia)),T.bind_ok hg];rfl
theorem listOf_none (D : DeadIn S z f K) {k : Int} (h0 : 0 <= k) (h1 : k < 10) (h : f k = none) : tListOf z k S = some (.error 56,S):=by
 refine eX1d (D.es) fun es hz hn hk hl=>?_
 have hg : tGet z (numStr k) S = some (.ok none,S):=by
  unfold tGet
  show (match S.zaps.lookup z with
   | some es=>T.out (es.lookup (numStr k)) S
   | none=>T.fail 56) S = _
  rw [hz]
  dsimp only
  rw [hl k h0 h1,h];rfl
 unfold tListOf
 rw [T.need_ok (iX0b h0 (by lia)),T.bind_ok hg];rfl
theorem note_eq {n : Int} {ps : List Pt} (h : S.notes.lookup n = some ps) : tNote n S = some (.ok ps,S):=by
 unfold tNote
 show (match S.notes.lookup n with
   | some ps=>T.out ps S
   | none=>T.fail 56) S = _
 rw [h];rfl
theorem points_eq {n : Int} {ps : List Pt} (h : S.notes.lookup n = some ps) (hl : ps.length <= 1000) : tPoints n S = some (.ok ps,S):=by
 unfold tPoints
 rw [T.bind_ok (note_eq h),T.need_ok hl];rfl
theorem DeadIn.get (D : DeadIn S z f K) {k : Int} (h : k ∈ K.map (·.1)) : ∃ n,f k = some n:=Option.isSome_iff_exists.mp ((D.ks k).mpr h)
theorem collect_eq (D : DeadIn S z f K) : ∀ (ks : List Int) (acc : List Pt),(∀ k ∈ ks,k ∈ K.map (·.1)) -> acc.length + (ks.flatMap (kget K)).length <= 1000 -> tCollect z ks acc S = some (.ok (acc ++ ks.flatMap (kget K)),S)
 | [],acc,_,_=>by unfold tCollect;simp [T.pure]
 | k :: ks,acc,hk,hl=>by
  refine eX1a (D.get (hk k (.head _))) fun n hn=>?_
  rw [List.flatMap_cons,List.length_append] at hl
  unfold tCollect
  have h1 : ((tListOf z k).bind tPoints) S = some (.ok (kget K k),S):=by
   rw [T.bind_ok (listOf_eq D hn)];exact points_eq (D.v k n hn) (by lia)
  rw [T.bind_ok (T.safe_ok h1),T.need_ok (by lia),collect_eq D ks _ (fun j hj=>hk j (.tail _ hj)) (by rw [List.length_append];lia),List.flatMap_cons,List.append_assoc]
theorem deadPts_eq (D : DeadIn S z f K) (hl : (kflat K).length <= 1000) : tDeadPts z S = some (.ok (kflat K),S):=by
 unfold tDeadPts
 rw [T.bind_ok (deadKeys_eq D),collect_eq D _ _ (fun k hk=>(sortedK_mem D.rngs).mp hk) (by simpa [kflat] using hl)];rfl
theorem lawIs_of (D : DeadIn S z f K) (ht : tot K <= 900) : LawIsK S z K:=by
 have hf:=kflat_tot K
 refine ⟨T.wp_ok (deadKeys_eq D) (iX0b rfl rfl),fun e he=>?_,T.wp_ok (deadPts_eq D (by lia)) (iX0b rfl rfl)⟩
 refine eX1a (D.get (List.mem_map_of_mem (f:=(·.1)) he)) fun n hn=>?_
 have hk : kget K e.1 = e.2:=by unfold kget;rw [lookup_mem1 D.nk he];rfl
 have hlen:=len_tot he
 have h1 : ((tListOf z e.1).bind tPoints) S = some (.ok e.2,S):=by
  rw [T.bind_ok (listOf_eq D hn)];exact points_eq ((D.v _ n hn).trans (by rw [hk])) (by lia)
 exact T.wp_ok h1 (iX0b rfl rfl)
theorem below_eq (ks : List Int) (hk : ∀ k ∈ ks,0 <= k /\ k < 10) (n : Int) : below (sortedK ks) n = if 0 <= mxb ks n then some (mxb ks n) else none:=by
 have hmem : ∀ a,a ∈ (sortedK ks).filter (fun k=>decide (k < n)) ↔ a ∈ ks.filter fun k=>decide (k < n):=fun a=>by
  rw [List.mem_filter,List.mem_filter,sortedK_mem hk]
 have hs : ((sortedK ks).filter fun k=>decide (k < n)).Pairwise (· <= ·):=(sortedK_le ks).filter _
 unfold below
 cases q : ((sortedK ks).filter fun k=>decide (k < n)).getLast? with
 | none =>
  have h0 : (sortedK ks).filter (fun k=>decide (k < n)) = []:=List.getLast?_eq_none_iff.mp q
  have : ks.filter (fun k=>decide (k < n)) = []:=by
   refine List.eq_nil_iff_forall_not_mem.mpr fun a ha=>?_
   rw [<- hmem,h0] at ha;cases ha
  have h2 : mxb ks n = -1:=by unfold mxb;rw [this];rfl
  rw [h2,if_neg (by decide)]
 | some x =>
  refine eX1a (List.getLast?_eq_some_iff.mp q) fun l hl=>?_
  rw [hl] at hs
  have hx : x ∈ ks.filter fun k=>decide (k < n):=(hmem x).mp (by rw [hl];simp)
  have hx0:=hk x (List.mem_filter.mp hx).1
  have hmx : x = mxb ks n:=mxb_of (List.mem_append_left _ hx) fun a ha=>by
   rcases List.mem_append.mp ha with ha | ha
   ·have ha':=(hmem a).mpr ha
    rw [hl] at ha'
    rcases List.mem_append.mp ha' with h | h
    ·exact (List.pairwise_append.mp hs).2.2 a h x (by simp)
    ·rw [List.mem_singleton] at h;lia
   ·rw [List.mem_singleton] at ha;lia
  rw [<- hmx,if_pos hx0.1]
end
structure Chg (S S' : BSt) (z : Int) (f f' : Int -> Option Int) (dk dl : Int) : Prop where
 wf : WF S'
 zo : ∀ z',z' ≠ z -> S'.zaps.lookup z' = S.zaps.lookup z'
 zk : S'.zaps.map (·.1) = S.zaps.map (·.1)
 no : ∀ n,(∀ k,f k ≠ some n) -> n <= S.last -> S'.notes.lookup n = S.notes.lookup n
 nw : ∀ k n,f' k = some n -> (∃ j,f j = some n) \/ S.last < n
 la : S.last <= S'.last /\ S'.last <= S.last + dl
 cn : (S'.notes.length : Int) = S.notes.length + dk
theorem Chg.refl {S : BSt} {z : Int} {f : Int -> Option Int} (W : WF S) : Chg S S z f f 0 0:=⟨W,fun _ _=>rfl,rfl,fun _ _ _=>rfl,fun k n h=>.inl (iX1a k h),(iX0b (Int.le_refl _) (by lia)),by lia⟩
theorem Chg.trans {S S1 S2 : BSt} {z : Int} {f f1 f2 : Int -> Option Int} {a b c d : Int} (x : Chg S S1 z f f1 a b) (y : Chg S1 S2 z f1 f2 c d) : Chg S S2 z f f2 (a + c) (b + d):=by
 refine ⟨y.wf,fun z' h=>(y.zo z' h).trans (x.zo z' h),y.zk.trans x.zk,fun n h hl=>?_,fun k n h=>?_,(iX0b (by have:=x.la;have:=y.la;lia) (by have:=x.la;have:=y.la;lia)),by have:=x.cn;have:=y.cn;lia⟩
 ·refine (y.no n (fun k hk=>?_) (by have:=x.la;lia)).trans (x.no n h hl)
  rcases x.nw k n hk with ⟨j,hj⟩ | hj
  ·exact h j hj
  ·lia
 ·rcases y.nw k n h with ⟨j,hj⟩ | hj
  ·exact x.nw j n hj
  ·right;have:=x.la;lia
section
variable {S S' : BSt} {z : Int} {f : Int -> Option Int} {K K' : KP}
theorem DeadIn.congr (D : DeadIn S z f K) (h1 : ∀ k,k ∈ K'.map (·.1) ↔ k ∈ K.map (·.1)) (h2 : ∀ k,kget K' k = kget K k) (h3 : (K'.map (·.1)).Nodup) : DeadIn S z f K' :=
 ⟨D.es,D.out,fun k=>(D.ks k).trans (h1 k).symm,fun k n h=>(D.v k n h).trans (by rw [h2]),D.inj,h3⟩
theorem kput_nodup {k : Int} {ps : List Pt} (h : (K.map (·.1)).Nodup) : ((kput K k ps).map (·.1)).Nodup:=by rw [kput_put1];exact put1_nodup _ _ h
theorem kput_mem {k : Int} {ps : List Pt} {j : Int} : j ∈ (kput K k ps).map (·.1) ↔ j ∈ K.map (·.1) \/ j = k:=by
 rw [kput_put1,put1_keys]
 split
 ·rename_i q
  exact ⟨.inl,fun h=>h.elim id fun e=>e ▸ q⟩
 ·rw [List.mem_append,List.mem_singleton]
theorem kdel_mem {k j : Int} : j ∈ (kdel K k).map (·.1) ↔ j ∈ K.map (·.1) /\ j ≠ k:=by
 unfold kdel
 constructor
 ·intro h
  refine eX1b (List.mem_map.mp h) fun p hp ee542=>?_;subst ee542
  refine eX0b (List.mem_filter.mp hp) fun h1 h2=>?_
  exact (iX0b (List.mem_map_of_mem h1) (by simpa using h2))
 ·intro zz543;refine eX0b zz543 fun h1 h2=>?_
  refine eX1b (List.mem_map.mp h1) fun p hp ee544=>?_;subst ee544
  exact List.mem_map_of_mem (List.mem_filter.mpr (iX0b hp (by simpa using h2)))
theorem DeadIn.id_le (W : WF S) (D : DeadIn S z f K) {k n : Int} (h : f k = some n) : n <= S.last:=W.ln n (lookup_some_mem.mp (by rw [D.v k n h];rfl))
theorem setNote (W : WF S) (D : DeadIn S z f K) {k n : Int} (h : f k = some n) (ps : List Pt) : DeadIn { S with notes:=put1 S.notes n ps } z f (kput K k ps) /\ Chg S { S with notes:=put1 S.notes n ps } z f f 0 0:=by
 have hn : n ∈ S.notes.map (·.1):=lookup_some_mem.mp (by rw [D.v k n h];rfl)
 have hk : k ∈ K.map (·.1):=(D.ks k).mp (by rw [h];rfl)
 refine (iX0b (⟨D.es,D.out,fun j=>(D.ks j).trans ?_,fun j m hj=>?_,D.inj,kput_nodup D.nk⟩) (⟨⟨put1_nodup _ _ W.nn,W.nz,fun m hm=>?_,W.lz,W.l0⟩,fun _ _=>rfl,rfl,fun m hm _=>?_,fun j m hj=>.inl (iX1a j hj),(iX0b (Int.le_refl _) (by show S.last <= S.last + 0;lia)),?_⟩))
 ·rw [kput_mem]
  exact ⟨.inl,fun h=>h.elim id fun e=>e ▸ hk⟩
 ·rw [kget_kput]
  show (put1 S.notes n ps).lookup m = _
  rw [put1_lookup]
  by_cases q : j = k
  ·subst q
   rw [h] at hj;cases hj
   rw [if_pos rfl,if_pos rfl]
  ·rw [if_neg q,if_neg (fun e : m = n=>q (D.inj j k n (by rw [<- e];exact hj) h))]
   exact D.v j m hj
 ·have hm' : m ∈ (put1 S.notes n ps).map (·.1):=hm
  rw [put1_keys,if_pos hn] at hm'
  exact W.ln m hm'
 ·show (put1 S.notes n ps).lookup m = _
  rw [put1_lookup,if_neg (fun e : m = n=>hm k (by rw [e];exact h))]
 ·show ((put1 S.notes n ps).length : Int) = _
  rw [put1_length,if_pos hn];lia
theorem newKey (W : WF S) (D : DeadIn S z f K) {key : Int} (h0 : 0 <= key) (h1 : key < 10) (hf : f key = none) {es : List (Str × Int)} (hz : S.zaps.lookup z = some es) :
  DeadIn { last:=S.last + 1,notes:=put1 S.notes (S.last + 1) [],zaps:=setEs S.zaps z (put1 es (numStr key) (S.last + 1)) } z (fun k=>if k = key then some (S.last + 1) else f k) (kput K key []) /\
  Chg S { last:=S.last + 1,notes:=put1 S.notes (S.last + 1) [],zaps:=setEs S.zaps z (put1 es (numStr key) (S.last + 1)) } z f (fun k=>if k = key then some (S.last + 1) else f k) 1 1:=by
 refine eX1d (D.es) fun es' hz' hn hk hl=>?_
 rw [hz] at hz';cases hz'
 have fresh : S.last + 1 ∉ S.notes.map (·.1):=fun h=>by have:=W.ln _ h;lia
 have idlt : ∀ {k n},f k = some n -> n <= S.last:=fun h=>D.id_le W h
 refine ⟨⟨(iX1d (put1 es (numStr key) (S.last + 1)) ?_ (put1_nodup _ _ hn) (fun s hs=>?_) (fun k k0 k1=>?_)),fun k n hk'=>?_,fun k=>?_,fun k n hk'=>?_,fun k j n hk' hj'=>?_,kput_nodup D.nk⟩,
  ⟨⟨put1_nodup _ _ W.nn,by show ((setEs S.zaps z _).map (·.1)).Nodup;rw [setEs_keys];exact W.nz,fun m hm=>?_,fun m hm=>?_,by show 0 <= S.last + 1;have:=W.l0;lia⟩,fun z' hz'=>?_,setEs_keys _ _ _,fun m _ hm2=>?_,fun k n hk'=>?_,(iX0b (by show S.last <= S.last + 1;lia) (Int.le_refl _)),?_⟩⟩
 ·show (setEs S.zaps z _).lookup z = _
  rw [setEs_lookup,if_pos rfl,hz];rfl
 ·rw [put1_keys] at hs
  split at hs
  ·exact hk s hs
  ·rcases List.mem_append.mp hs with hs | hs
   ·exact hk s hs
   ·rw [List.mem_singleton] at hs;subst hs
    have e : key = ((key.toNat : Nat) : Int):=by lia
    rw [e];exact isKey_keyS (by lia)
 ·rw [put1_lookup]
  by_cases q : k = key
  ·subst q;rw [if_pos rfl,if_pos rfl]
  ·rw [if_neg q,if_neg fun e=>q (numStr_inj k0 (by lia) h0 (by lia) e)]
   exact hl k k0 k1
 ·by_cases q : k = key
  ·subst q;exact (iX0b h0 h1)
  ·simp only [if_neg q] at hk';exact D.out k n hk'
 ·rw [kput_mem]
  by_cases q : k = key
  ·simp [q]
  ·simp only [if_neg q];exact (D.ks k).trans ⟨.inl,fun h=>h.resolve_right q⟩
 ·rw [kget_kput]
  show (put1 S.notes (S.last + 1) []).lookup n = _
  rw [put1_lookup]
  by_cases q : k = key
  ·simp only [if_pos q] at hk'
   cases hk'
   rw [if_pos rfl,if_pos q]
  ·simp only [if_neg q] at hk'
   have:=idlt hk'
   rw [if_neg q,if_neg (by lia)]
   exact D.v k n hk'
 ·by_cases q : k = key
  ·by_cases q2 : j = key
   ·exact q.trans q2.symm
   ·simp only [if_pos q] at hk';simp only [if_neg q2] at hj'
    cases hk'
    have:=idlt hj';lia
  ·by_cases q2 : j = key
   ·simp only [if_neg q] at hk';simp only [if_pos q2] at hj'
    cases hj'
    have:=idlt hk';lia
   ·simp only [if_neg q] at hk';simp only [if_neg q2] at hj'
    exact D.inj k j n hk' hj'
 ·have hm' : m ∈ (put1 S.notes (S.last + 1) []).map (·.1):=hm
  rw [put1_keys,if_neg fresh,List.mem_append,List.mem_singleton] at hm'
  show m <= S.last + 1
  rcases hm' with h | h
  ·have:=W.ln m h;lia
  ·lia
 ·have hm' : m ∈ (setEs S.zaps z (put1 es (numStr key) (S.last + 1))).map (·.1):=hm
  rw [setEs_keys] at hm'
  show m <= S.last + 1
  have:=W.lz m hm';lia
 ·show (setEs S.zaps z _).lookup z' = _
  rw [setEs_lookup,if_neg hz']
 ·show (put1 S.notes (S.last + 1) []).lookup m = _
  rw [put1_lookup,if_neg (by lia)]
 ·by_cases q : k = key
  ·simp only [if_pos q] at hk';cases hk';right;lia
  ·simp only [if_neg q] at hk';exact .inl (iX1a k hk')
 ·show ((put1 S.notes (S.last + 1) []).length : Int) = _
  rw [put1_length,if_neg fresh];lia
theorem delKey (W : WF S) (D : DeadIn S z f K) {key n : Int} (hf : f key = some n) {es : List (Str × Int)} (hz : S.zaps.lookup z = some es) :
  DeadIn { last:=S.last,notes:=S.notes.filter fun p=>decide (p.1 ≠ n),zaps:=setEs S.zaps z (es.filter fun p=>decide (p.1 ≠ numStr key)) } z (fun k=>if k = key then none else f k) (kdel K key) /\
  Chg S { last:=S.last,notes:=S.notes.filter fun p=>decide (p.1 ≠ n),zaps:=setEs S.zaps z (es.filter fun p=>decide (p.1 ≠ numStr key)) } z f (fun k=>if k = key then none else f k) (-1) 0:=by
 refine eX1d (D.es) fun es' hz' hn hk hl=>?_
 rw [hz] at hz';cases hz'
 refine eX0b (D.out key n hf) fun h0 h1=>?_
 have hnm : n ∈ S.notes.map (·.1):=lookup_some_mem.mp (by rw [D.v key n hf];rfl)
 refine ⟨⟨(iX1d (es.filter fun p=>decide (p.1 ≠ numStr key)) ?_ ((List.filter_sublist.map _).nodup hn) (fun s hs=>hk s ((List.filter_sublist.map _).subset hs)) (fun k k0 k1=>?_)),fun k m hk'=>?_,fun k=>?_,fun k m hk'=>?_,fun k j m hk' hj'=>?_,(List.filter_sublist.map _).nodup D.nk⟩,
  ⟨⟨(List.filter_sublist.map _).nodup W.nn,by show ((setEs S.zaps z _).map (·.1)).Nodup;rw [setEs_keys];exact W.nz,fun m hm=>W.ln m ((List.filter_sublist.map _).subset hm),fun m hm=>?_,W.l0⟩,fun z' hz'=>?_,setEs_keys _ _ _,fun m hm _=>?_,fun k m hk'=>?_,(iX0b (Int.le_refl _) (by show S.last <= S.last + 0;lia)),?_⟩⟩
 ·show (setEs S.zaps z _).lookup z = _
  rw [setEs_lookup,if_pos rfl,hz];rfl
 ·rw [fil_lookup]
  by_cases q : k = key
  ·subst q;rw [if_pos rfl,if_pos rfl]
  ·rw [if_neg q,if_neg fun e=>q (numStr_inj k0 (by lia) h0 (by lia) e)]
   exact hl k k0 k1
 ·by_cases q : k = key
  ·simp only [if_pos q] at hk';cases hk'
  ·simp only [if_neg q] at hk';exact D.out k m hk'
 ·rw [kdel_mem]
  by_cases q : k = key
  ·simp [q]
  ·simp only [if_neg q];exact (D.ks k).trans ⟨fun h=>(iX0b h q),fun h=>h.1⟩
 ·by_cases q : k = key
  ·simp only [if_pos q] at hk';cases hk'
  ·simp only [if_neg q] at hk'
   rw [kget_kdel,if_neg q]
   show (S.notes.filter _).lookup m = _
   rw [fil_lookup,if_neg (fun e : m = n=>q (D.inj k key n (by rw [<- e];exact hk') hf))]
   exact D.v k m hk'
 ·by_cases q : k = key
  ·simp only [if_pos q] at hk';cases hk'
  ·by_cases q2 : j = key
   ·simp only [if_pos q2] at hj';cases hj'
   ·simp only [if_neg q] at hk';simp only [if_neg q2] at hj'
    exact D.inj k j m hk' hj'
 ·have hm' : m ∈ (setEs S.zaps z (es.filter fun p=>decide (p.1 ≠ numStr key))).map (·.1):=hm
  rw [setEs_keys] at hm'
  exact W.lz m hm'
 ·show (setEs S.zaps z _).lookup z' = _
  rw [setEs_lookup,if_neg hz']
 ·show (S.notes.filter _).lookup m = _
  rw [fil_lookup,if_neg (fun e : m = n=>hm key (by rw [e];exact hf))]
 ·by_cases q : k = key
  ·simp only [if_pos q] at hk';cases hk'
  ·simp only [if_neg q] at hk';exact .inl (iX1a k hk')
 ·show ((S.notes.filter fun p=>decide (p.1 ≠ n)).length : Int) = _
  have:=fil_length W.nn hnm;lia
end
section
variable {S S' : BSt} {z : Int} {f : Int -> Option Int} {K K' : KP}
theorem addNote_eq {n : Int} {old ps : List Pt} (h : S.notes.lookup n = some old) (hN : S.notes.length < 900) (hl : old.length + ps.length <= 1000) : tAddNote n ps S = some (.ok (),{ S with notes:=put1 S.notes n (old ++ ps) }):=by
 unfold tAddNote
 rw [T.bind_ok (note_eq h)]
 show (T.need (S.notes.length < 900 /\ old.length + ps.length <= 1000) (T.out () { S with notes:=put1 S.notes n (old ++ ps) })) S = _
 rw [T.need_ok (iX0b hN hl)];rfl
theorem setNote_eq {n : Int} {old ps : List Pt} (h : S.notes.lookup n = some old) (hN : S.notes.length < 900) : tSetNote n ps S = some (.ok (),{ S with notes:=put1 S.notes n ps }):=by
 unfold tSetNote
 rw [T.bind_ok (note_eq h)]
 show (T.need (S.notes.length < 900) (T.out () { S with notes:=put1 S.notes n ps })) S = _
 rw [T.need_ok hN];rfl
theorem kput_same_mem {k : Int} (hk : k ∈ K.map (·.1)) (ps : List Pt) (j : Int) : j ∈ (kput K k ps).map (·.1) ↔ j ∈ K.map (·.1):=by
 rw [kput_mem]
 exact ⟨fun h=>h.elim id fun e=>e ▸ hk,.inl⟩
theorem addPts_ok (W : WF S) (D : DeadIn S z f K) {k n : Int} (h : f k = some n) (ps : List Pt) (hN : S.notes.length < 900) (hl : (kget K k).length + ps.length <= 1000) :
  ∃ S',tAddPts n ps S = some (.ok (),S') /\ DeadIn S' z f (kput K k (kget K k ++ ps)) /\ Chg S S' z f f 0 0:=by
 have hk : k ∈ K.map (·.1):=(D.ks k).mp (by rw [h];rfl)
 unfold tAddPts
 cases ps with
 | nil =>
  refine (iX1c S rfl (D.congr (kput_same_mem hk _) (fun j=>?_) (kput_nodup D.nk)) (Chg.refl W))
  rw [kget_kput]
  by_cases q : j = k
  ·rw [if_pos q,q,List.append_nil]
  ·rw [if_neg q]
 | cons p ps =>
  refine eX0b (setNote W D h (kget K k ++ (p :: ps))) fun h1 h2=>?_
  exact (iX1c _ (addNote_eq (D.v k n h) hN hl) h1 h2)
theorem putDead_ok (W : WF S) (D : DeadIn S z f K) {p : Pt} (hb : 0 <= mxb (K.map (·.1)) p.birth) (hN : S.notes.length < 900) (ht : tot K < 1000) :
  ∃ S',tPutDead z p S = some (.ok (),S') /\ DeadIn S' z f (ownPut K p) /\ Chg S S' z f f 0 0:=by
 refine eX1a (D.get (mxb_mem hb)) fun n hn=>?_
 have hlen:=kget_tot K (mxb (K.map (·.1)) p.birth)
 refine eX0b (setNote W D hn (kget K (mxb (K.map (·.1)) p.birth) ++ [p])) fun h1 h2=>?_
 refine (iX1c _ ?_ (by unfold ownPut;simp only;rw [if_pos hb];exact h1) h2)
 unfold tPutDead
 rw [T.bind_ok (deadKeys_eq D),below_eq _ D.rngs,if_pos hb]
 dsimp only
 rw [T.bind_ok (listOf_eq D hn)]
 exact addNote_eq (D.v _ n hn) hN (by rw [List.length_singleton];lia)
theorem putDead_err (D : DeadIn S z f K) {p : Pt} (hb : mxb (K.map (·.1)) p.birth < 0) : tPutDead z p S = some (.error 92,S):=by
 unfold tPutDead
 rw [T.bind_ok (deadKeys_eq D),below_eq _ D.rngs,if_neg (by lia)]
 rfl
theorem any_mem {ks : List Int} {k : Int} : ks.any (· == k) = true ↔ k ∈ ks:=by simp
theorem addKey_err (D : DeadIn S z f K) {key : Int} (h : key ∈ K.map (·.1)) : tAddKey z key S = some (.error 68,S):=by
 unfold tAddKey
 rw [T.bind_ok (deadKeys_eq D),if_pos (any_mem.mpr ((sortedK_mem D.rngs).mpr h))]
 rfl
theorem yo_eo (key : Int) (ps : List Pt) : (younger key ps).length + (elder key ps).length = ps.length:=by
 unfold younger elder
 induction ps with
 | nil=>rfl
 | cons p r ih =>
  rw [List.filter_cons,List.filter_cons]
  by_cases h : key < p.birth
  ·rw [if_pos (by simpa using h),if_neg (by simpa using h)];simp only [List.length_cons];lia
  ·rw [if_neg (by simpa using h),if_pos (by simpa using h)];simp only [List.length_cons];lia
theorem addKey_ok (W : WF S) (D : DeadIn S z f K) {key : Int} (hk : key ∉ K.map (·.1)) (h0 : 0 <= key) (h1 : key < 10) (hN : S.notes.length < 890) (hL : S.last < 900000) (ht : tot K <= 1000) :
  ∃ S' f',tAddKey z key S = some (.ok (),S') /\ DeadIn S' z f' (ownAdd K key) /\ Chg S S' z f f' 1 1:=by
 have hf : f key = none:=by
  cases q : f key with
  | none=>rfl
  | some n=>exact absurd ((D.ks key).mp (by rw [q];rfl)) hk
 refine eX1d (D.es) fun es hz hn hkk hl=>?_
 have hes:=zap_len hn hkk
 refine eX0b (newKey W D h0 h1 hf hz) fun D1 C1=>?_
 have e1 : tNewNote [] S = some (.ok (S.last + 1),{ S with last:=S.last + 1,notes:=put1 S.notes (S.last + 1) [] }):=by
  unfold tNewNote
  show (T.need (S.notes.length < 900 /\ S.last < 1000000) (T.out (S.last + 1) { S with last:=S.last + 1,notes:=put1 S.notes (S.last + 1) [] })) S = _
  rw [T.need_ok (iX0b (by lia) (by lia))];rfl
 have e2 : tPut z (numStr key) (S.last + 1) { S with last:=S.last + 1,notes:=put1 S.notes (S.last + 1) [] } = some (.ok (),{ last:=S.last + 1,notes:=put1 S.notes (S.last + 1) [],zaps:=setEs S.zaps z (put1 es (numStr key) (S.last + 1)) }):=by
  unfold tPut
  show (T.need (0 <= S.last + 1 /\ S.last + 1 < 10000000) (match S.zaps.lookup z with
   | some es=>T.need (es.length < 900) (T.out () ({ last:=S.last + 1,notes:=put1 S.notes (S.last + 1) [],zaps:=setEs S.zaps z (put1 es (numStr key) (S.last + 1)) } : BSt))
   | none=>T.fail 56)) _ = _
  rw [T.need_ok (iX0b (by have:=W.l0;lia) (by lia)),hz]
  dsimp only
  rw [T.need_ok (by lia)];rfl
 have hN1 : (put1 S.notes (S.last + 1) []).length < 900:=by have:=put1_len (S.last + 1) ([] : List Pt) S.notes;lia
 unfold tAddKey
 rw [T.bind_ok (deadKeys_eq D),if_neg (fun h=>hk ((sortedK_mem D.rngs).mp (any_mem.mp h))),T.bind_ok e1,T.need_ok (iX0b h0 (by lia)),T.bind_ok e2,below_eq _ D.rngs]
 generalize hS1 : ({ last:=S.last + 1,notes:=put1 S.notes (S.last + 1) [],zaps:=setEs S.zaps z (put1 es (numStr key) (S.last + 1)) } : BSt) = S1 at D1 C1
 as_aux_lemma =>
 have hN1' : S1.notes.length < 900:=by rw [<- hS1];exact hN1
 by_cases hb : 0 <= mxb (K.map (·.1)) key
 ·rw [if_pos hb]
  dsimp only
  generalize hbl : mxb (K.map (·.1)) key = bl at hb
  as_aux_lemma =>
  have hblk : bl ∈ K.map (·.1):=by rw [<- hbl];exact mxb_mem (by lia)
  have hblt : bl ≠ key:=fun e=>hk (e ▸ hblk)
  refine eX1a (D.get hblk) fun n hn1=>?_
  have hn1' : (fun k=>if k = key then some (S.last + 1) else f k) bl = some n:=by simp only [if_neg hblt];exact hn1
  have hk1 : kget (kput K key []) bl = kget K bl:=by rw [kget_kput,if_neg hblt]
  have hlen:=kget_tot K bl
  rw [T.bind_ok (listOf_eq D1 hn1'),T.bind_ok (points_eq ((D1.v _ _ hn1').trans (by rw [hk1])) (by lia)),T.need_ok (by lia)]
  have hadd : ownAdd K key = kput (kput K key (younger key (kget K bl))) bl (elder key (kget K bl)):=by
   unfold ownAdd;rw [if_neg hk,hbl];simp only;rw [if_pos hb,if_pos hb]
  have hye:=yo_eo key (kget K bl)
  have kadd : ∀ j,kget (ownAdd K key) j = if j = bl then elder key (kget K bl) else if j = key then younger key (kget K bl) else kget K j:=fun j=>by rw [hadd,kget_kput,kget_kput]
  have madd : ∀ j,j ∈ (ownAdd K key).map (·.1) ↔ j ∈ K.map (·.1) \/ j = key:=fun j=>by
   rw [hadd,kput_mem,kput_mem]
   exact ⟨fun h=>h.elim id fun e=>.inl (e ▸ hblk),.inl⟩
  have nadd : ((ownAdd K key).map (·.1)).Nodup:=by rw [hadd];exact kput_nodup (kput_nodup D.nk)
  by_cases hy : (younger key (kget K bl)).isEmpty = true
  ·rw [if_pos hy]
   refine (iX2c S1 _ rfl (D1.congr (fun j=>by rw [madd,kput_mem]) (fun j=>?_) nadd) C1)
   have hy' : younger key (kget K bl) = []:=List.isEmpty_iff.mp hy
   have he : elder key (kget K bl) = kget K bl:=by
    unfold elder
    refine List.filter_eq_self.mpr fun p hp=>?_
    have : p ∉ younger key (kget K bl):=by rw [hy'];nofun
    unfold younger at this
    rw [List.mem_filter,not_and] at this
    have:=this hp
    simp only [decide_eq_true_eq] at this ⊢
    lia
   rw [kadd,kget_kput,hy',he]
   by_cases q : j = bl
   ·rw [if_pos q,q,if_neg hblt]
   ·rw [if_neg q]
  ·rw [if_neg hy]
   refine eX0b (setNote C1.wf D1 hn1' []) fun D2 C2=>?_
   have e3:=setNote_eq (ps:=[]) (D1.v _ _ hn1') hN1'
   rw [T.bind_ok e3]
   have hN2 : (put1 S1.notes n []).length < 900:=by
    have:=C2.cn
    have : ((put1 S1.notes n []).length : Int) = S1.notes.length + 0:=this
    lia
   have hk2 : kget (kput (kput K key []) bl []) bl = []:=by rw [kget_kput,if_pos rfl]
   refine eX1c (addPts_ok C2.wf D2 hn1' (elder key (kget K bl)) hN2 (by rw [hk2];simp only [List.length_nil];lia)) fun S3 e4 D3 C3=>?_
   rw [T.bind_ok e4]
   have hkey : (fun k=>if k = key then some (S.last + 1) else f k) key = some (S.last + 1):=by simp
   have hN3 : S3.notes.length < 900:=by have:=C3.cn;have : ((put1 S1.notes n []).length : Int) = ({ S1 with notes:=put1 S1.notes n [] } : BSt).notes.length:=rfl;lia
   have hk3 : kget (kput (kput (kput K key []) bl []) bl (kget (kput (kput K key []) bl []) bl ++ elder key (kget K bl))) key = []:=by
    rw [kget_kput,if_neg (Ne.symm hblt),kget_kput,if_neg (Ne.symm hblt),kget_kput,if_pos rfl]
   refine eX1c (addPts_ok C3.wf D3 hkey (younger key (kget K bl)) hN3 (by rw [hk3];simp only [List.length_nil];lia)) fun S4 e5 D4 C4=>?_
   refine (iX2c S4 _ e5 (D4.congr (fun j=>?_) (fun j=>?_) nadd) (((C1.trans C2).trans C3).trans C4))
   ·rw [madd,kput_mem,kput_mem,kput_mem,kput_mem]
    constructor
    ·rintro (h | h)
     ·exact .inl (.inl (.inl (.inl h)))
     ·exact .inr h
    ·rintro ((((h | h) | h) | h) | h)
     ·exact .inl h
     ·exact .inr h
     ·exact .inl (h ▸ hblk)
     ·exact .inl (h ▸ hblk)
     ·exact .inr h
   ·rw [kadd,kget_kput,hk3,hk2,kget_kput,kget_kput,kget_kput]
    by_cases q : j = key
    ·rw [if_pos q,if_neg (fun e=>hblt (e.symm.trans q)),if_pos q];rfl
    ·rw [if_neg q,if_neg q,if_neg q]
     by_cases q2 : j = bl
     ·rw [if_pos q2,if_pos q2];rfl
     ·rw [if_neg q2,if_neg q2,if_neg q2]
 ·rw [if_neg hb]
  refine (iX2c S1 _ rfl (D1.congr (fun j=>?_) (fun j=>?_) ?_) C1)
  all_goals (have hadd : ownAdd K key = kput K key []:=by unfold ownAdd;rw [if_neg hk];simp only;rw [if_neg hb,if_neg hb];rfl)
  ·rw [hadd]
  ·rw [hadd]
  ·rw [hadd];exact kput_nodup D.nk
end
section
variable {S S' : BSt} {z : Int} {f : Int -> Option Int} {K K' : KP}
theorem takeDrop (W : WF S) (D : DeadIn S z f K) {key n : Int} (hf : f key = some n) :
  ∃ v S1 S2,tTake z (numStr key) S = some (.ok v,S1) /\ tDrop n S1 = some (.ok (),S2) /\ DeadIn S2 z (fun k=>if k = key then none else f k) (kdel K key) /\ Chg S S2 z f (fun k=>if k = key then none else f k) (-1) 0:=by
 refine eX1d (D.es) fun es hz hn hkk hl=>?_
 have hes:=zap_len hn hkk
 refine eX0b (D.out key n hf) fun h0 h1=>?_
 refine eX0b (delKey W D hf hz) fun D1 C1=>?_
 refine (iX3d n ({ S with zaps:=setEs S.zaps z (es.filter fun p=>decide (p.1 ≠ numStr key)) }) _ ?_ ?_ D1 C1)
 ·unfold tTake
  show (match S.zaps.lookup z with
   | some es=>match es.lookup (numStr key) with
    | some v=>T.need (es.length < 900) (T.out v ({ S with zaps:=setEs S.zaps z (es.filter fun p=>decide (p.1 ≠ numStr key)) } : BSt))
    | none=>T.fail 56
   | none=>T.fail 56) S = _
  rw [hz]
  dsimp only
  rw [hl key h0 h1,hf]
  dsimp only
  rw [T.need_ok (by lia)];rfl
 ·unfold tDrop
  show (if (S.notes.lookup n).isSome = true then T.out () ({ last:=S.last,notes:=S.notes.filter fun p=>decide (p.1 ≠ n),zaps:=setEs S.zaps z (es.filter fun p=>decide (p.1 ≠ numStr key)) } : BSt) else _) _ = _
  rw [if_pos (by rw [D.v key n hf];rfl)];rfl
theorem takeKey_missing (D : DeadIn S z f K) {key : Int} (h0 : 0 <= key) (h1 : key < 10) (hk : key ∉ K.map (·.1)) : tTakeKey z key S = some (.error 56,S):=by
 have hf : f key = none:=by
  cases q : f key with
  | none=>rfl
  | some n=>exact absurd ((D.ks key).mp (by rw [q];rfl)) hk
 unfold tTakeKey
 rw [T.bind_err (listOf_none D h0 h1 hf)]
theorem below_none (D : DeadIn S z f K) {key : Int} (hb : mxb (K.map (·.1)) key < 0) : below (sortedK (K.map (·.1))) key = none:=by rw [below_eq _ D.rngs,if_neg (by lia)]
theorem takeKey_misused (D : DeadIn S z f K) {key : Int} (hk : key ∈ K.map (·.1)) (hb : mxb (K.map (·.1)) key < 0) (hne : kget K key ≠ []) (ht : tot K <= 1000) : tTakeKey z key S = some (.error 80,S):=by
 refine eX1a (D.get hk) fun n hn=>?_
 refine eX0b (D.out key n hn) fun h0 h1=>?_
 have hlen:=kget_tot K key
 unfold tTakeKey
 rw [T.bind_ok (listOf_eq D hn),T.bind_ok (deadKeys_eq D),T.bind_ok (points_eq (D.v key n hn) (by lia)),T.need_ok (iX0c (by lia) h0 (by lia)),below_none D hb]
 have : (kget K key).isEmpty = false:=by cases q : kget K key with
  | nil=>exact absurd q hne
  | cons=>rfl
 rw [this];rfl
theorem takeKey_ok (W : WF S) (D : DeadIn S z f K) {key : Int} (hk : key ∈ K.map (·.1)) (hb : mxb (K.map (·.1)) key < 0 -> kget K key = []) (hN : S.notes.length < 900) (ht : tot K <= 500) :
  ∃ S' f',tTakeKey z key S = some (.ok (),S') /\ DeadIn S' z f' (ownTake K key) /\ Chg S S' z f f' (-1) 0:=by
 refine eX1a (D.get hk) fun n hn=>?_
 refine eX0b (D.out key n hn) fun h0 h1=>?_
 have hlen:=kget_tot K key
 refine eX3d (takeDrop W D hn) fun v S1 S2 e1 e2 D2 C2=>?_
 have hN2 : S2.notes.length < 900:=by have:=C2.cn;lia
 unfold tTakeKey
 rw [T.bind_ok (listOf_eq D hn),T.bind_ok (deadKeys_eq D),T.bind_ok (points_eq (D.v key n hn) (by lia)),T.need_ok (iX0c (by lia) h0 (by lia))]
 by_cases hb0 : 0 <= mxb (K.map (·.1)) key
 ·rw [below_eq _ D.rngs,if_pos hb0]
  rw [if_neg (by simp),T.bind_ok e1,T.bind_ok e2]
  dsimp only
  have hown : ownTake K key = kput (kdel K key) (mxb (K.map (·.1)) key) (kget (kdel K key) (mxb (K.map (·.1)) key) ++ kget K key):=by
   unfold ownTake;rw [if_pos hk];simp only;rw [if_neg (by lia)]
  generalize hbl : mxb (K.map (·.1)) key = bl at hb0 hown
  as_aux_lemma =>
  have hblk : bl ∈ K.map (·.1):=by rw [<- hbl];exact mxb_mem (by lia)
  have hblt : bl ≠ key:=by
   have:=mxb_lt (ks:=K.map (·.1)) (n:=key) (by lia)
   lia
  refine eX1a (D.get hblk) fun m hm=>?_
  have hm' : (fun k=>if k = key then none else f k) bl = some m:=by simp only [if_neg hblt];exact hm
  have hlen2:=kget_tot K bl
  have hkd : kget (kdel K key) bl = kget K bl:=by rw [kget_kdel,if_neg hblt]
  rw [T.bind_ok (listOf_eq D2 hm')]
  refine eX1c (addPts_ok C2.wf D2 hm' (kget K key) hN2 (by rw [hkd];lia)) fun S3 e3 D3 C3=>?_
  exact (iX2c S3 _ e3 (hown ▸ D3) (C2.trans C3))
 ·have hb1 : mxb (K.map (·.1)) key < 0:=by lia
  have hemp:=hb hb1
  rw [below_none D hb1,hemp,if_neg (by simp),T.bind_ok e1,T.bind_ok e2]
  have hown : ownTake K key = kdel K key:=by unfold ownTake;rw [if_pos hk];simp only;rw [if_pos hb1,hemp,if_neg (by simp)]
  exact (iX2c S2 _ rfl (hown ▸ D2) C2)
theorem move_ok (key : Int) : ∀ (ks : List Int) (acc : List Pt) (S : BSt) (f : Int -> Option Int) (K : KP),WF S -> DeadIn S z f K -> ks.Nodup -> (∀ k ∈ ks,k ∈ K.map (·.1)) -> tot K <= 400 -> acc.length + tot K <= 900 ->
  ∃ S' f' dk,tMove z key ks acc S = some (.ok (acc ++ (ks.filter fun k=>decide (key <= k)).flatMap (kget K)),S') /\ DeadIn S' z f' (K.filter fun p=>decide (¬ (p.1 ∈ ks /\ key <= p.1))) /\ Chg S S' z f f' dk 0 /\ (S'.notes.length : Int) - S.notes.length = (K.filter fun p=>decide (¬ (p.1 ∈ ks /\ key <= p.1))).length - K.length
 | [],acc,S,f,K,W,D,_,_,_,_=>by
  have hK : (K.filter fun p=>decide (¬ (p.1 ∈ ([] : List Int) /\ key <= p.1))) = K:=List.filter_eq_self.mpr fun p _=>by simp
  refine (iX3d S f 0 (by unfold tMove;simp [T.pure]) (by rw [hK];exact D) (Chg.refl W) (by rw [hK];lia))
 | k :: ks,acc,S,f,K,W,D,hnd,hk,ht,ha=>by
  rw [List.nodup_cons] at hnd
  unfold tMove
  by_cases hkk : key <= k
  ·rw [if_pos hkk,T.need_ok (by lia)]
   refine eX1a (D.get (hk k (.head _))) fun n hn=>?_
   refine eX0b (D.out k n hn) fun h0 h1=>?_
   have hlen:=kget_tot K k
   refine eX3d (takeDrop W D hn) fun v S1 S2 e1 e2 D2 C2=>?_
   have e3 : tMoveOne z k S = some (.ok (kget K k),S2):=by
    unfold tMoveOne
    rw [T.bind_ok (listOf_eq D hn),T.bind_ok (points_eq (D.v k n hn) (by lia)),T.need_ok (iX0c (by lia) h0 (by lia)),T.bind_ok e1,T.bind_ok e2];rfl
   rw [T.bind_ok (T.safe_ok e3)]
   have htd:=tot_kdel (K:=K) (k:=k)
   refine eX3d (move_ok key ks (acc ++ kget K k) S2 _ (kdel K k) C2.wf D2 hnd.2 (fun j hj=>kdel_mem.mpr (iX0b (hk j (.tail _ hj)) (fun e=>hnd.1 (e ▸ hj)))) (by lia) (by rw [List.length_append];lia)) fun S' f' dk e4 D4 C4 hc=>?_
   have hfil : ((kdel K k).filter fun p=>decide (¬ (p.1 ∈ ks /\ key <= p.1))) = K.filter fun p=>decide (¬ (p.1 ∈ k :: ks /\ key <= p.1)):=by
    unfold kdel
    rw [List.filter_filter]
    refine List.filter_congr fun p _=>?_
    by_cases q : p.1 = k
    ·simp [q,hkk]
    ·simp [q]
   have hfm : (ks.filter fun k=>decide (key <= k)).flatMap (kget (kdel K k)) = (ks.filter fun k=>decide (key <= k)).flatMap (kget K):=by
    rw [List.flatMap_def,List.flatMap_def]
    congr 1
    refine List.map_congr_left fun j hj=>?_
    rw [kget_kdel,if_neg (fun e : j = k=>hnd.1 (by rw [<- e];exact (List.mem_filter.mp hj).1))]
   refine (iX3d S' f' (-1 + dk) ?_ (hfil ▸ D4) (C2.trans C4) ?_)
   ·rw [e4,hfm,List.filter_cons,if_pos (by simpa using hkk),List.flatMap_cons,List.append_assoc]
   ·rw [hfil] at hc
    have h1:=C2.cn
    have h2 : (kdel K k).length + 1 = K.length:=fil_length D.nk (hk k (.head _))
    lia
  ·rw [if_neg hkk]
   refine eX3d (move_ok key ks acc S f K W D hnd.2 (fun j hj=>hk j (.tail _ hj)) ht ha) fun S' f' dk e4 D4 C4 hc=>?_
   have hfil : (K.filter fun p=>decide (¬ (p.1 ∈ ks /\ key <= p.1))) = K.filter fun p=>decide (¬ (p.1 ∈ k :: ks /\ key <= p.1)):=by
    refine List.filter_congr fun p _=>?_
    by_cases q : p.1 = k
    ·simp [q,hkk]
    ·simp [q]
   refine (iX3d S' f' dk ?_ (hfil ▸ D4) C4 (by rw [<- hfil];exact hc))
   rw [e4,List.filter_cons,if_neg (by simpa using hkk)]
end
theorem filk_lookup {β : Type} (g : Int -> Bool) (k : Int) : ∀ es : List (Int × β),(es.filter fun p=>g p.1).lookup k = if g k = true then es.lookup k else none
 | []=>by simp
 | (a,w) :: r=>by
  rw [List.filter_cons]
  by_cases q : g a = true
  ·rw [if_pos q,List.lookup_cons,List.lookup_cons,filk_lookup g k r]
   by_cases h : k = a
   ·subst h;simp [q]
   ·rw [beq_eq_false_iff_ne.mpr h]
  ·rw [if_neg q,filk_lookup g k r,List.lookup_cons]
   by_cases h : k = a
   ·subst h;simp [q]
   ·rw [beq_eq_false_iff_ne.mpr h]
section
variable {S S' : BSt} {z : Int} {f : Int -> Option Int} {K K' : KP}
theorem kflat_part (D : DeadIn S z f K) (key : Int) : ((sortedK (K.map (·.1))).filter fun k=>decide (key <= k)).flatMap (kget K) = kflat (K.filter fun p=>decide (key <= p.1)):=by
 have hk6 : ∀ k ∈ (K.filter fun p=>decide (key <= p.1)).map (·.1),0 <= k /\ k < 10:=fun k hk=>D.rng ((List.filter_sublist.map _).subset hk)
 have hnd : ((K.filter fun p=>decide (key <= p.1)).map (·.1)).Nodup:=(List.filter_sublist.map _).nodup D.nk
 have hs : ((sortedK (K.map (·.1))).filter fun k=>decide (key <= k)) = sortedK ((K.filter fun p=>decide (key <= p.1)).map (·.1)):=by
  refine sortedK_eq hnd hk6 ((List.perm_ext_iff_of_nodup ((sortedK_nd _).filter _) hnd).mpr fun a=>?_) ((sortedK_le _).filter _)
  rw [List.mem_filter,sortedK_mem D.rngs]
  constructor
  ·intro zz545;refine eX0b zz545 fun h1 h2=>?_
   refine eX1b (List.mem_map.mp h1) fun p hp ee546=>?_;subst ee546
   exact List.mem_map_of_mem (List.mem_filter.mpr (iX0b hp h2))
  ·intro h
   refine eX1b (List.mem_map.mp h) fun p hp ee547=>?_;subst ee547
   refine eX0b (List.mem_filter.mp hp) fun h1 h2=>?_
   exact (iX0b (List.mem_map_of_mem h1) h2)
 unfold kflat
 rw [<- hs,List.flatMap_def,List.flatMap_def]
 congr 1
 refine List.map_congr_left fun j hj=>?_
 unfold kget
 rw [filk_lookup (fun k=>decide (key <= k)) j K,if_pos (List.mem_filter.mp hj).2]
theorem moveAbove_ok (W : WF S) (D : DeadIn S z f K) (key : Int) (ht : tot K <= 400) :
  ∃ S' f' dk,tMoveAbove z key S = some (.ok (kflat (K.filter fun p=>decide (key <= p.1))),S') /\ DeadIn S' z f' (K.filter fun p=>decide (p.1 < key)) /\ Chg S S' z f f' dk 0 /\ (S'.notes.length : Int) - S.notes.length = (K.filter fun p=>decide (p.1 < key)).length - K.length:=by
 refine eX3d (move_ok (z:=z) key (sortedK (K.map (·.1))) [] S f K W D (sortedK_nd _) (fun k hk=>(sortedK_mem D.rngs).mp hk) ht (by simpa using (by lia : tot K <= 900))) fun S' f' dk e D' C hc=>?_
 have hfil : (K.filter fun p=>decide (¬ (p.1 ∈ sortedK (K.map (·.1)) /\ key <= p.1))) = K.filter fun p=>decide (p.1 < key):=by
  refine List.filter_congr fun p hp=>?_
  rw [decide_eq_decide,sortedK_mem D.rngs]
  have : p.1 ∈ K.map (·.1):=List.mem_map_of_mem hp
  constructor
  ·intro h;exact Int.not_le.mp fun h2=>h (iX0b this h2)
  ·intro h h2;lia
 rw [hfil] at D' hc
 refine (iX3d S' f' dk ?_ D' C hc)
 unfold tMoveAbove
 rw [T.bind_ok (deadKeys_eq D),e,List.nil_append,kflat_part D]
theorem between_eq (D : DeadIn S z f K) (lo hi : Int) (ht : tot K <= 900) : tBetween z lo hi S = some (.ok (between lo hi (kflat K)),S):=by
 have:=kflat_tot K
 unfold tBetween
 rw [T.bind_ok (deadPts_eq D (by lia)),T.need_ok (by lia)];rfl
theorem DeadIn.move (D : DeadIn S z f K) (hz : S'.zaps.lookup z = S.zaps.lookup z) (hn : ∀ k n,f k = some n -> S'.notes.lookup n = S.notes.lookup n) : DeadIn S' z f K :=
 ⟨let ⟨es,h1,r⟩:=D.es;(iX1b es (hz.trans h1) r),D.out,D.ks,fun k n h=>(hn k n h).trans (D.v k n h),D.inj,D.nk⟩
structure Gone (S S' : BSt) (z : Int) (f : Int -> Option Int) (K : KP) : Prop where
 wf : WF S'
 zo : ∀ z',z' ≠ z -> S'.zaps.lookup z' = S.zaps.lookup z'
 zn : S'.zaps.lookup z = none
 no : ∀ n,(∀ k,f k ≠ some n) -> S'.notes.lookup n = S.notes.lookup n
 la : S'.last = S.last
 cn : S'.notes.length + K.length = S.notes.length
 cz : S'.zaps.length + 1 = S.zaps.length
theorem dropAll_ok {es : List (Str × Int)} : ∀ (ks : List Int) (S : BSt),S.zaps.lookup z = some es -> WF S -> ks.Nodup -> (∀ k ∈ ks,0 <= k /\ k < 10 /\ ∃ n,es.lookup (numStr k) = some n /\ f k = some n /\ (S.notes.lookup n).isSome = true) -> (∀ k j n,f k = some n -> f j = some n -> k = j) ->
  ∃ S',tDropAll z ks S = some (.ok (),S') /\ WF S' /\ S'.zaps = S.zaps /\ S'.last = S.last /\ (∀ n,(∀ k ∈ ks,f k ≠ some n) -> S'.notes.lookup n = S.notes.lookup n) /\ S'.notes.length + ks.length = S.notes.length
 | [],S,_,W,_,_,_=>⟨S,rfl,W,rfl,rfl,fun _ _=>rfl,rfl⟩
 | k :: ks,S,hz,W,hnd,hk,inj=>by
  rw [List.nodup_cons] at hnd
  obtain ⟨h0,h1,n,hn,hf,hs⟩:=hk k (.head _)
  have hm:=lookup_some_mem.mp hs
  have e1 : tListOf z k S = some (.ok n,S):=by
   have hg : tGet z (numStr k) S = some (.ok (some n),S):=by
    unfold tGet
    show (match S.zaps.lookup z with
     | some es=>T.out (es.lookup (numStr k)) S
     | none=>T.fail 56) S = _
    rw [hz]
    dsimp only
    rw [hn];rfl
   unfold tListOf
   rw [T.need_ok (iX0b h0 (by lia)),T.bind_ok hg];rfl
  have e2 : tDrop n S = some (.ok (),{ S with notes:=S.notes.filter fun p=>decide (p.1 ≠ n) }):=by
   unfold tDrop
   show (if (S.notes.lookup n).isSome = true then T.out () ({ S with notes:=S.notes.filter fun p=>decide (p.1 ≠ n) } : BSt) else _) _ = _
   rw [if_pos hs];rfl
  have W2 : WF { S with notes:=S.notes.filter fun p=>decide (p.1 ≠ n) }:=⟨(List.filter_sublist.map _).nodup W.nn,W.nz,fun m hm=>W.ln m ((List.filter_sublist.map _).subset hm),W.lz,W.l0⟩
  obtain ⟨S',e3,W',z',l',no',cn'⟩:=dropAll_ok ks { S with notes:=S.notes.filter fun p=>decide (p.1 ≠ n) } hz W2 hnd.2 (fun j hj=>by
   obtain ⟨a,b,m,c,d,e⟩:=hk j (.tail _ hj)
   refine ⟨a,b,m,c,d,?_⟩
   show ((S.notes.filter _).lookup m).isSome = true
   rw [fil_lookup,if_neg (fun q : m = n=>hnd.1 (by rw [inj k j n hf (q ▸ d)];exact hj))]
   exact e) inj
  refine ⟨S',?_,W',z',l',fun m hm2=>?_,?_⟩
  ·unfold tDropAll
   rw [T.bind_ok (T.safe_ok (show ((tListOf z k).bind fun n=>tDrop n) S = _ from (T.bind_ok e1).trans e2))]
   exact e3
  ·refine (no' m fun j hj=>hm2 j (.tail _ hj)).trans ?_
   show (S.notes.filter _).lookup m = _
   rw [fil_lookup,if_neg (fun q : m = n=>hm2 k (.head _) (by rw [q];exact hf))]
  ·have:=fil_length W.nn hm
   have c2 : S'.notes.length + ks.length = (S.notes.filter fun p=>decide (p.1 ≠ n)).length:=cn'
   rw [List.length_cons];lia
theorem sortedK_length {ks : List Int} (hn : ks.Nodup) (hk : ∀ k ∈ ks,0 <= k /\ k < 10) : (sortedK ks).length = ks.length :=
 ((List.perm_ext_iff_of_nodup (sortedK_nd ks) hn).mpr fun _=>sortedK_mem hk).length_eq
theorem dropDead_ok (W : WF S) (D : DeadIn S z f K) (hzn : S.notes.lookup z = none) : ∃ S',tDropDead z S = some (.ok (),S') /\ Gone S S' z f K:=by
 refine eX1d (D.es) fun es hz hn hkk hl=>?_
 obtain ⟨S1,e1,W1,z1,l1,no1,cn1⟩:=dropAll_ok (z:=z) (f:=f) (es:=es) (sortedK (K.map (·.1))) S hz W (sortedK_nd _) (fun k hk=>by
  have hk':=(sortedK_mem D.rngs).mp hk
  refine eX0b (D.rng hk') fun h0 h1=>?_
  refine eX1a (D.get hk') fun n hn=>?_
  exact ⟨h0,h1,n,(hl k h0 h1).trans hn,hn,by rw [D.v k n hn];rfl⟩) D.inj
 have hz1 : S1.notes.lookup z = none:=(no1 z fun k _ hf=>by rw [D.v k z hf] at hzn;cases hzn).trans hzn
 have hzm : z ∈ S1.zaps.map (·.1):=by rw [z1];exact lookup_some_mem.mp (by rw [hz];rfl)
 have e2 : tDrop z S1 = some (.ok (),{ S1 with zaps:=S1.zaps.filter fun p=>decide (p.1 ≠ z) }):=by
  unfold tDrop
  show (if (S1.notes.lookup z).isSome = true then _ else if (S1.zaps.lookup z).isSome = true then T.out () ({ S1 with zaps:=S1.zaps.filter fun p=>decide (p.1 ≠ z) } : BSt) else _) _ = _
  rw [if_neg (by rw [hz1];decide),if_pos (lookup_some_mem.mpr hzm)];rfl
 refine (iX1b ({ S1 with zaps:=S1.zaps.filter fun p=>decide (p.1 ≠ z) }) ?_ (⟨⟨W1.nn,(List.filter_sublist.map _).nodup W1.nz,W1.ln,fun m hm=>W1.lz m ((List.filter_sublist.map _).subset hm),W1.l0⟩,fun z' hz'=>?_,?_,fun n h=>no1 n fun k _=>h k,l1,?_,?_⟩))
 ·unfold tDropDead
  rw [T.bind_ok (deadKeys_eq D),T.bind_ok e1];exact e2
 ·show (S1.zaps.filter _).lookup z' = _
  rw [fil_lookup,if_neg hz',z1]
 ·show (S1.zaps.filter _).lookup z = _
  rw [fil_lookup,if_pos rfl]
 ·show S1.notes.length + K.length = _
  rw [sortedK_length D.nk D.rngs,List.length_map] at cn1;exact cn1
 ·show (S1.zaps.filter _).length + 1 = _
  rw [fil_length W1.nz hzm,z1]
end
section
variable {S S' : BSt} {z : Int} {f : Int -> Option Int} {K K' : KP}
theorem putKeys_ok : ∀ (ks : List Int) (S : BSt) (f : Int -> Option Int) (K : KP),WF S -> DeadIn S z f K -> ks.Nodup -> (∀ k ∈ ks,0 <= k /\ k < 10 /\ k ∉ K.map (·.1)) -> S.notes.length + ks.length <= 200 -> S.last + ks.length <= 900000 ->
  ∃ S' f',tPutKeys z ks S = some (.ok (),S') /\ DeadIn S' z f' (nilK K ks) /\ Chg S S' z f f' ks.length ks.length
 | [],S,f,K,W,D,_,_,_,_=>(iX2c S f rfl D (Chg.refl W))
 | k :: ks,S,f,K,W,D,hnd,hk,hN,hL=>by
  rw [List.nodup_cons] at hnd
  rw [List.length_cons] at hN hL
  refine eX0c (hk k (.head _)) fun h0 h1 hkk=>?_
  have hf : f k = none:=by
   cases q : f k with
   | none=>rfl
   | some n=>exact absurd ((D.ks k).mp (by rw [q];rfl)) hkk
  refine eX1d (D.es) fun es hz hn hkey hl=>?_
  have hes:=zap_len hn hkey
  refine eX0b (newKey W D h0 h1 hf hz) fun D1 C1=>?_
  have e1 : tNewNote [] S = some (.ok (S.last + 1),{ S with last:=S.last + 1,notes:=put1 S.notes (S.last + 1) [] }):=by
   unfold tNewNote
   show (T.need (S.notes.length < 900 /\ S.last < 1000000) (T.out (S.last + 1) { S with last:=S.last + 1,notes:=put1 S.notes (S.last + 1) [] })) S = _
   rw [T.need_ok (iX0b (by lia) (by lia))];rfl
  have e2 : tPut z (numStr k) (S.last + 1) { S with last:=S.last + 1,notes:=put1 S.notes (S.last + 1) [] } = some (.ok (),{ last:=S.last + 1,notes:=put1 S.notes (S.last + 1) [],zaps:=setEs S.zaps z (put1 es (numStr k) (S.last + 1)) }):=by
   unfold tPut
   show (T.need (0 <= S.last + 1 /\ S.last + 1 < 10000000) (match S.zaps.lookup z with
    | some es=>T.need (es.length < 900) (T.out () ({ last:=S.last + 1,notes:=put1 S.notes (S.last + 1) [],zaps:=setEs S.zaps z (put1 es (numStr k) (S.last + 1)) } : BSt))
    | none=>T.fail 56)) _ = _
   rw [T.need_ok (iX0b (by have:=W.l0;lia) (by lia)),hz]
   dsimp only
   rw [T.need_ok (by lia)];rfl
  have e3 : (T.need (0 <= k /\ k < 100) ((tNewNote []).bind fun n=>tPut z (numStr k) n)) S = some (.ok (),{ last:=S.last + 1,notes:=put1 S.notes (S.last + 1) [],zaps:=setEs S.zaps z (put1 es (numStr k) (S.last + 1)) }):=by
   rw [T.need_ok (iX0b h0 (by lia)),T.bind_ok e1];exact e2
  unfold tPutKeys
  rw [T.bind_ok (T.safe_ok e3)]
  have c1:=C1.cn
  have c2:=C1.la
  obtain ⟨S',f',e4,D4,C4⟩:=putKeys_ok ks _ _ (kput K k []) C1.wf D1 hnd.2 (fun j hj=>by
   refine eX0c (hk j (.tail _ hj)) fun a b c=>?_
   refine (iX0c a b (fun h=>?_))
   rw [kput_mem] at h
   rcases h with h | h
   ·exact c h
   ·exact hnd.1 (h ▸ hj)) (by lia) (by lia)
  refine (iX2c S' f' e4 D4 ?_)
  have:=C1.trans C4
  rw [show (1 : Int) + (ks.length : Int) = ((k :: ks).length : Nat) from by rw [List.length_cons];push_cast;lia] at this
  exact this
theorem nilK_mem : ∀ (ks : List Int) (K : KP) (j : Int),j ∈ (nilK K ks).map (·.1) ↔ j ∈ K.map (·.1) \/ j ∈ ks
 | [],K,j=>by simp [nilK]
 | k :: ks,K,j=>by
  show j ∈ (nilK (kput K k []) ks).map (·.1) ↔ _
  rw [nilK_mem ks,kput_mem,List.mem_cons,or_assoc]
theorem nilK_get : ∀ (ks : List Int) (K : KP),(∀ j,kget K j = []) -> ∀ j,kget (nilK K ks) j = []
 | [],_,h,j=>h j
 | k :: ks,K,h,j=>by
  show kget (nilK (kput K k []) ks) j = []
  refine nilK_get ks _ (fun i=>?_) j
  rw [kget_kput];split
  ·rfl
  ·exact h i
theorem nilK_nodup : ∀ (ks : List Int) (K : KP),(K.map (·.1)).Nodup -> ((nilK K ks).map (·.1)).Nodup
 | [],_,h=>h
 | k :: ks,K,h=>nilK_nodup ks _ (kput_nodup h)
theorem nilK_tot (ks : List Int) : tot (nilK [] ks) = 0:=by
 have h:=nilK_get ks [] (fun _=>rfl)
 have hn:=nilK_nodup ks [] .nil
 generalize nilK [] ks = K at h hn
 as_aux_lemma =>
 have : ∀ p ∈ K,p.2.length = 0:=fun p hp=>by
  have h1:=h p.1
  unfold kget at h1
  rw [lookup_mem1 hn hp] at h1
  rw [show p.2 = [] from h1];rfl
 unfold tot
 clear h hn
 induction K with
 | nil=>rfl
 | cons p r ih =>
  rw [List.map_cons,List.sum_cons,this p (.head _),ih fun q hq=>this q (.tail _ hq)]
structure Born (S S' : BSt) (d : Int) (f : Int -> Option Int) (ns : List Int) : Prop where
 hd : d = S.last + 1
 wf : WF S'
 inn : DeadIn S' d f (nilK [] ns)
 zo : ∀ z',z' ≠ d -> S'.zaps.lookup z' = S.zaps.lookup z'
 no : ∀ n,n <= S.last -> S'.notes.lookup n = S.notes.lookup n
 nw : ∀ k n,f k = some n -> d < n
 dn : S'.notes.lookup d = none
 la : S.last <= S'.last /\ S'.last <= S.last + 11
 cn : S'.notes.length = S.notes.length + (nilK [] ns).length
 cz : S'.zaps.length = S.zaps.length + 1
theorem nilK_length {ns : List Int} (hns : ∀ k ∈ ns,0 <= k /\ k < 10) : (nilK [] ns).length = (sortedK ns).length:=by
 have hp : ((nilK [] ns).map (·.1)).Perm (sortedK ns):=(List.perm_ext_iff_of_nodup (nilK_nodup ns [] .nil) (sortedK_nd ns)).mpr fun j=>by
  rw [nilK_mem,sortedK_mem hns];simp
 have:=hp.length_eq
 rwa [List.length_map] at this
theorem newDead_ok (W : WF S) {ns : List Int} (hns : ∀ k ∈ ns,0 <= k /\ k < 10) (hN : S.notes.length <= 100) (hZ : S.zaps.length <= 100) (hL : S.last <= 800000) : ∃ d S' f,tNewDead ns S = some (.ok d,S') /\ Born S S' d f ns:=by
 have zfresh : S.last + 1 ∉ S.zaps.map (·.1):=fun h=>by have:=W.lz _ h;lia
 have nfresh : S.last + 1 ∉ S.notes.map (·.1):=fun h=>by have:=W.ln _ h;lia
 have lk : ∀ z',((S.zaps ++ [(S.last + 1,([] : List (Str × Int)))]).lookup z') = if z' = S.last + 1 then some [] else S.zaps.lookup z':=fun z'=>by
  rw [<- put1_new (es:=S.zaps) zfresh,put1_lookup]
 have e1 : tNewZap S = some (.ok (S.last + 1),{ S with last:=S.last + 1,zaps:=S.zaps ++ [(S.last + 1,[])] }):=by
  unfold tNewZap
  show (T.need (S.zaps.length < 900 /\ S.last < 1000000 /\ S.last + 1 ∉ S.zaps.map (·.1)) (T.out (S.last + 1) { S with last:=S.last + 1,zaps:=S.zaps ++ [(S.last + 1,[])] })) S = _
  rw [T.need_ok (iX0c (by lia) (by lia) zfresh)];rfl
 have W1 : WF { S with last:=S.last + 1,zaps:=S.zaps ++ [(S.last + 1,[])] }:=by
  refine ⟨W.nn,?_,fun m hm=>?_,fun m hm=>?_,?_⟩
  ·show ((S.zaps ++ [(S.last + 1,([] : List (Str × Int)))]).map (·.1)).Nodup
   rw [List.map_append]
   exact List.nodup_append.mpr (iX0c W.nz (by simp) (fun a ha b hb e=>zfresh (by simp at hb;rw [<- hb,<- e];exact ha)))
  ·show m <= S.last + 1
   have:=W.ln m hm;lia
  ·show m <= S.last + 1
   have hm' : m ∈ (S.zaps ++ [(S.last + 1,([] : List (Str × Int)))]).map (·.1):=hm
   rw [List.map_append,List.mem_append] at hm'
   rcases hm' with h | h
   ·have:=W.lz m h;lia
   ·simp at h;lia
  ·show 0 <= S.last + 1
   have:=W.l0;lia
 have D1 : DeadIn { S with last:=S.last + 1,zaps:=S.zaps ++ [(S.last + 1,[])] } (S.last + 1) (fun _=>none) [] :=
  ⟨(iX1d ([]) ((lk _).trans (if_pos rfl)) .nil (fun s h=>nomatch h) (fun _ _ _=>rfl)),(fun _ _ h=>nomatch h),(fun k=>by simp),(fun _ _ h=>nomatch h),(fun _ _ _ h=>nomatch h),.nil⟩
 have hsl:=sortedK_len ns
 obtain ⟨S',f,e2,D2,C2⟩:=putKeys_ok (z:=S.last + 1) (sortedK ns) _ _ [] W1 D1 (sortedK_nd ns) (fun k hk=>by
  refine eX0b (hns k ((sortedK_mem hns).mp hk)) fun a b=>?_
  exact (iX0c a b (by simp))) (by show S.notes.length + (sortedK ns).length <= 200;lia) (by show S.last + 1 + (sortedK ns).length <= 900000;lia)
 have no1 : ∀ n,n <= S.last + 1 -> S'.notes.lookup n = S.notes.lookup n:=fun n h=>C2.no n (fun k q=>by cases q) h
 have la2:=C2.la
 have cn2:=C2.cn
 have cz2:=congrArg List.length C2.zk
 rw [List.length_map,List.length_map] at cz2
 refine (iX3b (S.last + 1) S' f ?_ (⟨rfl,C2.wf,D2.congr (fun j=>?_) (fun j=>?_) (nilK_nodup ns [] .nil),fun z' hz'=>?_,fun n h=>no1 n (by lia),fun k n h=>?_,?_,?_,?_,?_⟩))
 ·unfold tNewDead
  rw [T.bind_ok e1,T.bind_ok e2];rfl
 ·rw [nilK_mem,nilK_mem,sortedK_mem hns]
 ·rw [nilK_get ns [] (fun _=>rfl),nilK_get (sortedK ns) [] (fun _=>rfl)]
 ·rw [C2.zo z' hz']
  exact (lk z').trans (if_neg hz')
 ·rcases C2.nw k n h with ⟨j,hj⟩ | hj
  ·cases hj
  ·exact hj
 ·rw [no1 _ (Int.le_refl _)]
  cases q : S.notes.lookup (S.last + 1) with
  | none=>rfl
  | some ps=>exact absurd (lookup_some_mem.mp (by rw [q];rfl)) nfresh
 ·have : S.last + 1 <= S'.last /\ S'.last <= S.last + 1 + (sortedK ns).length:=la2
  lia
 ·rw [nilK_length hns]
  have : (S'.notes.length : Int) = S.notes.length + (sortedK ns).length:=cn2
  lia
 ·have : S'.zaps.length = (S.zaps ++ [(S.last + 1,([] : List (Str × Int)))]).length:=cz2
  rw [List.length_append] at this;exact this
end
structure Two (S : BSt) (z0 z1 : Int) (f0 f1 : Int -> Option Int) (K0 K1 : KP) : Prop where
 w : WF S
 d0 : DeadIn S z0 f0 K0
 d1 : DeadIn S z1 f1 K1
 ne : z0 ≠ z1
 dj : ∀ k j n,f0 k = some n -> f1 j ≠ some n
 n0 : S.notes.lookup z0 = none
 n1 : S.notes.lookup z1 = none
 cz : S.zaps.length <= 3
 cn : S.notes.length = K0.length + K1.length
section
variable {S S' : BSt} {z z0 z1 : Int} {f f' f0 f1 : Int -> Option Int} {K K' K0 K1 : KP} {dk dl : Int}
theorem Two.swap (T : Two S z0 z1 f0 f1 K0 K1) : Two S z1 z0 f1 f0 K1 K0 :=
 ⟨T.w,T.d1,T.d0,Ne.symm T.ne,fun k j n h1 h2=>T.dj j k n h2 h1,T.n1,T.n0,T.cz,by rw [T.cn,Nat.add_comm]⟩
theorem DeadIn.z_le (W : WF S) (D : DeadIn S z f K) : z <= S.last:=by
 refine eX1b (D.es) fun es h _=>?_
 exact W.lz z (lookup_some_mem.mp (by rw [h];rfl))
theorem DeadIn.nid (D : DeadIn S z f K) {n : Int} (h : S.notes.lookup n = none) (k : Int) : f k ≠ some n:=fun q=>by
 have:=D.v k n q
 rw [h] at this;cases this
theorem Two.chg0 (T : Two S z0 z1 f0 f1 K0 K1) (D : DeadIn S' z0 f' K') (C : Chg S S' z0 f0 f' dk dl) (hc : (S'.notes.length : Int) - S.notes.length = K'.length - K0.length) : Two S' z0 z1 f' f1 K' K1 where
 w:=C.wf
 d0:=D
 d1:=T.d1.move (C.zo _ (Ne.symm T.ne)) fun k n h=>C.no n (fun j hj=>T.dj j k n hj h) (T.d1.id_le T.w h)
 ne:=T.ne
 dj:=fun k j n h1 h2=>by
  rcases C.nw k n h1 with ⟨i,hi⟩ | hl
  ·exact T.dj i j n hi h2
  ·have:=T.d1.id_le T.w h2;lia
 n0:=(C.no z0 (T.d0.nid T.n0) (T.d0.z_le T.w)).trans T.n0
 n1:=(C.no z1 (T.d0.nid T.n1) (T.d1.z_le T.w)).trans T.n1
 cz:=by
  have:=congrArg List.length C.zk
  rw [List.length_map,List.length_map] at this
  have:=T.cz;lia
 cn:=by have:=T.cn;lia
theorem kput_len {k : Int} {ps : List Pt} (h : k ∈ K.map (·.1)) : (kput K k ps).length = K.length:=by rw [kput_put1,put1_length,if_pos h]
theorem kput_len' {k : Int} {ps : List Pt} (h : k ∉ K.map (·.1)) : (kput K k ps).length = K.length + 1:=by rw [kput_put1,put1_length,if_neg h]
theorem kget_none {k : Int} (h : k ∉ K.map (·.1)) : kget K k = []:=by
 unfold kget
 cases q : K.lookup k with
 | none=>rfl
 | some ps=>exact absurd (lookup_some_mem.mp (by rw [q];rfl)) h
theorem ownPut_keys (K : KP) (p : Pt) : (ownPut K p).map (·.1) = K.map (·.1):=by
 unfold ownPut
 simp only
 split
 ·rename_i h
  rw [kput_put1,put1_keys,if_pos (mxb_mem h)]
 ·rfl
theorem ownPut_tot (K : KP) (p : Pt) : tot (ownPut K p) <= tot K + 1:=by
 unfold ownPut
 simp only
 split
 ·have:=tot_kput K (mxb (K.map (·.1)) p.birth) (kget K (mxb (K.map (·.1)) p.birth) ++ [p])
  rw [List.length_append,List.length_singleton] at this
  lia
 ·lia
theorem ownPut_klen (K : KP) (p : Pt) : (ownPut K p).length = K.length:=by
 have:=congrArg List.length (ownPut_keys K p)
 rwa [List.length_map,List.length_map] at this
theorem ownAdd_len {key : Int} (h : key ∉ K.map (·.1)) : (ownAdd K key).length = K.length + 1:=by
 unfold ownAdd
 rw [if_neg h]
 simp only
 split
 ·rename_i hb
  rw [kput_len (kput_mem.mpr (.inl (mxb_mem hb))),kput_len' h]
 ·rw [kput_len' h]
theorem ownAdd_tot (K : KP) (key : Int) : tot (ownAdd K key) <= tot K:=by
 by_cases h : key ∈ K.map (·.1)
 ·unfold ownAdd;rw [if_pos h];exact Nat.le_refl _
 ·unfold ownAdd
  rw [if_neg h]
  simp only
  have h0:=kget_none h
  split
  ·rename_i hb
   have hbl : mxb (K.map (·.1)) key ≠ key:=by have:=mxb_lt hb;lia
   have e1:=tot_kput (kput K key (younger key (kget K (mxb (K.map (·.1)) key)))) (mxb (K.map (·.1)) key) (elder key (kget K (mxb (K.map (·.1)) key)))
   have e2:=tot_kput K key (younger key (kget K (mxb (K.map (·.1)) key)))
   have e3:=yo_eo key (kget K (mxb (K.map (·.1)) key))
   rw [kget_kput,if_neg hbl] at e1
   rw [h0,List.length_nil] at e2
   lia
  ·have e2:=tot_kput K key (younger key [])
   rw [h0,List.length_nil] at e2
   have : (younger key []).length = 0:=rfl
   lia
theorem kdel_len (hn : (K.map (·.1)).Nodup) {key : Int} (h : key ∈ K.map (·.1)) : (kdel K key).length + 1 = K.length:=fil_length hn h
theorem ownTake_len (hn : (K.map (·.1)).Nodup) {key : Int} (h : key ∈ K.map (·.1)) (hb : mxb (K.map (·.1)) key < 0 -> kget K key = []) : (ownTake K key).length + 1 = K.length:=by
 unfold ownTake
 rw [if_pos h]
 simp only
 split
 ·rename_i h1
  rw [if_neg (by rw [hb h1];simp)]
  exact kdel_len hn h
 ·rename_i h1
  rw [kput_len (kdel_mem.mpr (iX0b (mxb_mem (by lia)) (fun q=>by have:=mxb_lt (ks:=K.map (·.1)) (n:=key) (by lia);lia)))]
  exact kdel_len hn h
theorem ownTake_tot (K : KP) (key : Int) : tot (ownTake K key) <= tot K:=by
 have h1:=tot_kdel (K:=K) (k:=key)
 unfold ownTake
 split
 ·simp only
  split
  ·split
   ·exact Nat.le_refl _
   ·lia
  ·have:=tot_kput (kdel K key) (mxb (K.map (·.1)) key) (kget (kdel K key) (mxb (K.map (·.1)) key) ++ kget K key)
   rw [List.length_append] at this
   lia
 ·exact Nat.le_refl _
theorem ownTake_none {key : Int} (h : key ∉ K.map (·.1)) : ownTake K key = K:=by unfold ownTake;rw [if_neg h]
theorem ownTake_mis {key : Int} (h : key ∈ K.map (·.1)) (hb : mxb (K.map (·.1)) key < 0) (hk : kget K key ≠ []) : ownTake K key = K:=by unfold ownTake;rw [if_pos h];simp only;rw [if_pos hb,if_pos hk]
theorem ownAdd_old {key : Int} (h : key ∈ K.map (·.1)) : ownAdd K key = K:=by unfold ownAdd;rw [if_pos h]
theorem ownPut_old {p : Pt} (h : mxb (K.map (·.1)) p.birth < 0) : ownPut K p = K:=by unfold ownPut;simp only;rw [if_neg (by lia)]
theorem nilK_len {ns ms : List Int} (h : ∀ j,j ∈ ns ↔ j ∈ ms) : (nilK [] ns).length = (nilK [] ms).length:=by
 have hp : ((nilK [] ns).map (·.1)).Perm ((nilK [] ms).map (·.1)):=(List.perm_ext_iff_of_nodup (nilK_nodup ns [] .nil) (nilK_nodup ms [] .nil)).mpr fun j=>by
  rw [nilK_mem,nilK_mem,h]
 have:=hp.length_eq
 rwa [List.length_map,List.length_map] at this
theorem DeadIn.nilK {ns : List Int} (D : DeadIn S z f (nilK [] ns)) (hn : (K.map (·.1)).Nodup) (h : ∀ j,j ∈ K.map (·.1) ↔ j ∈ ns) (h2 : ∀ j,kget K j = []) : DeadIn S z f K :=
 D.congr (fun j=>by rw [h,nilK_mem];simp) (fun j=>by rw [h2,nilK_get ns [] fun _=>rfl]) hn
theorem sorted_below (ks : List Int) {key : Int} (h : key <= 9) : ((sortedK ks).filter fun k=>decide (k < key)).Sublist [0,1,2,3,4,5,6,7,8]:=by
 have h1 : sortedK ks = ([0,1,2,3,4,5,6,7,8,9] : List Int).filter fun k=>decide (k ∈ ks):=by
  unfold sortedK
  rw [show ([0,1,2,3,4,5,6,7,8,9] : List Int) = (List.range 10).map fun (i : Nat)=>(i : Int) from rfl,List.filter_map]
  rfl
 rw [h1,List.filter_filter,show ([0,1,2,3,4,5,6,7,8,9] : List Int) = [0,1,2,3,4,5,6,7,8] ++ [9] from rfl,List.filter_append]
 have : ([9] : List Int).filter (fun a=>decide (a < key) && decide (a ∈ ks)) = []:=by
  rw [List.filter_cons,if_neg (by simp;intro h2;lia)];rfl
 rw [this,List.append_nil]
 exact List.filter_sublist
theorem copy_ok (H : Two S z0 z1 f0 f1 K0 K1) {key : Int} (hk : key <= 9) (hL : S.last <= 5000) :
  ∃ d S' S2,tCopy z0 key S = some (.ok d,S') /\ LawIsK S' d (nilK [] ((K0.map (·.1)).filter fun k=>decide (k < key))) /\ tDropDead d S' = some (.ok (),S2) /\ Two S2 z0 z1 f0 f1 K0 K1 /\ S2.last <= S.last + 11:=by
 have hcn:=H.cn
 have hcz:=H.cz
 have k0:=H.d0.klen
 have k1:=H.d1.klen
 refine eX1a ((show ∃ ns,ns = (sortedK (K0.map (·.1))).filter fun k=>decide (k < key) from (iX1a _ rfl))) fun ns hns=>?_
 have hm : ∀ j,j ∈ ns ↔ j ∈ (K0.map (·.1)).filter fun k=>decide (k < key):=fun j=>by rw [hns,List.mem_filter,List.mem_filter,sortedK_mem H.d0.rngs]
 refine eX3b (newDead_ok H.w (ns:=ns) (fun k hk=>H.d0.rng (List.mem_filter.mp ((hm k).mp hk)).1) (by lia) (by lia) (by lia)) fun d S' f e B=>?_
 refine eX1b (dropDead_ok B.wf B.inn B.dn) fun S2 e2 G=>?_
 have hd:=B.hd
 have no : ∀ n,n <= S.last -> S2.notes.lookup n = S.notes.lookup n:=fun n h=>(G.no n fun k q=>by have:=B.nw k n q;lia).trans (B.no n h)
 have zo : ∀ z',z' ≠ d -> S2.zaps.lookup z' = S.zaps.lookup z':=fun z' h=>(G.zo z' h).trans (B.zo z' h)
 have l0:=H.d0.z_le H.w
 have l1:=H.d1.z_le H.w
 refine (iX3e d S' S2 ?_ (lawIs_of (f:=f) (B.inn.congr (fun j=>?_) (fun j=>?_) (nilK_nodup _ [] .nil)) (by rw [nilK_tot];lia)) e2 (⟨G.wf,?_,?_,H.ne,H.dj,(no z0 l0).trans H.n0,(no z1 l1).trans H.n1,?_,?_⟩) ?_)
 ·unfold tCopy
  rw [T.bind_ok (deadKeys_eq H.d0),T.need_ok (List.isSublist_iff_sublist.mpr (sorted_below _ hk)),<- hns]
  exact e
 ·rw [nilK_mem,nilK_mem,hm]
 ·rw [nilK_get _ [] fun _=>rfl,nilK_get _ [] fun _=>rfl]
 ·exact H.d0.move (zo _ (by lia)) fun k n h=>no n (H.d0.id_le H.w h)
 ·exact H.d1.move (zo _ (by lia)) fun k n h=>no n (H.d1.id_le H.w h)
 ·have:=G.cz;have:=B.cz;lia
 ·have:=G.cn;have:=B.cn;lia
 ·have:=G.la;have:=B.la;lia
theorem stepTwo (H : Two S z0 z1 f0 f1 K0 K1) (ht : tot K0 <= 18) (hL : S.last <= 5000) {x : Int} (N : Fin 18) {Post : BSt -> KP -> Prop} (hP : ∀ S' f' K',Two S' z0 z1 f' f1 K' K1 -> tot K' <= tot K0 + 1 -> S'.last <= S.last + 11 -> Post S' K') :
  StepP S z0 K0 (x.fmod 9) (keyOf x) (highOf x) ⟨N,keyFin x⟩ Post:=by
 have hcn:=H.cn
 have k0:=H.d0.klen
 have k1:=H.d1.klen
 have h0 : 0 <= keyOf x:=Int.fmod_nonneg_of_pos _ (by decide)
 have h1 : keyOf x < 10:=Int.fmod_lt_of_pos _ (by decide)
 have same : Post S K0:=hP S f0 K0 H (by lia) (by lia)
 generalize keyOf x = key at h0 h1 ⊢
 as_aux_lemma =>
 refine ⟨fun _=>?_,fun _=>?_,fun _=>?_,fun _=>?_,fun _=>?_,fun _=>?_⟩
 ·by_cases hb : 0 <= mxb (K0.map (·.1)) (⟨N,keyFin x⟩ : Pt).birth
  ·refine eX1c (putDead_ok H.w H.d0 hb (by lia) (by lia)) fun S' e D C=>?_
   have:=C.cn
   have:=C.la
   have h3:=ownPut_klen K0 ⟨N,keyFin x⟩
   exact T.wp_ok e (iX0b hb (hP _ _ _ (H.chg0 D C (by lia)) (ownPut_tot _ _) (by lia)))
  ·refine T.wp_err (putDead_err H.d0 (by lia)) (iX0c rfl (by lia) ?_)
   rw [ownPut_old (by lia)];exact same
 ·by_cases hk : key ∈ K0.map (·.1)
  ·refine T.wp_err (addKey_err H.d0 hk) (iX0c rfl hk ?_)
   rw [ownAdd_old hk];exact same
  ·refine eX2c (addKey_ok H.w H.d0 hk h0 h1 (by lia) (by lia) (by lia)) fun S' f' e D C=>?_
   have:=C.cn
   have:=C.la
   have h3:=ownAdd_len hk
   have h4:=ownAdd_tot K0 key
   exact T.wp_ok e (iX0b hk (hP _ _ _ (H.chg0 D C (by lia)) (by lia) (by lia)))
 ·by_cases hk : key ∈ K0.map (·.1)
  ·by_cases hb : mxb (K0.map (·.1)) key < 0 /\ kget K0 key ≠ []
   ·refine T.wp_err (takeKey_misused H.d0 hk hb.1 hb.2 (by lia)) (.inr (iX0e rfl hk hb.1 hb.2 ?_))
    rw [ownTake_mis hk hb.1 hb.2];exact same
   ·have hb' : mxb (K0.map (·.1)) key < 0 -> kget K0 key = []:=fun h=>Decidable.byContradiction fun q=>hb (iX0b h q)
    refine eX2c (takeKey_ok H.w H.d0 hk hb' (by lia) (by lia)) fun S' f' e D C=>?_
    have:=C.cn
    have:=C.la
    have h3:=ownTake_len H.d0.nk hk hb'
    have h4:=ownTake_tot K0 key
    exact T.wp_ok e (iX0c hk hb' (hP _ _ _ (H.chg0 D C (by lia)) (by lia) (by lia)))
  ·refine T.wp_err (takeKey_missing H.d0 h0 h1 hk) (.inl (iX0c rfl hk ?_))
   rw [ownTake_none hk];exact same
 ·refine eX3d (moveAbove_ok H.w H.d0 key (by lia)) fun S' f' dk e D C hc=>?_
  have:=C.la
  have h4:=tot_filter (fun p=>decide (p.1 < key)) K0
  exact T.wp_ok e (iX0b rfl (hP _ _ _ (H.chg0 D C hc) (by lia) (by lia)))
 ·exact T.wp_ok (between_eq H.d0 key (highOf x) (by lia)) (iX0b rfl same)
 ·refine eX3e (copy_ok H (key:=key) (by lia) hL) fun d S' S2 e L e2 T2 hl=>?_
  exact T.wp_ok e (iX0b L (T.wp_ok e2 (hP _ _ _ T2 (by lia) hl)))
end
noncomputable def Good (n : Nat) (S : BSt) (z0 z1 : Int) (K0 K1 : KP) : Prop:=n <= 18 /\ tot K0 + tot K1 <= n /\ S.last <= 100 + 40 * n /\ ∃ f0 f1,Two S z0 z1 f0 f1 K0 K1
section
variable {S S' : BSt} {z z0 z1 : Int} {f f' f0 f1 : Int -> Option Int} {K K' K0 K1 : KP} {dk dl : Int}
theorem putAll_ok : ∀ (ps : List Pt) (S : BSt) (K : KP),WF S -> DeadIn S z f K -> (∀ p ∈ ps,0 <= mxb (K.map (·.1)) p.birth) -> S.notes.length < 900 -> tot K + ps.length <= 900 ->
  ∃ S',tPutAll z ps S = some (.ok (),S') /\ DeadIn S' z f (ps.foldl ownPut K) /\ Chg S S' z f f 0 0 /\ (ps.foldl ownPut K).length = K.length /\ tot (ps.foldl ownPut K) <= tot K + ps.length
 | [],S,K,W,D,_,_,_=>⟨S,rfl,D,Chg.refl W,rfl,Nat.le_refl _⟩
 | p :: ps,S,K,W,D,hb,hN,ht=>by
  rw [List.length_cons] at ht
  refine eX1c (putDead_ok W D (hb p (.head _)) hN (by lia)) fun S1 e1 D1 C1=>?_
  have h1:=ownPut_tot K p
  have h2:=C1.cn
  refine eX1e (putAll_ok ps S1 (ownPut K p) C1.wf D1 (fun q hq=>by rw [ownPut_keys];exact hb q (.tail _ hq)) (by lia) (by lia)) fun S' e2 D2 C2 h3 h4=>?_
  refine ⟨S',?_,D2,C1.trans C2,h3.trans (ownPut_klen K p),?_⟩
  ·unfold tPutAll
   rw [T.bind_ok (T.safe_ok e1)];exact e2
  ·rw [List.foldl_cons,List.length_cons];lia
theorem merge_ok (H : Two S z0 z1 f0 f1 K0 K1) (ht : tot K0 + tot K1 <= 18) (hL : S.last <= 5000) {Post : BSt -> Int -> KP -> KP -> Prop} (hO : Post S z1 K0 K1)
  (hP : ∀ S' z' f0' f1' K0' K1',Two S' z0 z' f0' f1' K0' K1' -> tot K0' + tot K1' <= tot K0 + tot K1 -> S'.last <= S.last + 12 -> Post S' z' K0' K1') : MergeP S z0 z1 K0 K1 Post:=by
 have hcn:=H.cn
 have hcz:=H.cz
 have k0:=H.d0.klen
 have k1:=H.d1.klen
 have hfl:=kflat_tot K1
 refine ⟨fun _=>hO,fun hb=>?_⟩
 refine eX1e (putAll_ok (kflat K1) S K0 H.w H.d0 hb (by lia) (by lia)) fun S1 e1 D1 C1 hlen htot=>?_
 have c1:=C1.cn
 have c2:=C1.la
 have H1:=H.chg0 D1 C1 (by lia)
 refine eX1b (dropDead_ok H1.w H1.d1 H1.n1) fun S2 e2 G=>?_
 have g1:=G.cn
 have g2:=G.cz
 have g3:=G.la
 refine eX3b (newDead_ok G.wf (ns:=[5,0,5]) (by decide) (by have:=H1.cn;lia) (by have:=H1.cz;lia) (by lia)) fun d S3 f e3 B=>?_
 have hd:=B.hd
 have b1:=B.la
 have b2:=B.cn
 have b3:=B.cz
 have l0:=H1.d0.z_le H1.w
 have l1:=H1.d1.z_le H1.w
 have n0 : S3.notes.lookup z0 = none:=(B.no z0 (by lia)).trans ((G.no z0 (H1.d1.nid H1.n0)).trans H1.n0)
 have n1 : S3.notes.lookup z1 = none:=(B.no z1 (by lia)).trans ((G.no z1 (H1.d1.nid H1.n1)).trans H1.n1)
 have q1 : S3.zaps.lookup z1 = none:=(B.zo z1 (by lia)).trans G.zn
 refine T.wp_ok (S':=S2) (a:=()) ?_ (T.wp_ok e3 (T.wp_ok (S':=S3) (a:=false) ?_ (iX0b rfl (hP S3 d f0 f _ _ ⟨B.wf,?_,B.inn.nilK (K:=[(0,[]),(5,[])]) (by decide) (fun j=>by simp;lia) (fun j=>?_),by lia,fun k j n h h2=>?_,n0,B.dn,?_,?_⟩ ?_ ?_))))
 ·unfold tMerge
  rw [T.bind_ok (deadPts_eq H.d1 (by lia)),T.bind_ok e1];exact e2
 ·unfold tIsThere
  show some ((.ok ((S3.notes.lookup z1).isSome || (S3.zaps.lookup z1).isSome) : Except Addr Bool),S3) = _
  rw [n1,q1];rfl
 ·refine D1.move ((B.zo z0 (by lia)).trans (G.zo z0 H.ne)) fun k n h=>?_
  exact (B.no n (by have:=H1.d0.id_le H1.w h;lia)).trans (G.no n fun j hj=>H1.dj k j n h hj)
 ·unfold kget
  rw [List.lookup_cons];split
  ·rfl
  ·rw [List.lookup_cons];split <;> rfl
 ·have:=B.nw j n h2
  have:=H1.d0.id_le H1.w h
  lia
 ·have:=H1.cz;lia
 ·have h5 : (nilK [] [5,0,5]).length = 2:=rfl
  have h6 : ([(0,[]),(5,[])] : KP).length = 2:=rfl
  have:=H1.cn;lia
 ·have : tot [(0,[]),(5,[])] = 0:=rfl
  lia
 ·lia
theorem fin_ok (H : Two S z0 z1 f0 f1 K0 K1) : (tDropDead z0).wp S (fun _ S1=>(tIsThere z0).wp S1 (fun r S2=>r = false /\ S2.notes.length = K1.length) fun _ _=>False) fun _ _=>False:=by
 refine eX1b (dropDead_ok H.w H.d0 H.n0) fun S2 e2 G=>?_
 have hc:=H.cn
 have g1:=G.cn
 refine T.wp_ok e2 (T.wp_ok (S':=S2) (a:=false) ?_ (iX0b rfl (by lia)))
 unfold tIsThere
 show some ((.ok ((S2.notes.lookup z0).isSome || (S2.zaps.lookup z0).isSome) : Except Addr Bool),S2) = _
 rw [G.no z0 (H.d0.nid H.n0),H.n0,G.zn];rfl
theorem base0_wf : WF base0:=⟨.nil,by decide,(fun n h=>nomatch h),(by decide),(by decide)⟩
theorem init_ok {a b : Int} (ha : 0 <= a /\ a < 10) (hb : 0 <= b /\ b < 10) : (tNewDead [b,a,0]).wp base0 (fun z0 S1=>(tNewDead [3,0]).wp S1 (fun z1 S2=>Good 0 S2 z0 z1 (nilK [] [0,a,b]) [(0,[]),(3,[])]) fun _ _=>False) fun _ _=>False:=by
 obtain ⟨z0,S1,f0,e1,B1⟩:=newDead_ok base0_wf (ns:=[b,a,0]) (fun k hk=>by
  simp only [List.mem_cons,List.not_mem_nil,or_false] at hk
  lia) (by decide) (by decide) (by decide)
 have hd1:=B1.hd
 have a1:=B1.la
 have a2:=B1.cn
 have a3:=B1.cz
 have hl0 : base0.last = 1:=rfl
 have hn0 : base0.notes.length = 0:=rfl
 have hz0 : base0.zaps.length = 1:=rfl
 have hlen : (nilK [] [b,a,0]).length <= 10:=by
  have:=B1.inn.klen;exact this
 have hlen2 : (nilK [] [b,a,0]).length = (nilK [] [0,a,b]).length:=nilK_len fun j=>by simp only [List.mem_cons,List.not_mem_nil,or_false];lia
 refine eX3b (newDead_ok B1.wf (ns:=[3,0]) (by decide) (by lia) (by lia) (by lia)) fun z1 S2 f1 e2 B2=>?_
 have hd2:=B2.hd
 have b1:=B2.la
 have b2:=B2.cn
 have b3:=B2.cz
 have l0:=B1.inn.z_le B1.wf
 have ne : z0 ≠ z1:=by lia
 refine T.wp_ok e1 (T.wp_ok e2 ⟨by decide,?_,by lia,f0,f1,⟨B2.wf,?_,B2.inn.nilK (K:=[(0,[]),(3,[])]) (by decide) (fun j=>by simp;lia) (fun j=>?_),ne,fun k j n h h2=>?_,(B2.no z0 l0).trans B1.dn,B2.dn,by lia,?_⟩⟩)
 ·rw [nilK_tot];decide
 ·refine (B1.inn.nilK (K:=nilK [] [0,a,b]) (nilK_nodup _ [] .nil) (fun j=>?_) (nilK_get _ [] fun _=>rfl)).move (B2.zo z0 ne) fun k n h=>B2.no n (B1.inn.id_le B1.wf h)
  rw [nilK_mem]
  simp only [List.mem_cons,List.not_mem_nil,or_false,List.map_nil,false_or];lia
 ·unfold kget
  rw [List.lookup_cons];split
  ·rfl
  ·rw [List.lookup_cons];split <;> rfl
 ·have:=B2.nw j n h2
  have:=B1.inn.id_le B1.wf h
  lia
 ·have h5 : (nilK [] [3,0]).length = 2:=rfl
  have h6 : ([(0,[]),(3,[])] : KP).length = 2:=rfl
  lia
end
theorem plainLaw : PlainLaw Good where
 init:=fun x _=>init_ok (iX0b (Int.fmod_nonneg_of_pos _ (by decide)) (Int.fmod_lt_of_pos _ (by decide))) (iX0b (Int.fmod_nonneg_of_pos _ (by decide)) (Int.fmod_lt_of_pos _ (by decide)))
 is0:=fun ⟨h1,h2,_,f0,f1,H⟩=>lawIs_of H.d0 (by lia)
 is1:=fun ⟨h1,h2,_,f0,f1,H⟩=>lawIs_of H.d1 (by lia)
 notes:=fun ⟨_,_,_,f0,f1,H⟩=>H.cn
 len0:=fun ⟨h1,h2,_,_,_,_⟩ e he=>by have:=len_tot he;lia
 len1:=fun ⟨h1,h2,_,_,_,_⟩ e he=>by have:=len_tot he;lia
 flat1:=fun {n S z0 z1 K0 K1} ⟨h1,h2,_,_,_,_⟩=>by have:=kflat_tot K1;lia
 step0:=fun ⟨h1,h2,h3,f0,f1,H⟩ hn x _ N=>stepTwo H (by lia) (by lia) N fun S' f' K' H' ht hl=>⟨hn,by lia,by lia,f',f1,H'⟩
 step1:=fun ⟨h1,h2,h3,f0,f1,H⟩ hn x _ N=>stepTwo H.swap (by lia) (by lia) N fun S' f' K' H' ht hl=>⟨hn,by lia,by lia,f0,f',H'.swap⟩
 merge:=fun {n S z0 z1 K0 K1} ⟨h1,h2,h3,f0,f1,H⟩ hn=>merge_ok H (by lia) (by lia) ⟨hn,by lia,by lia,f0,f1,H⟩ fun S' z' f0' f1' K0' K1' H' ht hl=>⟨hn,by lia,by lia,f0',f1',H'⟩
 fin:=fun ⟨_,_,_,f0,f1,H⟩=>fin_ok H
noncomputable def tabsL : List (Addr × Addr):=[(412,408),(417,415),(424,420)]
theorem tabsAt {w : World} {h : Heap} (X : (KF w.params).In h) (hT : ∀ P ∈ tabs,h.get? P = some (tabObj #[])) : TabsAt tabsL h:=by
 have h1 : codeHdIn (KF w.params) 412 408 = true:=by kernel_rfl
 have h2 : codeHdIn (KF w.params) 417 415 = true:=by kernel_rfl
 have h3 : codeHdIn (KF w.params) 424 420 = true:=by kernel_rfl
 intro q hq
 unfold tabsL at hq
 simp only [List.mem_cons,List.not_mem_nil,or_false] at hq
 rcases hq with rfl | rfl | rfl
 ·exact (iX0b (codeHd_of_K X h1) (hT _ (by decide)))
 ·exact (iX0b (codeHd_of_K X h2) (hT _ (by decide)))
 ·exact (iX0b (codeHd_of_K X h3) (hT _ (by decide)))
theorem noTabsK (w : World) : noTabs (KF w.params) = true:=by kernel_rfl
theorem lawName (w : World) : nsIn (KF w.params) mainGlobals (S "law") = some (some (.ref 440)):=by kernel_rfl
theorem readInts {R : WRecords} {cl : Str -> Option Addr} {h : Heap} : ∀ {ds : List WData} {vs : List Value} {as : List Addr},WShape.hasItems R ds .int = true -> ReadsAllW R cl h vs ds as -> ∃ xs : List Int,ds.length = xs.length /\ vs.map er = xs.map AV.int
 | [],vs,as,_,r=>by
  refine eX0b (readsAllW_nil_inv r) fun ee548 _=>?_;subst ee548
  exact (iX1b ([]) rfl rfl)
 | d :: ds,vs,as,hh,r=>by
  refine eX4d (readsAllW_cons_inv r) fun v vs' a1 a2 ee549 _ r1 r2=>?_;subst ee549
  have h2 : WShape.has R d .int = true /\ WShape.hasItems R ds .int = true:=by simpa [WShape.hasItems] using hh
  refine eX1a (hasW_int h2.1) fun i ee550=>?_;subst ee550
  refine eX1b (readsW_int_inv r1) fun t ee551 _=>?_;subst ee551
  refine eX1b (readInts h2.2 r2) fun xs h3 h4=>?_
  exact (iX1b (i :: xs) (by simp [h3]) (congrArg (AV.int i :: ·) h4))
theorem lawArgs {w : World} {cl : Str -> Option Addr} {h : Heap} {args : List WData} {vals : List Value} {as : List Addr} (hpre : rwR.toRowW.claim.pre args = true) (hrd : ReadsAllW rwR.toRowW.records cl h vals args as) :
  ∃ sl its,∃ xs : List Int,vals = [.ref sl] /\ h.IsList sl its /\ its.toList.map er = xs.map .int /\ xs.length <= 63:=by
 refine eX0b (pre_splitW hpre) fun hsh hcond=>?_
 refine eX2c (hasAllW_cons hsh) fun d r ee552 h1 h2=>?_;subst ee552
 have:=hasAllW_nil h2
 subst this
 refine eX1b (hasW_list h1) fun ds ee553 h3=>?_;subst ee553
 refine eX4d (readsAllW_cons_inv hrd) fun v vs a1 a2 ee554 _ r1 r2=>?_;subst ee554
 refine eX0b (readsAllW_nil_inv r2) fun ee555 _=>?_;subst ee555
 have hlen : ds.length <= 63:=by
  have c1 : (WTm.not (.lt (.lit (.int 63)) (.len (.arg 0)))).holds ([] : WRecords) { args:=[.list ds] } = true:=(holds_andW hcond).1
  simp [WTm.holds,WTm.value,less?,Num.less?] at c1
  refine Nat.le_of_not_lt fun h=>?_
  rw [decide_eq_true (by lia : (63 : Int) < ds.length)] at c1
  cases c1
 cases r1 with
 | list ho hc hd hr =>
  refine eX1b (readInts h3 hr) fun xs h4 h5=>?_
  exact (iX3d _ _ xs rfl (⟨_,ho,hc,_,hd⟩) h5 (by lia))
theorem enterTop {w : World} {s₁ s' : Shared} {mg mb : Str -> Option Value} {lo : List Str} {mean : ExcName -> Option Value} {binds : List (Str × Value)} {m cm : Str -> Option Value} {cells : List (Str × Addr)} {qual : Str} {scope : Scope} {a : Addr} {cd : Value}
  (X : (KF w.params).In s₁.heap) (T : Top vw lo mean mg mb s₁.heap) (hT : TabsAt tabsL s₁.heap) (hs : (s₁.heap.get? sysModules).isSome = true)
  (x : InCallC s₁ s₁.heap.objs.size m cells cm s') (hk : scope.kind = .function)
  (hm : ∀ y v,scope.names.lookup y = some .local -> (binds.map fun p=>(p.1,er p.2)).lookup y = some v -> ∃ u,m y = some u /\ er u = v)
  (hcm : ∀ y v,scope.names.lookup y = some .cell -> (binds.map fun p=>(p.1,er p.2)).lookup y = some v -> ∃ u,cm y = some u /\ er u = v)
  (hcell : ∀ y,scope.names.lookup y = some .cell -> ∃ c,cells.lookup y = some c) (hfree : ∀ y,scope.names.lookup y ≠ some .free)
  (hb : ∀ p ∈ binds,scope.names.lookup p.1 = some .local \/ scope.names.lookup p.1 = some .cell) :
  InSt { w:=w,hb:=ghostOf s₁.heap tabsL,mg:=mg,mb:=mb,loose:=lo ++ (recsOf vw).map (·.name) ++ (litsOf vw).map (·.1) ++ (clssOf vw lo).map (·.name),mean:=mean,ts:=tabsK,A:=callerA.deeper (envX qual scope s₁.heap.objs.size a cd cells),env:=envX qual scope s₁.heap.objs.size a cd cells,l:=[envX qual scope s₁.heap.objs.size a cd cells],G:=(ghostOf s₁.heap tabsL).get?,g:=s₁.gens,d:=s₁.drawn,os:=s₁.os,wr:=true }
   (binds.map fun p=>(p.1,er p.2)) (fun _=>none) s':=by
 have keep:=x.toInCall.keep
 have hLn : s₁.heap.get? s₁.heap.objs.size = none:=Heap.get?_none_of_le (Nat.le_refl _)
 have gh : ∀ {b},s₁.heap.get? b = none -> (ghostOf s₁.heap tabsL).get? b = none:=fun h=>ghost_fresh h
 have above : ∀ b,s₁.heap.objs.size <= b -> s₁.heap.get? b = none:=fun b hb=>Heap.get?_none_of_le hb
 have cAbove : ∀ y c,cells.lookup y = some c -> s₁.heap.objs.size < c:=fun y c e=>x.above y c (mem_of_lookup e)
 have hfr : frs [envX qual scope s₁.heap.objs.size a cd cells] = [s₁.heap.objs.size]:=rfl
 have tabP : ∀ q ∈ tabsK,q.P ∈ tabsL.map (·.2):=by decide
 refine ⟨⟨ghost_K hT X (noTabsK w),ghost_top hT T,fun b o e=>e,?_,fun b hb=>?_,fun q hq=>?_,?_,?_,rfl,?_,hk,?_,hcell,rfl,rfl,fun e he=>?_⟩,⟨fun b o e n=>keep b o (of_hideAll _ e),(fun a ao e=>nomatch e),fun q hq=>?_⟩,fun b o e n=>?_,⟨(iX1b m x.toInCall.ns hm),gh hLn,rfl,fun y c e=>?_,fun y z c e1 e2=>?_,fun y v e=>?_⟩,?_,?_,?_⟩
 ·refine eX1a (Option.isSome_iff_exists.mp hs) fun o ho=>?_
  show ((ghostOf s₁.heap tabsL).get? sysModules).isSome = true
  rw [ghost_ne ho (by decide)];rfl
 ·have hb : b ∈ [s₁.heap.objs.size]:=hb
  rw [List.mem_singleton.mp hb];exact gh hLn
 ·exact hideAll_none _ (tabP q hq)
 ·exact nle rfl
 ·exact nle rfl
 ·exact Around.frames_deeper rfl
 ·show (ghostOf s₁.heap tabsL).objs.size <= s₁.heap.objs.size
  exact Nat.le_of_eq (hideAll_size _ _)
 ·have he : e ∈ [envX qual scope s₁.heap.objs.size a cd cells]:=he
  rw [List.mem_singleton.mp he]
  exact ⟨by rw [show (envX qual scope s₁.heap.objs.size a cd cells).scope.kind = .function from hk];decide,_,rfl,.inr rfl⟩
 ·refine eX1b (List.mem_map.mp (tabP q hq)) fun r hr e=>?_
  exact (iX1b (#[]) (e ▸ keep _ _ (hT r hr).2) (.inl rfl))
 ·have hb : b ∈ [s₁.heap.objs.size]:=n
  have e : (ghostOf s₁.heap tabsL).get? b = some o:=e
  rw [List.mem_singleton.mp hb,gh hLn] at e;cases e
 ·have ca:=cAbove y c e
  refine (iX0e rfl (Nat.ne_of_gt ca) (iX1a _ (x.cell y c e)) (fun k v hv=>?_) (fun _ _=>gh (above c (Nat.le_of_lt ca))))
  rcases k with k | k
  ·refine eX1b (hcm y v k hv) fun u h1 h2=>?_
   exact (iX1b u (h1 ▸ x.cell y c e) h2)
  ·exact absurd k (hfree y)
 ·exact name_of_addr x.apart (mem_of_lookup e1) (mem_of_lookup e2)
 ·refine eX1b (lookup_binds e) fun p hp ee556=>?_;subst ee556
  rcases hb p hp with k | k
  ·exact .inl k
  ·exact .inr (iX0b (.inl k) (hcell _ k))
 ·refine eX2a (x.toInCall.same) fun h' tk e=>?_;rw [e]
 ·refine eX2a (x.toInCall.same) fun h' tk e=>?_;rw [e]
 ·refine eX2a (x.toInCall.same) fun h' tk e=>?_;rw [e]
theorem lawCall {Good : Nat -> BSt -> Int -> Int -> KP -> KP -> Prop} (PL : PlainLaw Good) {d : DefRec} {kwd : List (Str × Expr)} (hn : d.name = S "law") : WalkO vw loose (XL vw lv) hook.says rwR.toRowW d kwd fun f vs=>PySem.call f vs:=by
 intro w s₀ s₁ mg mb G Y a o pm cd doc dV kV ho hd hcd hD hmg hg args vals as hpre hlay hrd hwl hlo
 have X : (KF w.params).In s₁.heap:=km_in_of Y.1
 have hT:=tabsAt X (km_tabs_of Y.1)
 have T:=G.T
 have ea:=mg_of X T.g (lawName w)
 rw [hn,ea] at hmg
 cases hmg
 refine eX3d (lawArgs (w:=w) hpre hrd) fun sl its xs ee557 hl hits hlen=>?_;subst ee557
 refine enter_call ?_
 refine kn_post hT (fun _ _=>rfl) ?_
 have ho' : (KF w.params).lookup 440 = some _:=rfl
 refine codeAny_call_function (by decide) (X _ _ ho') rfl rfl rfl rfl (codeRec_of X (by rfl)) ((BindsTo.of_eq (by rfl) : BindsTo s₁ _ _ [(S "script",.ref sl)]) _ _ _ _ ?_)
 have hk : (dScope (st 57)).kind = .function:=rfl
 have hloc : (dScope (st 57)).names.lookup (S "script") = some .local:=rfl
 have hnf : ∀ y,(dScope (st 57)).names.lookup y ≠ some .free:=fun y hy=>by
  have h1 : (dScope (st 57)).names.all (fun p=>p.2 != .free) = true:=rfl
  have:=List.all_eq_true.mp h1 _ (mem_of_lookup hy)
  exact absurd this (by simp)
 have hcells : ∀ k y,(dScope (st 57)).names.lookup y = some .cell -> ∃ c,(cellsFrom k (dScope (st 57)).names []).lookup y = some c:=fun k y hy=>Option.isSome_iff_exists.mp (cellsFrom_some _ _ _ (.inl hy))
 have hbk : ∀ p ∈ [(S "script",Value.ref sl)],(dScope (st 57)).names.lookup p.1 = some .local \/ (dScope (st 57)).names.lookup p.1 = some .cell:=fun p hp=>by
  rw [List.mem_singleton.mp hp];exact .inl hloc
 have hnd : ([(S "script",Value.ref sl)].map (·.1)).Nodup:=by simp
 refine wpAny_newFunctionEnv_cells hk (fun p hp=>(hbk p hp).imp id fun q=>(iX0b q (Option.isSome_iff_exists.mpr (hcells _ _ q)))) fun env' he s' x=>?_
 subst he
 refine (iX0b ((T.nolimit).keeps x.toInCall.keep) (codeAny_func ?_))
 have I:=enterTop X T hT Y.2 (qual:=S "law") (scope:=dScope (st 57)) (cells:=cellsFrom (s₁.heap.objs.size + 1) (dScope (st 57)).names []) (a:=440) (cd:=.ref 439) (binds:=[(S "script",.ref sl)]) x hk
  (fun y v hy hv=>bindL_of hy hnd hv) (fun y v hy hv=>bindC_of (show (dScope (st 57)).names.lookup y ≠ some .local by rw [hy];decide) hnd hv) (hcells _) hnf hbk
 refine wpAny_mono (lawBody PL (Q:=fun a _=>a = .bool true) (X:=fun _ _=>False) rfl rfl rfl ⟨by exact nle rfl,by exact nle rfl,rfl⟩ ?_ hits hlen (fun _=>rfl) s' I) (fun fl s₂ p=>?_) fun e s₂ zq151=>eX2b zq151 fun C m' xx q=>q.elim
 ·exact ghost_list hT hl
 cases fl with
 | next=>refine eX2b p fun l' m' I2 q=>?_;cases q
 | ret v =>
  refine eX2b p fun l' m' I2 q=>?_
  have hv:=er_bool q
  subst hv
  have hg2 : s₂.gens = #[]:=I2.gens.trans hg
  refine (iX0b (iX0d (.inl (iX3e (.bool true) (.bool true) ([]) rfl (fun _=>rfl) (.bool true) ?_ (fun _=>(iX0b .nil (fun a h=>nomatch h))))) (fun b o e=>I2.st.kept b o e fun hb=>?_) I2.os hg2) ?_)
  ·exact postW_of (r:=rwR.toRowW) (X:=same (.bool true) (.bool true)) (by first | rfl | decide | (simp [WShape.has,WShape.arms];done)) (by first | rfl | (simp [WTm.value];done)) (same_self _)
  ·have hb : b ∈ [s₁.heap.objs.size]:=hb
   rw [List.mem_singleton.mp hb,show (ghostOf s₁.heap tabsL).get? s₁.heap.objs.size = none from ghost_fresh (Heap.get?_none_of_le (Nat.le_refl _))] at e
   cases e
  ·have tb : ∀ q ∈ tabsK,GrownAt q.P s₂.heap:=fun q hq=>let ⟨ps,h,_⟩:=I2.st.tab q hq;(iX1a ps h)
   exact (iX0d (tb tabPut (.head _)) (tb tabAdded (.tail _ (.head _))) (tb tabTaken (.tail _ (.tail _ (.head _)))) trivial)
 | _=>exact p.elim
theorem lawHolds {Good : Nat -> BSt -> Int -> Int -> KP -> KP -> Prop} (PL : PlainLaw Good) (said : rwR.wellSaid = true) : rwR.Holds :=
 holds_open (q:=vw) (loose:=loose) (Xt:=Xt) (XP:=XL vw lv) (Yf:=hook.obs) (Ya:=hook.val) (YP:=hook.says) (N:=7000) left_ok hook.of hook.keeps (fun s e=>xl_of s (Bool.and_eq_true_iff.mp e).1) XL.keeps (by rfl) (by rfl) (by rfl) (fun s e=>recFacts_of (Bool.and_eq_true_iff.mp e).2) (by rfl) said (by decide +kernel) ⟨rfl,rfl,rfl,rfl,rfl,by decide +kernel⟩ (iX1b ([.list [.int 1]]) (by decide +kernel) (by decide +kernel)) (lawCall PL (by rfl))
noncomputable abbrev rwL : OpenLaw:=PySem.Challenge.rw_np0198_01
noncomputable abbrev rwP : Program:=rwL.row.prog
noncomputable abbrev rds (x : Str) : Prop:=readsOut rwP rwP.main.body x = false
theorem sd1 : namesResolve rwP = true:=by rw [PySem.W.Fast.te8377067652309620493];kernel_rfl
theorem sd2 : rds "vars":=by unfold rds;rw [PySem.W.Fast.te13343964577679436407];kernel_rfl
theorem sd3 : rds "dir":=by unfold rds;rw [PySem.W.Fast.te13343964577679436407];kernel_rfl
theorem sd4 : rds "locals":=by unfold rds;rw [PySem.W.Fast.te13343964577679436407];kernel_rfl
theorem sd5 : noRoadLSs { strict:=false,foot:=none,bare:=[] } rwP.main.body = true:=by rw [PySem.W.Fast.te8326940854005059898];kernel_rfl
theorem sd6 : (namesMeet rwP rwP.main.body fun _ n=>attrL n) = true:=by rw [PySem.W.Fast.te17119622794617984870,PySem.W.Fast.te17868728402115742887];kernel_rfl
theorem sd7 : (importedModules rwP.main.body).all cThrough.contains = true:=by kernel_rfl
theorem sd8 : (["vars","dir","locals"] : List Str).filter (readsOut rwP rwP.main.body) = []:=by
 rw [List.filter_cons,List.filter_cons,List.filter_cons,sd2,sd3,sd4];rfl
theorem sdT : looksOpen rwP = true:=look_both (look_both (look_both (look_both (look_both (by kernel_rfl) (by kernel_rfl)) sd1) (by kernel_rfl)) (by rw [sd7,sd8];exact sd5)) sd6
theorem sdR : rwL.row.wellSaid = true:=look_both (look_both (look_both (look_both (look_both (look_both (look_both (look_both (look_both (look_both (look_both (look_both (look_both (look_both (look_both sdT (by kernel_rfl)) (by kernel_rfl)) (by kernel_rfl)) (by kernel_rfl)) (by kernel_rfl)) (by kernel_rfl)) (by kernel_rfl)) (by kernel_rfl)) (by kernel_rfl)) (by kernel_rfl)) (by kernel_rfl)) (by kernel_rfl)) (by kernel_rfl)) (by kernel_rfl)) (by kernel_rfl)
theorem sd7a : noRoadLSs { strict:=true,foot:=some rwL.bound',writes:=rwL.writes,may:=rwL.may } rwL.footing = true:=by kernel_rfl
theorem sd9 : rwL.bound'.all (fun n=>!builtinNamed n || rwL.about == [n] || !rwL.reads n) = true:=by kernel_rfl
theorem sdA : namesMeet rwL.prog rwL.footing (fun sc n=>(!(["type","isinstance","issubclass","getattr","hasattr"] : List Str).contains n || sc.names.lookup n == some .globalImplicit) &&
  (rwL.may != some n || sc.kind == .module || sc.names.lookup n == some .globalImplicit)) = true:=by kernel_rfl
theorem sdB : namesMeet rwL.prog rwL.above (fun _ n=>!rwL.own.contains n) = true:=by kernel_rfl
theorem sdC : (namesMeet rwL.prog rwL.footing fun sc n=>sc.kind == .module || sc.names.lookup n != some .globalExplicit) = true:=by kernel_rfl
theorem lawSaid : PySem.Challenge.rw_np0198_01.wellSaid = true:=look_both (look_both (look_both (look_both (look_both (look_both (look_both (look_both (look_both (look_both (look_both (look_both (look_both (look_both (look_both (look_both (look_both (look_both sdR (by kernel_rfl)) (by kernel_rfl)) (by kernel_rfl)) (by kernel_rfl)) (by kernel_rfl)) sd7a) (by kernel_rfl)) (by kernel_rfl)) (by kernel_rfl)) sd9) (by kernel_rfl)) (by kernel_rfl)) sdA) (by kernel_rfl)) (by kernel_rfl)) (by kernel_rfl)) sdB) sdC
end Mine
theorem PySem.Challenge.cw_np0198_01_holds : PySem.Challenge.rw_np0198_01.Holds := by
  exact holds_law Mine.lawSaid fun said => Mine.lawHolds Mine.plainLaw said
